import PyProof.Rows.All
import Wide.All
import OpenK.AllK
import Wide.FinOn
import HandS.ForMost
import HandS.ForExc
import HandS.IsInst
import KE.KeyNested
import HandS.Wide
import HandS.SortInts
import HandS.TupAny
import KE.GoesMore
import HandS.TupMul
import HandS.ExcInit
import HandS.ExcField
import HandS.ExcIs
import KE.KExcIs
import HandS.Small
import PyProof.Rows.TupDisplay
import PySem.Challenge.RW_everyasked_k41_whole_delays_behind_a_buc
set_option Elab.async false
set_option linter.all false
set_option maxRecDepth 100000
set_option maxHeartbeats 2000000
/-! The data layer, part a: data trees, the abstract store, what stands for what. -/
namespace DL
open PySem PySem.Spec PyProof.Rows L2

/-- data: trees that never change; ref a: a mutable object of the store -/
inductive D where
  | non | bl (b : Bool) | int (i : Int) | str (x : Str) | ref (a : Addr)
  | lst (xs : List D) | tup (xs : List D) | fro (xs : List D) | obj (C : Addr) (N : List Str) (xs : List D)
  | exc (a dd C : Addr) (f : Str) (x : D)
/-- mutable objects; an instance: the names of its fields, their values -/
inductive MO where
  | lst (xs : List D) | ins (C : Addr) (N : List Str) (xs : List (Option D)) | dK (kvs : List (Key × D)) | dN (a : Addr) (kvs : List (D × D))
abbrev DE := List (Option D)
abbrev Sto := Addr → Option MO
def put (S : Sto) (a : Addr) (m : MO) : Sto := fun b => if b = a then some m else S b
def del (S : Sto) (a : Addr) : Sto := fun b => if b = a then none else S b
theorem put_same {S : Sto} {a : Addr} {m : MO} : put S a m a = some m := if_pos rfl
theorem put_ne {S : Sto} {a b : Addr} {m : MO} (h : b ≠ a) : put S a m b = S b := if_neg h
theorem put_put {S : Sto} {a : Addr} {m n : MO} : put (put S a m) a n = put S a n := by
  funext b; unfold put; split <;> rfl
theorem put_self {S : Sto} {a : Addr} {m : MO} (h : S a = some m) : put S a m = S := by
  funext b; unfold put; split
  · next e => rw [e, h]
  · rfl
theorem del_put {S : Sto} {a : Addr} {m : MO} (h : S a = none) : del (put S a m) a = S := by
  funext b; unfold del put
  by_cases e : b = a
  · rw [if_pos e, e, h]
  · rw [if_neg e, if_neg e]
theorem put_comm {S : Sto} {a b : Addr} {m n : MO} (h : a ≠ b) : put (put S a m) b n = put (put S b n) a m := by
  funext c; unfold put
  by_cases e1 : c = a
  · subst e1; rw [if_pos rfl, if_neg h]; rw [if_pos rfl]
  · by_cases e2 : c = b
    · rw [if_pos e2, if_neg e1, if_pos e2]
    · rw [if_neg e2, if_neg e1, if_neg e1, if_neg e2]
theorem ne_of_S {S : Sto} {a b : Addr} {m : MO} (h : S a = some m) (h' : S b = none) : a ≠ b := by
  intro e; subst e; rw [h] at h'; cases h'

mutual
def Rep (K : PySem.W.Frag) (W : Hp) : D → V → Prop
  | .non, v => v = .non
  | .bl b, v => v = .bl b
  | .int i, v => v = .int i
  | .str x, v => v = .str x
  | .ref a, v => v = .ref a
  | .lst xs, v => ∃ a vs, v = .ref a ∧ W a = some (.lst vs) ∧ Reps K W xs vs
  | .tup xs, v => ∃ a vs, v = .ref a ∧ SqT K W a vs ∧ Reps K W xs vs
  | .fro xs, v => ∃ a vs, v = .ref a ∧ SqL K W a vs ∧ Reps K W xs vs
  | .obj C N xs, v => ∃ a dx gs vs, v = .ref a ∧ W a = some (.ins C dx gs) ∧ (∀ (i : Nat) (f : Str), N[i]? = some f → gs.lookup f = vs[i]?) ∧ (∀ f : Str, f ∉ N → gs.lookup f = none) ∧ Reps K W xs vs
  | .exc a dd C f x, v => v = .ref a ∧ ∃ gs u, W dd = some (.xd gs) ∧ gs.lookup f = some u ∧ Rep K W x u
def Reps (K : PySem.W.Frag) (W : Hp) : List D → List V → Prop
  | [], vs => vs = []
  | d :: ds, vs => ∃ v r, vs = v :: r ∧ Rep K W d v ∧ Reps K W ds r
end
abbrev Repf (K : PySem.W.Frag) (W : Hp) (fs : List (Str × D)) (gs : List (Str × V)) : Prop := ∀ f d, fs.lookup f = some d → ∃ v, gs.lookup f = some v ∧ Rep K W d v
def Repk {κ : Type} (K : PySem.W.Frag) (W : Hp) : List (κ × D) → List (κ × V) → Prop
  | [], gs => gs = []
  | (f, d) :: ds, gs => ∃ v r, gs = (f, v) :: r ∧ Rep K W d v ∧ Repk K W ds r

section
variable {K : PySem.W.Frag} {W W' : Hp}
theorem sqL_mono (e : Same W W') {a : Addr} {vs : List V} (h : SqL K W a vs) : SqL K W' a vs := e.seq h
theorem sqT_mono (e : Same W W') {a : Addr} {vs : List V} (h : SqT K W a vs) : SqT K W' a vs := by
  rcases h with (h | ⟨o, h⟩) | h
  · exact .inl (.inl (e _ _ h))
  · exact .inl (.inr ⟨o, e _ _ h⟩)
  · exact .inr h
mutual
theorem Rep.mono (e : Same W W') : ∀ {d : D} {v : V}, Rep K W d v → Rep K W' d v
  | .non, _, h => h
  | .bl _, _, h => h
  | .int _, _, h => h
  | .str _, _, h => h
  | .ref _, _, h => h
  | .lst _, _, ⟨a, vs, e1, e2, e3⟩ => ⟨a, vs, e1, e _ _ e2, Reps.mono e e3⟩
  | .tup _, _, ⟨a, vs, e1, e2, e3⟩ => ⟨a, vs, e1, sqT_mono e e2, Reps.mono e e3⟩
  | .fro _, _, ⟨a, vs, e1, e2, e3⟩ => ⟨a, vs, e1, sqL_mono e e2, Reps.mono e e3⟩
  | .obj _ _ _, _, ⟨a, dx, gs, vs, e1, e2, e4, e5, e3⟩ => ⟨a, dx, gs, vs, e1, e _ _ e2, e4, e5, Reps.mono e e3⟩
  | .exc _ _ _ _ _, _, ⟨e1, gs, u, e2, e3, e4⟩ => ⟨e1, gs, u, e _ _ e2, e3, Rep.mono e e4⟩
theorem Reps.mono (e : Same W W') : ∀ {ds : List D} {vs : List V}, Reps K W ds vs → Reps K W' ds vs
  | [], _, h => h
  | _ :: _, _, ⟨v, r, e1, e2, e3⟩ => ⟨v, r, e1, Rep.mono e e2, Reps.mono e e3⟩
end
theorem Repk.mono {κ : Type} (e : Same W W') : ∀ {ds : List (κ × D)} {vs : List (κ × V)}, Repk K W ds vs → Repk K W' ds vs
  | [], _, h => h
  | (_, _) :: _, _, ⟨v, r, e1, e2, e3⟩ => ⟨v, r, e1, Rep.mono e e2, Repk.mono e e3⟩
theorem Reps.length : ∀ {ds : List D} {vs : List V}, Reps K W ds vs → vs.length = ds.length
  | [], _, h => by rw [show _ = [] from h]; rfl
  | _ :: ds, _, ⟨v, r, e1, e2, e3⟩ => by
    subst e1
    show r.length + 1 = ds.length + 1
    rw [Reps.length e3]
theorem Reps.get : ∀ {ds : List D} {vs : List V} {i : Nat} {d : D}, Reps K W ds vs → ds[i]? = some d → ∃ v, vs[i]? = some v ∧ Rep K W d v
  | [], _, _, _, _, e => by simp at e
  | _ :: _, _, 0, _, ⟨v, r, e1, e2, e3⟩, e => by
    subst e1
    have e' := Option.some.inj e
    subst e'
    exact ⟨v, rfl, e2⟩
  | _ :: _, _, i + 1, _, ⟨v, r, e1, e2, e3⟩, e => by
    subst e1
    exact Reps.get (i := i) e3 e
theorem Reps.append : ∀ {ds es : List D} {vs ws : List V}, Reps K W ds vs → Reps K W es ws → Reps K W (ds ++ es) (vs ++ ws)
  | [], _, _, _, h, h' => by
    rw [show _ = [] from h]
    exact h'
  | _ :: _, _, _, _, ⟨v, r, e1, e2, e3⟩, h' => by
    subst e1
    exact ⟨v, _, rfl, e2, Reps.append e3 h'⟩
theorem Reps.one {d : D} {v : V} (h : Rep K W d v) : Reps K W [d] [v] := ⟨v, [], rfl, h, rfl⟩
theorem Reps.take : ∀ {ds : List D} {vs : List V} (n : Nat), Reps K W ds vs → Reps K W (ds.take n) (vs.take n)
  | [], _, n, h => by
    rw [show _ = [] from h, List.take_nil, List.take_nil]; rfl
  | _ :: _, _, 0, _ => by rw [List.take_zero, List.take_zero]; rfl
  | _ :: _, _, n + 1, ⟨v, r, e1, e2, e3⟩ => by
    subst e1
    exact ⟨v, _, rfl, e2, Reps.take n e3⟩
theorem Reps.drop : ∀ {ds : List D} {vs : List V} (n : Nat), Reps K W ds vs → Reps K W (ds.drop n) (vs.drop n)
  | [], _, n, h => by
    rw [show _ = [] from h, List.drop_nil, List.drop_nil]; rfl
  | _ :: _, _, 0, h => h
  | _ :: _, _, n + 1, ⟨v, r, e1, e2, e3⟩ => by
    subst e1
    exact Reps.drop n e3
theorem Reps.set {d : D} {v : V} (h : Rep K W d v) : ∀ {ds : List D} {vs : List V} (i : Nat), Reps K W ds vs → Reps K W (ds.set i d) (vs.set i v)
  | [], _, _, h' => by
    rw [show _ = [] from h']; rfl
  | _ :: _, _, 0, ⟨_, r, e1, e2, e3⟩ => by
    subst e1
    exact ⟨v, r, rfl, h, e3⟩
  | _ :: _, _, i + 1, ⟨w, r, e1, e2, e3⟩ => by
    subst e1
    exact ⟨w, _, rfl, e2, Reps.set h i e3⟩
theorem Repf.mono (e : Same W W') {fs : List (Str × D)} {gs : List (Str × V)} (h : Repf K W fs gs) : Repf K W' fs gs := fun f d q => by
  obtain ⟨v, a, b⟩ := h f d q
  exact ⟨v, a, b.mono e⟩
/-- slots of an environment, fields of an instance -/
def getV : DE → Nat → Option D
  | [], _ => none
  | x :: _, 0 => x
  | _ :: r, i + 1 => getV r i
def setV : DE → Nat → D → DE
  | [], _, _ => []
  | _ :: r, 0, d => some d :: r
  | x :: r, i + 1, d => x :: setV r i d
def cntV : DE → Nat
  | [] => 0
  | none :: r => cntV r
  | some _ :: r => cntV r + 1
theorem getV_setV : ∀ {e : DE} {i j : Nat} {d x : D}, getV (setV e i d) j = some x → (j = i ∧ x = d) ∨ (j ≠ i ∧ getV e j = some x)
  | [], _, _, _, _, h => by cases h
  | _ :: r, 0, 0, d, x, h => .inl ⟨rfl, (Option.some.inj h).symm⟩
  | _ :: r, 0, j + 1, d, x, h => .inr ⟨Nat.succ_ne_zero j, h⟩
  | y :: r, i + 1, 0, d, x, h => .inr ⟨(Nat.succ_ne_zero i).symm, h⟩
  | y :: r, i + 1, j + 1, d, x, h => by
    rcases getV_setV (e := r) (i := i) (j := j) h with ⟨a, b⟩ | ⟨a, b⟩
    · exact .inl ⟨by rw [a], b⟩
    · exact .inr ⟨fun z => a (Nat.succ.inj z), b⟩
theorem getV_set_ne : ∀ {e : DE} {i j : Nat} {d : D}, j ≠ i → getV (setV e i d) j = getV e j
  | [], _, _, _, _ => rfl
  | _ :: r, 0, 0, d, h => absurd rfl h
  | _ :: r, 0, j + 1, d, h => rfl
  | y :: r, i + 1, 0, d, h => rfl
  | y :: r, i + 1, j + 1, d, h => getV_set_ne (e := r) (i := i) (j := j) fun z => h (by rw [z])
theorem getV_set_same : ∀ {e : DE} {i : Nat} {d : D}, i < e.length → getV (setV e i d) i = some d
  | [], _, _, h => absurd h (Nat.not_lt_zero _)
  | _ :: r, 0, d, _ => rfl
  | y :: r, i + 1, d, h => getV_set_same (e := r) (i := i) (Nat.lt_of_succ_lt_succ h)
theorem setV_length : ∀ {e : DE} {i : Nat} {d : D}, (setV e i d).length = e.length
  | [], _, _ => rfl
  | _ :: r, 0, d => rfl
  | y :: r, i + 1, d => congrArg (· + 1) (setV_length (e := r) (i := i))
theorem cntV_le : ∀ e : DE, cntV e ≤ e.length
  | [] => Nat.le_refl _
  | none :: r => Nat.le_succ_of_le (cntV_le r)
  | some _ :: r => Nat.succ_le_succ (cntV_le r)
theorem cntV_none : ∀ {e : DE} {i : Nat} {d : D}, i < e.length → getV e i = none → cntV (setV e i d) = cntV e + 1
  | [], _, _, h, _ => absurd h (Nat.not_lt_zero _)
  | none :: r, 0, d, _, _ => rfl
  | some _ :: r, 0, d, _, h => by cases h
  | none :: r, i + 1, d, h, q => cntV_none (e := r) (i := i) (Nat.lt_of_succ_lt_succ h) q
  | some _ :: r, i + 1, d, h, q => congrArg (· + 1) (cntV_none (e := r) (i := i) (Nat.lt_of_succ_lt_succ h) q)
theorem cntV_some : ∀ {e : DE} {i : Nat} {d x : D}, getV e i = some x → cntV (setV e i d) = cntV e
  | [], _, _, _, h => by cases h
  | none :: r, 0, d, _, h => by cases h
  | some _ :: r, 0, d, _, h => rfl
  | none :: r, i + 1, d, _, q => cntV_some (e := r) (i := i) q
  | some _ :: r, i + 1, d, _, q => congrArg (· + 1) (cntV_some (e := r) (i := i) q)
theorem putF_len {f : Str} {v w : V} : ∀ {gs : List (Str × V)}, gs.lookup f = some w → (putF f v gs).length = gs.length
  | [], h => by cases h
  | (g, x) :: r, h => by
    show (if g = f then (g, v) :: r else (g, x) :: putF f v r).length = r.length + 1
    by_cases q : g = f
    · rw [if_pos q]; rfl
    · rw [if_neg q]
      have hb : (f == g) = false := beq_eq_false_iff_ne.mpr fun z => q z.symm
      rw [List.lookup_cons, hb] at h
      show (putF f v r).length + 1 = r.length + 1
      rw [putF_len (gs := r) h]
/-- an instance's fields -/
structure FRep (K : PySem.W.Frag) (W : Hp) (N : List Str) (xs : DE) (gs : List (Str × V)) : Prop where
  nd : N.Nodup
  few : N.length ≤ 900
  len : xs.length = N.length
  is : ∀ (i : Nat) (f : Str) (d : D), N[i]? = some f → getV xs i = some d → ∃ v, gs.lookup f = some v ∧ Rep K W d v
  no : ∀ (i : Nat) (f : Str), N[i]? = some f → getV xs i = none → gs.lookup f = none
  out : ∀ f : Str, f ∉ N → gs.lookup f = none
  cnt : gs.length ≤ cntV xs
theorem FRep.mono (e : Same W W') {N : List Str} {xs : DE} {gs : List (Str × V)} (h : FRep K W N xs gs) : FRep K W' N xs gs :=
  ⟨h.nd, h.few, h.len, fun i f d a b => by
    obtain ⟨v, c, r⟩ := h.is i f d a b
    exact ⟨v, c, r.mono e⟩, h.no, h.out, h.cnt⟩
theorem FRep.lt {N : List Str} {xs : DE} {gs : List (Str × V)} (h : FRep K W N xs gs) : gs.length < 1000 := by
  have a := h.cnt
  have b := cntV_le xs
  have c := h.len
  have d := h.few
  omega
theorem FRep.put {N : List Str} {xs : DE} {gs : List (Str × V)} (h : FRep K W N xs gs) {i : Nat} {f : Str} {d : D} {v : V} (hi : N[i]? = some f) (r : Rep K W d v) : FRep K W N (setV xs i d) (putF f v gs) := by
  have hlt : i < N.length := (List.getElem?_eq_some_iff.mp hi).1
  have hlx : i < xs.length := by rw [h.len]; exact hlt
  refine ⟨h.nd, h.few, by rw [setV_length]; exact h.len, fun j g x hj hx => ?_, fun j g hj hx => ?_, fun g hg => ?_, ?_⟩
  · rw [lookup_putF]
    rcases getV_setV hx with ⟨a, b⟩ | ⟨a, b⟩
    · subst a b
      rw [hi] at hj
      cases hj
      exact ⟨v, if_pos rfl, r⟩
    · have ne : g ≠ f := fun z => a (by subst z; exact nodup_ix h.nd hj hi)
      obtain ⟨w, c, rr⟩ := h.is j g x hj b
      exact ⟨w, by rw [if_neg ne]; exact c, rr⟩
  · rw [lookup_putF]
    by_cases e : j = i
    · subst e
      rw [getV_set_same hlx] at hx
      cases hx
    · rw [getV_set_ne e] at hx
      have ne : g ≠ f := fun z => e (by subst z; exact nodup_ix h.nd hj hi)
      rw [if_neg ne]
      exact h.no j g hj hx
  · have ne : g ≠ f := fun z => hg (by subst z; exact List.mem_of_getElem? hi)
    rw [lookup_putF, if_neg ne]
    exact h.out g hg
  · cases q : getV xs i with
    | none =>
      rw [cntV_none hlx q]
      exact Nat.le_trans (length_putF f v gs) (Nat.succ_le_succ h.cnt)
    | some x =>
      obtain ⟨w, c, _⟩ := h.is i f x hi q
      rw [cntV_some q, putF_len c]
      exact h.cnt
end

/-! ### keys: tuples of ints, bools, None and of such tuples -/
mutual
def nkD : D → Option NestedKey
  | .non => some .none
  | .bl b => some (.num (if b = true then 1 else 0))
  | .int i => some (.num i)
  | .tup xs => (nksD xs).map NestedKey.tup
  | _ => none
def nksD : List D → Option (List NestedKey)
  | [] => some []
  | d :: r => (nkD d).bind fun k => (nksD r).map (k :: ·)
end
mutual
def khash : NestedKey → Int
  | .none => reduceHash 0xFCA86420
  | .num i => hashInt i
  | .text _ => 0
  | .tup ks => reduceHash (Builtin.Tuple.tupleHashOf (khashes ks))
def khashes : List NestedKey → List Int
  | [] => []
  | k :: ks => khash k :: khashes ks
end
/-- a dict's object: its entries -/
def dnP (a : Addr) (xs : List (NestedKey × Addr × Value)) : Heap → Prop := fun h => ∃ ob es ep, h.get? a = some ob ∧ ob.ExactDict ∧ ob.data = .dict es ep ∧ es.toList = xs.map fun x => ⟨khash x.1, .ref x.2.1, x.2.2⟩
def DN (K : PySem.W.Frag) (W : Hp) : List (D × D) → List (NestedKey × Addr × Value) → Prop
  | [], xs => xs = []
  | p :: r, xs => ∃ k b u v r', xs = (k, b, u) :: r' ∧ (nkD p.1 = some k ∧ k.depth ≤ 8) ∧ Rep K W p.1 (.ref b) ∧ (Rep K W p.2 v ∧ RelV v u) ∧ DN K W r r'
theorem DN.mono {K : PySem.W.Frag} {W W' : Hp} (e : Same W W') : ∀ {ds : List (D × D)} {xs : List (NestedKey × Addr × Value)}, DN K W ds xs → DN K W' ds xs
  | [], _, h => h
  | _ :: _, _, ⟨k, b, u, v, r', e1, e2, e3, ⟨e4, e5⟩, e6⟩ => ⟨k, b, u, v, r', e1, e2, e3.mono e, ⟨e4.mono e, e5⟩, DN.mono e e6⟩
/-- what stands at a mutable object's address -/
def MRep (K : PySem.W.Frag) (W : Hp) : MO → HO → Prop
  | .lst xs, o => ∃ vs, o = .lst vs ∧ Reps K W xs vs
  | .ins C N xs, o => ∃ dx gs, o = .ins C dx gs ∧ FRep K W N xs gs
  | .dK kvs, o => ∃ ws, o = .dK ws ∧ Repk K W kvs ws
  | .dN a kvs, o => ∃ xs, o = .ext (dnP a xs) ∧ (kvs.length ≤ sizeLine ∧ (a == sysModules) = false ∧ (xs.map (·.1)).Nodup) ∧ DN K W kvs xs
theorem MRep.mono {K : PySem.W.Frag} {W W' : Hp} (e : Same W W') : ∀ {m : MO} {o : HO}, MRep K W m o → MRep K W' m o
  | .lst _, _, ⟨vs, e1, e2⟩ => ⟨vs, e1, Reps.mono e e2⟩
  | .ins _ _ _, _, ⟨dx, gs, e1, e2⟩ => ⟨dx, gs, e1, e2.mono e⟩
  | .dK _, _, ⟨ws, e1, e2⟩ => ⟨ws, e1, Repk.mono e e2⟩
  | .dN _ _, _, ⟨xs, e1, z, e2⟩ => ⟨xs, e1, z, DN.mono e e2⟩
/-- the heap: what is seen and never changes (W), the store (S) -/
structure Ok (K : PySem.W.Frag) (W : Hp) (S : Sto) (H : Hp) : Prop where
  vis : Same W H
  sto : ∀ a m, S a = some m → ∃ o, H a = some o ∧ MRep K W m o
  sep : ∀ a m, S a = some m → W a = none
def delV : DE → Nat → DE
  | [], _ => []
  | _ :: r, 0 => none :: r
  | x :: r, i + 1 => x :: delV r i
def Sl (K : PySem.W.Frag) (W : Hp) (e : DE) (σ : L2.St) : Prop := ∀ i d, getV e i = some d → ∃ v, σ[i]? = some (some v) ∧ Rep K W d v
theorem getV_delV : ∀ {e : DE} {i j : Nat} {x : D}, getV (delV e i) j = some x → j ≠ i ∧ getV e j = some x
  | [], _, _, _, h => by cases h
  | _ :: r, 0, 0, x, h => by cases h
  | _ :: r, 0, j + 1, x, h => ⟨Nat.succ_ne_zero j, h⟩
  | y :: r, i + 1, 0, x, h => ⟨(Nat.succ_ne_zero i).symm, h⟩
  | y :: r, i + 1, j + 1, x, h => by
    obtain ⟨a, b⟩ := getV_delV (e := r) (i := i) (j := j) h
    exact ⟨fun z => a (Nat.succ.inj z), b⟩
section
variable {K : PySem.W.Frag} {W W' : Hp} {S : Sto} {H : Hp} {e : DE} {σ : L2.St}
theorem Sl.mono (z : Same W W') (h : Sl K W e σ) : Sl K W' e σ := fun i d q => by
  obtain ⟨v, a, b⟩ := h i d q
  exact ⟨v, a, b.mono z⟩
theorem lt_of_some {α : Type} {l : List α} {i : Nat} {x : α} (h : l[i]? = some x) : i < l.length := (List.getElem?_eq_some_iff.mp h).1
theorem Sl.set {i : Nat} {d : D} {v : V} (h : Sl K W e σ) (hi : i < σ.length) (r : Rep K W d v) : Sl K W (setV e i d) (σ.set i (some v)) := fun j x q => by
  rcases getV_setV q with ⟨a, b⟩ | ⟨a, b⟩
  · subst a b
    exact ⟨v, List.getElem?_set_self hi, r⟩
  · obtain ⟨w, c, f⟩ := h j x b
    exact ⟨w, by rw [List.getElem?_set_ne (Ne.symm a)]; exact c, f⟩
theorem Ok.fresh (ok : Ok K W S H) {p : Addr} (h : H p = none) : W p = none ∧ S p = none := by
  constructor
  · cases q : W p with
    | none => rfl
    | some o => rw [ok.vis _ _ q] at h; cases h
  · cases q : S p with
    | none => rfl
    | some m =>
      obtain ⟨o, e, _⟩ := ok.sto _ _ q
      rw [e] at h; cases h
theorem same_new {p : Addr} {o : HO} (h : W p = none) : Same W (upd W p o) := fun b x e => by
  rw [upd_ne (ne_of_none e h)]
  exact e
/-- a new object that never changes -/
theorem Ok.newW (ok : Ok K W S H) {p : Addr} {o : HO} (h : H p = none) : Ok K (upd W p o) S (upd H p o) := by
  obtain ⟨hW, hS⟩ := ok.fresh h
  refine ⟨fun b x e => ?_, fun a m e => ?_, fun a m e => ?_⟩
  · by_cases q : b = p
    · subst q; rw [upd_same] at e ⊢; exact e
    · rw [upd_ne q] at e ⊢; exact ok.vis _ _ e
  · obtain ⟨x, e1, e2⟩ := ok.sto _ _ e
    refine ⟨x, ?_, e2.mono (same_new hW)⟩
    rw [upd_ne (ne_of_S e hS)]; exact e1
  · rw [upd_ne (ne_of_S e hS)]; exact ok.sep _ _ e
/-- a new mutable object -/
theorem Ok.newS (ok : Ok K W S H) {p : Addr} {o : HO} {m : MO} (h : H p = none) (r : MRep K W m o) : Ok K W (put S p m) (upd H p o) := by
  obtain ⟨hW, hS⟩ := ok.fresh h
  refine ⟨fun b x e => ?_, fun a n e => ?_, fun a n e => ?_⟩
  · rw [upd_ne (ne_of_none e hW)]; exact ok.vis _ _ e
  · by_cases q : a = p
    · subst q
      rw [put_same] at e
      cases e
      exact ⟨o, upd_same, r⟩
    · rw [put_ne q] at e
      obtain ⟨x, e1, e2⟩ := ok.sto _ _ e
      exact ⟨x, by rw [upd_ne q]; exact e1, e2⟩
  · by_cases q : a = p
    · subst q; exact hW
    · rw [put_ne q] at e; exact ok.sep _ _ e
/-- a mutable object changes -/
theorem Ok.chg (ok : Ok K W S H) {p : Addr} {o : HO} {m m0 : MO} (h : S p = some m0) (r : MRep K W m o) : Ok K W (put S p m) (upd H p o) := by
  have hW := ok.sep _ _ h
  refine ⟨fun b x e => ?_, fun a n e => ?_, fun a n e => ?_⟩
  · rw [upd_ne (ne_of_none e hW)]; exact ok.vis _ _ e
  · by_cases q : a = p
    · subst q
      rw [put_same] at e
      cases e
      exact ⟨o, upd_same, r⟩
    · rw [put_ne q] at e
      obtain ⟨x, e1, e2⟩ := ok.sto _ _ e
      exact ⟨x, by rw [upd_ne q]; exact e1, e2⟩
  · by_cases q : a = p
    · subst q; exact hW
    · rw [put_ne q] at e; exact ok.sep _ _ e
/-- a mutable object is thrown out of the store -/
theorem Ok.less (ok : Ok K W S H) {S' : Sto} (h : ∀ a m, S' a = some m → S a = some m) : Ok K W S' H :=
  ⟨ok.vis, fun a m e => ok.sto a m (h a m e), fun a m e => ok.sep a m (h a m e)⟩
theorem Ok.del (ok : Ok K W S H) (a : Addr) : Ok K W (del S a) H := ok.less fun b m e => by
  unfold DL.del at e
  by_cases q : b = a
  · rw [if_pos q] at e; cases e
  · rw [if_neg q] at e; exact e
/-- a mutable object never changes again -/
theorem Ok.frz (ok : Ok K W S H) {a : Addr} {m : MO} {o : HO} (h : S a = some m) (ho : H a = some o) : Ok K (upd W a o) (DL.del S a) H := by
  have hW := ok.sep _ _ h
  refine ⟨fun b x e => ?_, fun b n e => ?_, fun b n e => ?_⟩
  · by_cases q : b = a
    · subst q; rw [upd_same] at e; cases e; exact ho
    · rw [upd_ne q] at e; exact ok.vis _ _ e
  · unfold DL.del at e
    by_cases q : b = a
    · rw [if_pos q] at e; cases e
    · rw [if_neg q] at e
      obtain ⟨x, e1, e2⟩ := ok.sto _ _ e
      exact ⟨x, e1, e2.mono (same_new hW)⟩
  · unfold DL.del at e
    by_cases q : b = a
    · rw [if_pos q] at e; cases e
    · rw [if_neg q] at e
      rw [upd_ne q]; exact ok.sep _ _ e
end
end DL
set_option Elab.async false
set_option linter.all false
set_option maxRecDepth 100000
set_option maxHeartbeats 2000000
/-! The data layer, part b: judgements over data, expressions, statements, calls. -/
namespace DL
open PySem PySem.Spec PyProof.Rows L2

/-- what a step keeps: what is seen, and what belongs to nobody here -/
structure Stp (W : Hp) (S : Sto) (H : Hp) (W' : Hp) (S' : Sto) (H' : Hp) : Prop where
  vis : Same W W'
  frm : ∀ a o, H a = some o → W a = none → S a = none → H' a = some o ∧ W' a = none ∧ S' a = none
theorem Stp.refl {W : Hp} {S : Sto} {H : Hp} : Stp W S H W S H := ⟨Same.refl W, fun _ _ h1 h2 h3 => ⟨h1, h2, h3⟩⟩
theorem Stp.trans {W W1 W2 : Hp} {S S1 S2 : Sto} {H H1 H2 : Hp} (a : Stp W S H W1 S1 H1) (b : Stp W1 S1 H1 W2 S2 H2) : Stp W S H W2 S2 H2 :=
  ⟨a.vis.trans b.vis, fun p o h1 h2 h3 => let ⟨x, y, z⟩ := a.frm p o h1 h2 h3; b.frm p o x y z⟩
section
variable {K : PySem.W.Frag} {W : Hp} {S : Sto} {H : Hp} {p : Addr} {o : HO} {m m0 : MO}
theorem Ok.stW (ok : Ok K W S H) (h : H p = none) : Stp W S H (upd W p o) S (upd H p o) :=
  ⟨same_new (ok.fresh h).1, fun a x h1 h2 h3 => by
    have ne : a ≠ p := ne_of_none h1 h
    exact ⟨by rw [upd_ne ne]; exact h1, by rw [upd_ne ne]; exact h2, h3⟩⟩
theorem Ok.stS (ok : Ok K W S H) (h : H p = none) : Stp W S H W (put S p m) (upd H p o) :=
  ⟨Same.refl W, fun a x h1 h2 h3 => by
    have ne : a ≠ p := ne_of_none h1 h
    exact ⟨by rw [upd_ne ne]; exact h1, h2, by rw [put_ne ne]; exact h3⟩⟩
theorem Ok.stJ (ok : Ok K W S H) (h : H p = none) : Stp W S H W S (upd H p o) :=
  ⟨Same.refl W, fun a x h1 h2 h3 => ⟨by rw [upd_ne (ne_of_none h1 h)]; exact h1, h2, h3⟩⟩
theorem Ok.stC (ok : Ok K W S H) (h : S p = some m0) : Stp W S H W (put S p m) (upd H p o) :=
  ⟨Same.refl W, fun a x h1 h2 h3 => by
    have ne : a ≠ p := fun e => by subst e; rw [h] at h3; cases h3
    exact ⟨by rw [upd_ne ne]; exact h1, h2, by rw [put_ne ne]; exact h3⟩⟩
theorem Ok.stF (ok : Ok K W S H) (h : S p = some m0) : Stp W S H (upd W p o) (DL.del S p) H :=
  ⟨same_new (ok.sep _ _ h), fun a x h1 h2 h3 => by
    have ne : a ≠ p := fun e => by subst e; rw [h] at h3; cases h3
    exact ⟨h1, by rw [upd_ne ne]; exact h2, by unfold DL.del; rw [if_neg ne]; exact h3⟩⟩
end
abbrev XQ := Addr → List (Str × D) → Sto → Prop
abbrev Qd := D → Sto → Prop
abbrev WPe := DE → Sto → Qd → XQ → Prop
abbrev WPt := DE → Sto → (Bool → Sto → Prop) → XQ → Prop
abbrev WPa := DE → Sto → (List D → Sto → Prop) → XQ → Prop
structure QS where
  nx : DE → Sto → Prop
  rt : D → Sto → Prop
  bk : DE → Sto → Prop
  ct : DE → Sto → Prop
  xc : Addr → List (Str × D) → DE → Sto → Prop
abbrev WPs := DE → Sto → QS → Prop
abbrev Ctr := List D → Sto → Qd → XQ → Prop
def X0 : XQ := fun _ _ _ => False
def some! {α : Type} (o : Option α) (k : α → Prop) : Prop := match o with | some a => k a | none => False
theorem some!_ex {α : Type} {o : Option α} {k : α → Prop} (h : some! o k) : ∃ a, o = some a ∧ k a := by
  cases o with
  | none => exact h.elim
  | some a => exact ⟨a, rfl, h⟩

section
variable (K : PySem.W.Frag)
def CV (W : Hp) (S : Sto) (H : Hp) (Q0 : Qd) (Q : VK) : Prop := ∀ d S' v W' H', Q0 d S' → Stp W S H W' S' H' → Ok K W' S' H' → Rep K W' d v → Q v H'
def CVs (W : Hp) (S : Sto) (H : Hp) (Q0 : List D → Sto → Prop) (Q : List V → Hp → Prop) : Prop := ∀ d S' v W' H', Q0 d S' → Stp W S H W' S' H' → Ok K W' S' H' → Reps K W' d v → Q v H'
def CB (W : Hp) (S : Sto) (H : Hp) (Q0 : Bool → Sto → Prop) (Q : Bool → Hp → Prop) : Prop := ∀ b S' W' H', Q0 b S' → Stp W S H W' S' H' → Ok K W' S' H' → Q b H'
def CXc (W : Hp) (S : Sto) (H : Hp) (X0 : XQ) (E : XK) : Prop := ∀ C fs S' dd gs W' H', X0 C fs S' → Stp W S H W' S' H' → Ok K W' S' H' → W' dd = some (.xd gs) → Repf K W' fs gs → E (.ref C) (some dd) H'
def lE (Wx : WX) (w : WPe) : TE := fun σ H Q => ∃ W env S Q0 X0, Ok K W S H ∧ Sl K W env σ ∧ w env S Q0 X0 ∧ CV K W S H Q0 Q ∧ CXc K W S H X0 (fun c d H' => Wx c d σ H')
def lT (Wx : WX) (w : WPt) : TT := fun σ H Q => ∃ W env S Q0 X0, Ok K W S H ∧ Sl K W env σ ∧ w env S Q0 X0 ∧ CB K W S H Q0 Q ∧ CXc K W S H X0 (fun c d H' => Wx c d σ H')
def lA (Wx : WX) (w : WPa) : TA := fun σ H Q => ∃ W env S Q0 X0, Ok K W S H ∧ Sl K W env σ ∧ w env S Q0 X0 ∧ CVs K W S H Q0 Q ∧ CXc K W S H X0 (fun c d H' => Wx c d σ H')
structure CS (Wx : WX) (W : Hp) (S : Sto) (H : Hp) (q : QS) (D : Ends) : Prop where
  nx : ∀ e S' σ' W' H', q.nx e S' → Stp W S H W' S' H' → Ok K W' S' H' → Sl K W' e σ' → D.nx σ' H'
  rt : ∀ d S' v W' H', q.rt d S' → Stp W S H W' S' H' → Ok K W' S' H' → Rep K W' d v → D.rt v H'
  bk : ∀ e S' σ' W' H', q.bk e S' → Stp W S H W' S' H' → Ok K W' S' H' → Sl K W' e σ' → D.bk σ' H'
  ct : ∀ e S' σ' W' H', q.ct e S' → Stp W S H W' S' H' → Ok K W' S' H' → Sl K W' e σ' → D.ct σ' H'
  xc : ∀ C fs e S' dd gs σ' W' H', q.xc C fs e S' → Stp W S H W' S' H' → Ok K W' S' H' → Sl K W' e σ' → W' dd = some (.xd gs) → Repf K W' fs gs → Wx (.ref C) (some dd) σ' H'
def lS (Wx : WX) (n : Nat) (w : WPs) : TS := fun D σ H => ∃ W env S q, Ok K W S H ∧ Sl K W env σ ∧ σ.length = n ∧ w env S q ∧ CS K Wx W S H q { D with nx := fun σ' H' => σ'.length = n → D.nx σ' H', bk := fun σ' H' => σ'.length = n → D.bk σ' H', ct := fun σ' H' => σ'.length = n → D.ct σ' H' }
def lSp (spec : Ctr) : Sp := fun vs H Q E => ∃ W S ds Q0 X0, Ok K W S H ∧ Reps K W ds vs ∧ spec ds S Q0 X0 ∧ CV K W S H Q0 Q ∧ CXc K W S H X0 E
/-- an operation on two values -/
abbrev O2 := Sto → D → D → Qd → Prop
def lOp (o : O2) : R2 := fun x y H Q => ∃ W S a b Q0, Ok K W S H ∧ Rep K W a x ∧ Rep K W b y ∧ o S a b Q0 ∧ CV K W S H Q0 Q
/-- a call of a built-in on values -/
abbrev OC := Sto → List D → Qd → Prop
def lC (o : OC) : List V → Hp → VK → Prop := fun xs H Q => ∃ W S ds Q0, Ok K W S H ∧ Reps K W ds xs ∧ o S ds Q0 ∧ CV K W S H Q0 Q
/-- a method of a built-in type: may change the store -/
abbrev OM := Sto → D → List D → Qd → Prop
end
section
variable {K : PySem.W.Frag} {W W' : Hp} {S S2 : Sto} {H H2 : Hp}
theorem CV.mono {Q0 : Qd} {Q : VK} (e : Stp W S H W' S2 H2) (h : CV K W S H Q0 Q) : CV K W' S2 H2 Q0 Q := fun d S' v W2 H' q s => h d S' v W2 H' q (e.trans s)
theorem CXc.mono {X0 : XQ} {E : XK} (e : Stp W S H W' S2 H2) (h : CXc K W S H X0 E) : CXc K W' S2 H2 X0 E := fun C fs S' dd gs W2 H' q s => h C fs S' dd gs W2 H' q (e.trans s)
theorem CXc.no {E : XK} : CXc K W S H X0 E := fun _ _ _ _ _ _ _ h => h.elim
theorem CS.mono {Wx : WX} {q : QS} {D : Ends} (e : Stp W S H W' S2 H2) (h : CS K Wx W S H q D) : CS K Wx W' S2 H2 q D :=
  ⟨fun a b c d f g s => h.nx a b c d f g (e.trans s), fun a b c d f g s => h.rt a b c d f g (e.trans s), fun a b c d f g s => h.bk a b c d f g (e.trans s), fun a b c d f g s => h.ct a b c d f g (e.trans s),
    fun a b c d f g i j k l s => h.xc a b c d f g i j k l (e.trans s)⟩
end

section
variable (X : Cx)
structure PD (e : Expr) (w : WPe) : Prop where
  run : ∀ Wx, Takes X Wx → PE X e (lE X.K Wx w)
structure PDt (e : Expr) (w : WPt) : Prop where
  run : ∀ Wx, Takes X Wx → PT X e (lT X.K Wx w)
structure PDw (e : Expr) (w : WPt) : Prop where
  run : ∀ Wx, Takes X Wx → PW X e (lT X.K Wx w)
structure PDa (es : List Expr) (w : WPa) : Prop where
  run : ∀ Wx, Takes X Wx → PA X es (lA X.K Wx w)
structure PDs (st : Stmt) (w : WPs) : Prop where
  run : ∀ Wx, Takes X Wx → PS X st (lS X.K Wx X.N.length w)
structure PDss (st : List Stmt) (w : WPs) : Prop where
  run : ∀ Wx, Takes X Wx → PSs X st (lS X.K Wx X.N.length w)
end
section
variable {X : Cx} {e a b c : Expr} {es : List Expr} {pos : Pos}
theorem PE.imp {t t' : TE} (h : PE X e t) (i : ∀ σ H Q, t' σ H Q → t σ H Q) : PE X e t' := ⟨fun pins s σ H Q I q => h.run pins s σ H Q I (i σ H Q q)⟩
theorem PT.imp {t t' : TT} (h : PT X e t) (i : ∀ σ H Q, t' σ H Q → t σ H Q) : PT X e t' := ⟨fun pins s σ H Q I q => h.run pins s σ H Q I (i σ H Q q)⟩
theorem PW.imp {t t' : TT} (h : PW X e t) (i : ∀ σ H Q, t' σ H Q → t σ H Q) : PW X e t' := ⟨fun wh pins s σ H Q I q => h.run wh pins s σ H Q I (i σ H Q q)⟩
theorem PA.imp {t t' : TA} (h : PA X es t) (i : ∀ σ H Q, t' σ H Q → t σ H Q) : PA X es t' := ⟨fun po pins s σ H Q I q => h.run po pins s σ H Q I (i σ H Q q)⟩
theorem PS.imp {st : Stmt} {t t' : TS} (h : PS X st t) (i : ∀ D σ H, t' D σ H → t D σ H) : PS X st t' := ⟨fun pins s σ H D I q => h.run pins s σ H D I (i D σ H q)⟩
theorem PSs.imp {st : List Stmt} {t t' : TS} (h : PSs X st t) (i : ∀ D σ H, t' D σ H → t D σ H) : PSs X st t' := ⟨fun pins s σ H D I q => h.run pins s σ H D I (i D σ H q)⟩

/-! ### names, constants -/
def wVar (i : Nat) : WPe := fun env S Q _ => some! (getV env i) fun d => Q d S
def wC (d : D) : WPe := fun _ S Q _ => Q d S
theorem pd_var (i : Nat) {x : Str} (hN : X.N[i]? = some x := by rfl) (hv : Vis X.env.scope x := by first | exact Or.inl rfl | exact Or.inr (Or.inl rfl) | exact Or.inr (Or.inr rfl)) (hd : (x == ("__debug__" : Str)) = false := by decide)
    (hcd : (x == ("__classdict__" : Str)) = false := by decide) : PD X (.Name x pos) (wVar i) := ⟨fun Wx tk => PE.imp (pe_var hN hv hd hcd) fun σ H Q ⟨W, env, S, Q0, X1, ok, sl, hw, cv, cx⟩ => by
  obtain ⟨d, hd, q⟩ := some!_ex hw
  obtain ⟨v, hv, r⟩ := sl i d hd
  exact ⟨v, hv, cv d S v W H q Stp.refl ok r⟩⟩
theorem pd_c {d : D} {v : V} (h : PE X e (tC v)) (r : ∀ W, Rep X.K W d v) : PD X e (wC d) := ⟨fun Wx tk => PE.imp h fun σ H Q ⟨W, env, S, Q0, X1, ok, sl, hw, cv, cx⟩ => cv d S v W H hw Stp.refl ok (r W)⟩
theorem pd_int {i : Int} {j : Nat} : PD X (.Constant (.int i) j pos) (wC (.int i)) := pd_c pe_int fun _ => rfl
theorem pd_bl {i : Bool} {j : Nat} : PD X (.Constant (.bool i) j pos) (wC (.bl i)) := pd_c pe_bl fun _ => rfl
theorem pd_non {j : Nat} : PD X (.Constant .none j pos) (wC .non) := pd_c pe_non fun _ => rfl
theorem pd_str {x : Str} {j : Nat} : PD X (.Constant (.str x) j pos) (wC (.str x)) := pd_c pe_str fun _ => rfl

/-! ### two places, one place -/
def wBin (o : O2) (wa wb : WPe) : WPe := fun env S Q X => wa env S (fun x S1 => wb env S1 (fun y S2 => o S2 x y Q) X) X
theorem bin_go {K : PySem.W.Frag} {Wx : WX} {o : O2} {wa wb : WPe} {σ : L2.St} {H : Hp} {Q : VK} (h : lE K Wx (wBin o wa wb) σ H Q) : tOp (lOp K o) (lE K Wx wa) (lE K Wx wb) σ H Q := by
  obtain ⟨W, env, S, Q0, X1, ok, sl, hw, cv, cx⟩ := h
  refine ⟨W, env, S, _, X1, ok, sl, hw, fun x S1 v W1 H1 h1 s1 ok1 r1 => ?_, cx⟩
  refine ⟨W1, env, S1, _, X1, ok1, sl.mono s1.vis, h1, fun y S2 u W2 H2 h2 s2 ok2 r2 => ?_, cx.mono s1⟩
  exact ⟨W2, S2, x, y, Q0, ok2, r1.mono s2.vis, r2, h2, cv.mono (s1.trans s2)⟩
theorem pd_op {op : Operator} {o : O2} {wa wb : WPe} (ho : OpR X (binaryOp op) (lOp X.K o)) (ha : PD X a wa) (hb : PD X b wb) : PD X (.BinOp a op b pos) (wBin o wa wb) :=
  ⟨fun Wx tk => PE.imp (pe_op ho (ha.run Wx tk) (hb.run Wx tk)) fun _ _ _ h => bin_go h⟩
theorem pd_cmp {op : CmpOp} {o : O2} {wa wb : WPe} (ho : OpR X (compareOp op) (lOp X.K o)) (ha : PD X a wa) (hb : PD X b wb) (hm : behindInMarks op b = false) : PD X (.Compare a [op] [b] pos) (wBin o wa wb) :=
  ⟨fun Wx tk => PE.imp (pe_cmpR ho (ha.run Wx tk) (hb.run Wx tk) hm) fun _ _ _ h => bin_go h⟩
theorem pd_ix {o : O2} {wa wb : WPe} (hr : IxR X (lOp X.K o)) (ha : PD X a wa) (hb : PD X b wb) (hs : PlainIx b := by exact fun _ _ => rfl) : PD X (.Subscript a b pos) (wBin o wa wb) :=
  ⟨fun Wx tk => PE.imp (pe_ix hr (ha.run Wx tk) (hb.run Wx tk) hs) fun _ _ _ h => bin_go h⟩
abbrev O1 := Sto → D → Qd → Prop
def lU (K : PySem.W.Frag) (o : O1) : V → Hp → VK → Prop := fun x H Q => ∃ W S a Q0, Ok K W S H ∧ Rep K W a x ∧ o S a Q0 ∧ CV K W S H Q0 Q
def wUn (o : O1) (wa : WPe) : WPe := fun env S Q X => wa env S (fun x S1 => o S1 x Q) X
theorem pd_un {op : UnaryOp} {o : O1} {wa : WPe} (ho : UnR X (unaryOp op) (lU X.K o)) (ha : PD X a wa) : PD X (.UnaryOp op a pos) (wUn o wa) :=
  ⟨fun Wx tk => PE.imp (pe_un ho (ha.run Wx tk)) fun σ H Q ⟨W, env, S, Q0, X1, ok, sl, hw, cv, cx⟩ => ⟨W, env, S, _, X1, ok, sl, hw, fun x S1 v W1 H1 h1 s1 ok1 r1 => ⟨W1, S1, x, Q0, ok1, r1, h1, cv.mono s1⟩, cx⟩⟩
/-! ### tests -/
def wTest (w : WPe) : WPt := fun env S Q X => w env S (fun d S' => match d with | .bl b => Q b S' | _ => False) X
/-- a comparison as a test -/
theorem pdt_cmp {op : CmpOp} {o : O2} {wa wb : WPe} (ho : OpR X (compareOp op) (lOp X.K o)) (ha : PD X a wa) (hb : PD X b wb) (hm : behindInMarks op b = false) : PDt X (.Compare a [op] [b] pos) (wTest (wBin o wa wb)) :=
  ⟨fun Wx tk => PT.imp (pt_cmpR ho (ha.run Wx tk) (hb.run Wx tk) hm) fun σ H Q ⟨W, env, S, Q0, X1, ok, sl, hw, cv, cx⟩ => bin_go ⟨W, env, S, _, X1, ok, sl, hw, fun d S1 v W1 H1 h1 s1 ok1 r1 => by
    cases d with
    | bl k =>
      have e : v = .bl k := r1
      exact ⟨k, e, cv k S1 W1 H1 h1 s1 ok1⟩
    | _ => exact h1.elim, cx⟩⟩
/-- an expression whose value is a bool -/
theorem pdt_val {w : WPe} (h : PD X e w) (he : ∀ whole, isTrue e X.env whole = (do let v ← whole; standAt e.pos; holding [v] (truthy v)) := by intro _; rfl) : PDt X e (wTest w) :=
  ⟨fun Wx tk => PT.imp (pt_val (h.run Wx tk) he) fun σ H Q ⟨W, env, S, Q0, X1, ok, sl, hw, cv, cx⟩ => ⟨W, env, S, _, X1, ok, sl, hw, fun d S1 v W1 H1 h1 s1 ok1 r1 => by
    cases d with
    | bl k =>
      have e : v = .bl k := r1
      exact ⟨k, e, cv k S1 W1 H1 h1 s1 ok1⟩
    | _ => exact h1.elim, cx⟩⟩
def wAnd (w u : WPt) : WPt := fun env S Q X => w env S (fun b S1 => if b = true then u env S1 Q X else Q false S1) X
def wOr (w u : WPt) : WPt := fun env S Q X => w env S (fun b S1 => if b = true then Q true S1 else u env S1 Q X) X
def wNot (w : WPt) : WPt := fun env S Q X => w env S (fun b S1 => Q (!b) S1) X
variable {wa wb wc : WPe} {ta tb : WPt} {rest : List Expr}
theorem pdw_and1 (ha : PDt X a ta) : PDw X (.BoolOp .And [a] pos) ta := ⟨fun Wx tk => pw_and1 (ha.run Wx tk)⟩
theorem pdw_or1 (ha : PDt X a ta) : PDw X (.BoolOp .Or [a] pos) ta := ⟨fun Wx tk => pw_or1 (ha.run Wx tk)⟩
theorem pdw_and (ha : PDt X a ta) (hb : PDw X (.BoolOp .And (b :: rest) pos) tb) : PDw X (.BoolOp .And (a :: b :: rest) pos) (wAnd ta tb) :=
  ⟨fun Wx tk => PW.imp (pw_and (ha.run Wx tk) (hb.run Wx tk)) fun σ H Q ⟨W, env, S, Q0, X1, ok, sl, hw, cv, cx⟩ => ⟨W, env, S, _, X1, ok, sl, hw, fun k S1 W1 H1 h1 s1 ok1 => by
    cases k with
    | true => exact iteT ⟨W1, env, S1, Q0, X1, ok1, sl.mono s1.vis, (if_pos rfl).mp h1, fun b2 S2 W2 H2 q2 s2 => cv b2 S2 W2 H2 q2 (s1.trans s2), cx.mono s1⟩
    | false => exact iteF (cv false S1 W1 H1 ((if_neg Bool.false_ne_true).mp h1) s1 ok1), cx⟩⟩
theorem pdw_or (ha : PDt X a ta) (hb : PDw X (.BoolOp .Or (b :: rest) pos) tb) : PDw X (.BoolOp .Or (a :: b :: rest) pos) (wOr ta tb) :=
  ⟨fun Wx tk => PW.imp (pw_or (ha.run Wx tk) (hb.run Wx tk)) fun σ H Q ⟨W, env, S, Q0, X1, ok, sl, hw, cv, cx⟩ => ⟨W, env, S, _, X1, ok, sl, hw, fun k S1 W1 H1 h1 s1 ok1 => by
    cases k with
    | true => exact iteT (cv true S1 W1 H1 ((if_pos rfl).mp h1) s1 ok1)
    | false => exact iteF ⟨W1, env, S1, Q0, X1, ok1, sl.mono s1.vis, (if_neg Bool.false_ne_true).mp h1, fun b2 S2 W2 H2 q2 s2 => cv b2 S2 W2 H2 q2 (s1.trans s2), cx.mono s1⟩, cx⟩⟩
theorem PDw.pt (h : PDw X e ta) : PDt X e ta := ⟨fun Wx tk => (h.run Wx tk).pt⟩
theorem pdt_not (ha : PDt X a ta) : PDt X (.UnaryOp .Not a pos) (wNot ta) :=
  ⟨fun Wx tk => PT.imp (pt_not (ha.run Wx tk)) fun σ H Q ⟨W, env, S, Q0, X1, ok, sl, hw, cv, cx⟩ => ⟨W, env, S, _, X1, ok, sl, hw, fun k S1 W1 H1 h1 s1 ok1 => cv (!k) S1 W1 H1 h1 s1 ok1, cx⟩⟩
/-- and, or, not as values: bools -/
def wAndV (wa wb : WPe) : WPe := fun env S Q X => wa env S (fun d S1 => match d with | .bl b => if b = true then wb env S1 Q X else Q (.bl false) S1 | _ => False) X
def wOrV (wa wb : WPe) : WPe := fun env S Q X => wa env S (fun d S1 => match d with | .bl b => if b = true then Q (.bl true) S1 else wb env S1 Q X | _ => False) X
def wNotV (wa : WPe) : WPe := fun env S Q X => wa env S (fun d S1 => match d with | .bl b => Q (.bl (!b)) S1 | _ => False) X
theorem pd_one {op} (ha : PD X a wa) : PD X (.BoolOp op [a] pos) wa := ⟨fun Wx tk => pe_one (ha.run Wx tk)⟩
theorem pd_and (ha : PD X a wa) (hb : PD X (.BoolOp .And (b :: rest) pos) wb) : PD X (.BoolOp .And (a :: b :: rest) pos) (wAndV wa wb) :=
  ⟨fun Wx tk => PE.imp (pe_and (ha.run Wx tk) (hb.run Wx tk)) fun σ H Q ⟨W, env, S, Q0, X1, ok, sl, hw, cv, cx⟩ => ⟨W, env, S, _, X1, ok, sl, hw, fun k S1 v W1 H1 h1 s1 ok1 r1 => by
    cases k with
    | bl k =>
      refine ⟨k, r1, ?_⟩
      cases k with
      | true => exact iteT ⟨W1, env, S1, Q0, X1, ok1, sl.mono s1.vis, (if_pos rfl).mp h1, cv.mono s1, cx.mono s1⟩
      | false => exact iteF (cv _ S1 _ W1 H1 ((if_neg Bool.false_ne_true).mp h1) s1 ok1 rfl)
    | _ => exact h1.elim, cx⟩⟩
theorem pd_or (ha : PD X a wa) (hb : PD X (.BoolOp .Or (b :: rest) pos) wb) : PD X (.BoolOp .Or (a :: b :: rest) pos) (wOrV wa wb) :=
  ⟨fun Wx tk => PE.imp (pe_or (ha.run Wx tk) (hb.run Wx tk)) fun σ H Q ⟨W, env, S, Q0, X1, ok, sl, hw, cv, cx⟩ => ⟨W, env, S, _, X1, ok, sl, hw, fun k S1 v W1 H1 h1 s1 ok1 r1 => by
    cases k with
    | bl k =>
      refine ⟨k, r1, ?_⟩
      cases k with
      | true => exact iteT (cv _ S1 _ W1 H1 ((if_pos rfl).mp h1) s1 ok1 rfl)
      | false => exact iteF ⟨W1, env, S1, Q0, X1, ok1, sl.mono s1.vis, (if_neg Bool.false_ne_true).mp h1, cv.mono s1, cx.mono s1⟩
    | _ => exact h1.elim, cx⟩⟩
theorem pd_not (ha : PD X a wa) : PD X (.UnaryOp .Not a pos) (wNotV wa) :=
  ⟨fun Wx tk => PE.imp (pe_not (ha.run Wx tk)) fun σ H Q ⟨W, env, S, Q0, X1, ok, sl, hw, cv, cx⟩ => ⟨W, env, S, _, X1, ok, sl, hw, fun k S1 v W1 H1 h1 s1 ok1 r1 => by
    cases k with
    | bl k => exact ⟨k, r1, cv _ S1 _ W1 H1 h1 s1 ok1 rfl⟩
    | _ => exact h1.elim, cx⟩⟩
def wIfE (t : WPt) (wa wb : WPe) : WPe := fun env S Q X => t env S (fun k S1 => if k = true then wa env S1 Q X else wb env S1 Q X) X
theorem pd_ifE (hc : PDt X c ta) (ha : PD X a wa) (hb : PD X b wb) : PD X (.IfExp c a b pos) (wIfE ta wa wb) :=
  ⟨fun Wx tk => PE.imp (pe_ifExp (hc.run Wx tk) (ha.run Wx tk) (hb.run Wx tk)) fun σ H Q ⟨W, env, S, Q0, X1, ok, sl, hw, cv, cx⟩ => ⟨W, env, S, _, X1, ok, sl, hw, fun k S1 W1 H1 h1 s1 ok1 => by
    cases k with
    | true => exact iteT ⟨W1, env, S1, Q0, X1, ok1, sl.mono s1.vis, (if_pos rfl).mp h1, cv.mono s1, cx.mono s1⟩
    | false => exact iteF ⟨W1, env, S1, Q0, X1, ok1, sl.mono s1.vis, (if_neg Bool.false_ne_true).mp h1, cv.mono s1, cx.mono s1⟩, cx⟩⟩
/-- a < b < c -/
def wChain (o o' : O2) (wa wb wc : WPe) : WPe := fun env S Q X => wa env S (fun x S1 => wb env S1 (fun y S2 => o S2 x y fun k S3 => match k with | .bl k => if k = true then wc env S3 (fun z S4 => o' S4 y z Q) X else Q (.bl false) S3 | _ => False) X) X
end
end DL
set_option Elab.async false
set_option linter.all false
set_option maxRecDepth 100000
set_option maxHeartbeats 2000000
/-! The data layer, part c: calls, displays, fields, statements. -/
namespace DL
open PySem PySem.Spec PyProof.Rows L2

section
variable {X : Cx} {CX : CXT} {k : Nat} {f C : Addr} {fd : FuncData} {ps : List Str} {sp : Sp} {E : L2.St → XK} {x m : Str} {p pos apos : Pos} {e o : Expr} {es : List Expr} {ta : TE} {t : TA}
def tMethS (C : Addr) (m : Str) (sp : Sp) (E : L2.St → XK) (ta : TE) (t : TA) : TE := fun σ H Q => ta σ H fun x H1 => ∃ a dx fs, x = .ref a ∧ H1 a = some (.ins C dx fs) ∧ fs.lookup m = none ∧
  t σ H1 fun vs H2 => sp (x :: vs) H2 Q (E σ)
theorem run_fnN {pins : List (Addr × Obj)} {σ : L2.St} {H : Hp} {s : Shared} {Q : VK} {us : List Value} {vs : List V} (F : FnOk X.prog X.w X.K X.mg X.base CX k f fd ps sp) (hr : Room k X.A) (hb : Binds X.K fd ps []) (hx : PassesAt CX X σ (E σ))
    (I : Inv X pins σ H s) (r : Vals vs us) (h : sp vs H Q (E σ)) : wpAny (model X.prog X.w) X.A (call (.ref f) us) (EP X pins σ Q) X.xe s := run_fnS F hr hb hx I r h
theorem pe_methS {pl : Sem Bool} (he : PE X o ta) (c : Cls X.K C) (hm : Meth X.K C m f) (F : FnOk X.prog X.w X.K X.mg X.base CX k f fd ps sp) (hr : Room k X.A) (hb : Binds X.K fd ps []) (hx : ∀ σ, PassesAt CX X σ (E σ)) (ha : PA X (e :: es) t)
    (hst : starEach (e :: es) X.env = (false, eval e X.env) :: starEach es X.env := by rfl) (hpl : (backTo pos (starEach es X.env)).any (·.1) = false := by rfl)
    (ht : eval (.Call (.Attribute o m apos) (e :: es) [] pos) X.env = (do
      let ov ← eval o X.env
      standAt apos.atName
      let (f, first) ← holding [ov] (getMethod ov m pl)
      callWith pos f first (backTo pos (starEach (e :: es) X.env)) (backToKw pos (keywordEach [] X.env))) := by rfl) :
    PE X (.Call (.Attribute o m apos) (e :: es) [] pos) (tMethS C m sp E ta t) := by
  refine ⟨fun pins s σ H Q I h => ?_⟩
  refine PySem.W.methodCall_KW (pl := pl) (thn (he.run pins s σ H _ I h) fun u s1 ⟨x, H1, I1, rx, a, dx, fs, ex, ea, l, q⟩ => ?_) ht
  subst ex
  obtain rfl : u = Value.ref a := rx
  refine getmeth_ok I1 ea c hm l ?_
  refine PySem.W.callWith_K (first := [.ref a]) (h₀ := X.base) I.ok.mod.kin hm.kp (thn (ha.run pos pins s1 σ H1 _ I1 q) fun us s2 ⟨vs, H2, I2, r, q2⟩ => ⟨I2.kIn, ?_⟩) hst hpl
  exact run_fnN (us := .ref a :: us) (vs := .ref a :: vs) F hr hb (hx σ) I2 (.cons rfl r) q2
theorem pe_meth0S {pl : Sem Bool} (he : PE X o ta) (c : Cls X.K C) (hm : Meth X.K C m f) (F : FnOk X.prog X.w X.K X.mg X.base CX k f fd ps sp) (hr : Room k X.A) (hb : Binds X.K fd ps []) (hx : ∀ σ, PassesAt CX X σ (E σ))
    (ht : eval (.Call (.Attribute o m apos) [] [] pos) X.env = (do
      let ov ← eval o X.env
      standAt apos.atName
      let (f, first) ← holding [ov] (getMethod ov m pl)
      callWith pos f first (backTo pos (starEach [] X.env)) (backToKw pos (keywordEach [] X.env))) := by rfl) :
    PE X (.Call (.Attribute o m apos) [] [] pos) (tMethS C m sp E ta tNil) := by
  refine ⟨fun pins s σ H Q I h => ?_⟩
  refine PySem.W.methodCall_KW (pl := pl) (thn (he.run pins s σ H _ I h) fun u s1 ⟨x, H1, I1, rx, a, dx, fs, ex, ea, l, q⟩ => ?_) ht
  subst ex
  obtain rfl : u = Value.ref a := rx
  refine getmeth_ok I1 ea c hm l ?_
  exact PySem.W.callWith_K0 (first := [.ref a]) I1.kIn hm.kp (run_fnN (us := [.ref a]) (vs := [.ref a]) F hr hb (hx σ) I1 (.cons rfl .nil) q)
theorem pe_call0S (F : FnOk X.prog X.w X.K X.mg X.base CX k f fd ps sp) (hr : Room k X.A) (hg : Gl X x) (hm : X.mg x = some (.ref f)) (hk : PySem.W.keepIn X.K (.ref f) = true) (hb : Binds X.K fd ps []) (hx : ∀ σ, PassesAt CX X σ (E σ))
    (hdb : (x == ("__debug__" : Str)) = false := by decide) : PE X (.Call (.Name x p) [] [] pos) (tCallS sp E tNil) := by
  refine ⟨fun pins s σ H Q I h => ?_⟩
  refine wpAny_Call_Name_kw (ld_glob I hg hm ?_ hdb)
  exact PySem.W.callWith_K0 I.kIn hk (run_fnN (us := []) F hr hb (hx σ) I .nil h)
def tMakeS (C : Addr) (sp : Sp) (E : L2.St → XK) (t : TA) : TE := fun σ H Q => t σ H fun vs H1 => ∀ x dx, H1 x = none → H1 dx = none → dx ≠ x →
  sp (.ref x :: vs) (upd (upd H1 dx (.own x)) x (.ins C dx [])) (fun v H2 => v = .non ∧ Q (.ref x) H2) (E σ)
theorem run_makeS {pins : List (Addr × Obj)} {σ : L2.St} {H : Hp} {s : Shared} {Q : VK} {us : List Value} {vs : List V} (M : Mk X.K C f) (F : FnOk X.prog X.w X.K X.mg X.base CX k f fd ps sp) (hr : Room (k + 1) X.A) (hb : Binds X.K fd ps [])
    (hx : PassesAt CX X σ (E σ)) (I : Inv X pins σ H s) (r : Vals vs us)
    (h : ∀ x dx, H x = none → H dx = none → dx ≠ x → sp (.ref x :: vs) (upd (upd H dx (.own x)) x (.ins C dx [])) (fun v H2 => v = .non ∧ Q (.ref x) H2) (E σ)) :
    wpAny (model X.prog X.w) X.A (call (.ref C) us) (EP X pins σ Q) X.xe s := by
  have hq := h (s.heap.objs.size + 1) s.heap.objs.size (I.hok.fresh (Nat.le_succ _)) (I.hok.fresh (Nat.le_refl _)) (Nat.ne_of_lt (Nat.lt_succ_self _))
  have I2 := Inv.made (C := C) I
  have r2 : Vals (V.ref (s.heap.objs.size + 1) :: vs) (Value.ref (s.heap.objs.size + 1) :: us) := .cons rfl r
  have hl : (Value.ref (s.heap.objs.size + 1) :: us ++ []).length = ps.length := by
    have e := r2.length
    rw [F.len _ _ _ _ hq] at e
    rw [List.append_nil]
    exact e.symm
  have hbb := hb { s with heap := (s.heap.push PySem.W.emptyDict).push (PySem.W.instObj C s.heap.objs.size) } (Value.ref (s.heap.objs.size + 1) :: us) I2.kIn hl
  rw [List.append_nil] at hbb
  refine wpAny_call (make_map (f := f) I.kIn M.makes M.init (beq_iff_eq.mp M.fn) (codeAny_mono (F.run _ X.stack _ _ ⟨Value.ref (s.heap.objs.size + 1) :: us, []⟩ (Value.ref (s.heap.objs.size + 1) :: us) _ _ (E σ) (hr.make C us [])
    (I2.env0.make C us []) hbb r2 hq) fun r s' hq' => ?_))
  cases r with
  | error e => exact hx pins _ _ e s' I2 hq'
  | ok fl =>
    cases fl with
    | ret u =>
      obtain ⟨v, H', I3, rv, ev, q3⟩ := I2.after hq'
      subst ev
      exact ⟨rv, ⟨V.ref (s.heap.objs.size + 1), H', I3, rfl, q3⟩⟩
    | next => exact False.elim hq'
    | brk => exact False.elim hq'
    | cont => exact False.elim hq'
theorem pe_makeS (M : Mk X.K C f) (F : FnOk X.prog X.w X.K X.mg X.base CX k f fd ps sp) (hr : Room (k + 1) X.A) (hg : Gl X x) (hm : X.mg x = some (.ref C)) (hb : Binds X.K fd ps []) (hx : ∀ σ, PassesAt CX X σ (E σ))
    (ha : PA X (e :: es) t) (hdb : (x == ("__debug__" : Str)) = false := by decide) (he : starEach (e :: es) X.env = (false, eval e X.env) :: starEach es X.env := by rfl) (hpl : (backTo pos (starEach es X.env)).any (·.1) = false := by rfl) :
    PE X (.Call (.Name x p) (e :: es) [] pos) (tMakeS C sp E t) := by
  refine ⟨fun pins s σ H Q I h => ?_⟩
  refine wpAny_Call_Name_kw (ld_glob I hg hm ?_ hdb)
  refine PySem.W.callWith_K (h₀ := X.base) I.ok.mod.kin M.kp (thn (ha.run pos pins s σ H _ I h) fun us s1 ⟨vs, H1, I1, r, q⟩ => ⟨I1.kIn, ?_⟩) he hpl
  exact run_makeS M F hr hb (hx σ) I1 r q
end

/-! ### arguments, displays -/
def wNil : WPa := fun _ S Q _ => Q [] S
def wCons (w : WPe) (r : WPa) : WPa := fun env S Q X => w env S (fun d S1 => r env S1 (fun ds S2 => Q (d :: ds) S2) X) X
def wLst (w : WPa) : WPe := fun env S Q X => w env S (fun ds S1 => ds.length ≤ sizeLine ∧ Q (.lst ds) S1) X
def wLstM (w : WPa) : WPe := fun env S Q X => w env S (fun ds S1 => ds.length ≤ sizeLine ∧ ∀ p, S1 p = none → Q (.ref p) (put S1 p (.lst ds))) X
def wTup (w : WPa) : WPe := fun env S Q X => w env S (fun ds S1 => ds.length ≤ sizeLine ∧ Q (.tup ds) S1) X
section
variable {X : Cx} {e : Expr} {es : List Expr} {pos : Pos} {w : WPe} {r : WPa}
theorem pda_nil : PDa X [] wNil := ⟨fun Wx tk => PA.imp pa_nil fun σ H Q ⟨W, env, S, Q0, X1, ok, sl, hw, cv, cx⟩ => cv [] S [] W H hw Stp.refl ok rfl⟩
theorem pda_cons (he : PD X e w) (hr : PDa X es r) (hs : starEach (e :: es) X.env = (false, eval e X.env) :: starEach es X.env := by rfl) : PDa X (e :: es) (wCons w r) :=
  ⟨fun Wx tk => PA.imp (pa_cons (he.run Wx tk) (hr.run Wx tk) hs) fun σ H Q ⟨W, env, S, Q0, X1, ok, sl, hw, cv, cx⟩ => ⟨W, env, S, _, X1, ok, sl, hw, fun d S1 v W1 H1 h1 s1 ok1 r1 =>
    ⟨W1, env, S1, _, X1, ok1, sl.mono s1.vis, h1, fun ds S2 vs W2 H2 h2 s2 ok2 r2 => cv (d :: ds) S2 (v :: vs) W2 H2 h2 (s1.trans s2) ok2 ⟨v, vs, rfl, r1.mono s2.vis, r2⟩, cx.mono s1⟩, cx⟩⟩
theorem pd_lst (h : PDa X es r) : PD X (.List es pos) (wLst r) :=
  ⟨fun Wx tk => PE.imp (pe_lst (h.run Wx tk)) fun σ H Q ⟨W, env, S, Q0, X1, ok, sl, hw, cv, cx⟩ => ⟨W, env, S, _, X1, ok, sl, hw, fun ds S1 vs W1 H1 ⟨hz, h1⟩ s1 ok1 r1 =>
    ⟨by rw [r1.length]; exact hz, fun p hp => cv _ S1 _ _ _ h1 (s1.trans (ok1.stW hp)) (ok1.newW hp) ⟨p, vs, rfl, upd_same, r1.mono (same_new (ok1.fresh hp).1)⟩⟩, cx⟩⟩
theorem pd_lstM (h : PDa X es r) : PD X (.List es pos) (wLstM r) :=
  ⟨fun Wx tk => PE.imp (pe_lst (h.run Wx tk)) fun σ H Q ⟨W, env, S, Q0, X1, ok, sl, hw, cv, cx⟩ => ⟨W, env, S, _, X1, ok, sl, hw, fun ds S1 vs W1 H1 ⟨hz, h1⟩ s1 ok1 r1 =>
    ⟨by rw [r1.length]; exact hz, fun p hp => cv _ _ _ _ _ (h1 p (ok1.fresh hp).2) (s1.trans (ok1.stS hp)) (ok1.newS hp ⟨vs, rfl, r1⟩) rfl⟩, cx⟩⟩
theorem pd_tup {z : Nat} (h : PDa X es r) : PD X (.Tuple es z pos) (wTup r) :=
  ⟨fun Wx tk => PE.imp (pe_tup (h.run Wx tk)) fun σ H Q ⟨W, env, S, Q0, X1, ok, sl, hw, cv, cx⟩ => ⟨W, env, S, _, X1, ok, sl, hw, fun ds S1 vs W1 H1 ⟨hz, h1⟩ s1 ok1 r1 =>
    ⟨by rw [r1.length]; exact hz, fun p hp => cv _ S1 _ _ _ h1 (s1.trans (ok1.stW hp)) (ok1.newW hp) ⟨p, vs, rfl, SqT.of upd_same, r1.mono (same_new (ok1.fresh hp).1)⟩⟩, cx⟩⟩
end

/-! ### calls of own defs -/
abbrev FnD (P : Program) (w : World) (K : PySem.W.Frag) (mg : Str → Option Value) (base : Heap) (k : Nat) (f : Addr) (fd : FuncData) (ps : List Str) (spec : Ctr) : Prop := FnOk P w K mg base (L2.CX P w) k f fd ps (lSp K spec)
def wCall (spec : Ctr) (wa : WPa) : WPe := fun env S Q X => wa env S (fun ds S1 => spec ds S1 Q X) X
/-- an instance of C whose fields are N -/
def isIns (C : Addr) (N : List Str) (S : Sto) (d : D) : Prop := match d with
  | .ref a => match S a with
    | some (.ins C' N' _) => C' = C ∧ N' = N
    | _ => False
  | .obj C' N' _ => C' = C ∧ N' = N
  | _ => False
def wMeth (C : Addr) (N : List Str) (spec : Ctr) (wo : WPe) (wa : WPa) : WPe := fun env S Q X => wo env S (fun o S1 => isIns C N S1 o ∧ wa env S1 (fun ds S2 => spec (o :: ds) S2 Q X) X) X
def noneV : List Str → DE
  | [] => []
  | _ :: r => none :: noneV r
def wMake (C : Addr) (N : List Str) (spec : Ctr) (wa : WPa) : WPe := fun env S Q X => wa env S (fun ds S1 => ∀ x, S1 x = none → spec (.ref x :: ds) (put S1 x (.ins C N (noneV N))) (fun r S2 => r = .non ∧ Q (.ref x) S2) X) X
theorem getV_noneV : ∀ {N : List Str} {i : Nat}, getV (noneV N) i = none
  | [], _ => rfl
  | _ :: _, 0 => rfl
  | _ :: r, i + 1 => getV_noneV (N := r) (i := i)
theorem noneV_length : ∀ {N : List Str}, (noneV N).length = N.length
  | [] => rfl
  | _ :: r => congrArg (· + 1) (noneV_length (N := r))
theorem frep_new {K : PySem.W.Frag} {W : Hp} {N : List Str} (hn : N.Nodup) (hf : N.length ≤ 900) : FRep K W N (noneV N) [] :=
  ⟨hn, hf, noneV_length, (fun i f d _ h => by
    rw [getV_noneV] at h
    cases h), (fun _ _ _ _ => rfl), (fun _ _ => rfl), Nat.zero_le _⟩
theorem Ok.junk {K : PySem.W.Frag} {W : Hp} {S : Sto} {H : Hp} {p : Addr} {o : HO} (ok : Ok K W S H) (h : H p = none) : Ok K W S (upd H p o) :=
  ⟨fun b x e => by rw [upd_ne (ne_of_none (ok.vis _ _ e) h)]; exact ok.vis _ _ e, fun a m e => by
    obtain ⟨x, e1, e2⟩ := ok.sto _ _ e
    exact ⟨x, by rw [upd_ne (ne_of_none e1 h)]; exact e1, e2⟩, ok.sep⟩
theorem isIns_rep {K : PySem.W.Frag} {W : Hp} {S : Sto} {H : Hp} {C : Addr} {N : List Str} {d : D} {v : V} (ok : Ok K W S H) (r : Rep K W d v) (h : isIns C N S d) {m : Str} (hm : m ∉ N) : ∃ a dx fs, v = .ref a ∧ H a = some (.ins C dx fs) ∧ fs.lookup m = none := by
  cases d with
  | ref a =>
    have h' : (match S a with | some (.ins C' N' _) => C' = C ∧ N' = N | _ => False) := h
    cases q : S a with
    | none => rw [q] at h'; exact h'.elim
    | some mo =>
      rw [q] at h'
      cases mo with
      | ins C' N' xs =>
        obtain ⟨e1, e2⟩ := h'
        subst e1 e2
        obtain ⟨o, e3, dx, gs, e4, fr⟩ := ok.sto _ _ q
        subst e4
        exact ⟨a, dx, gs, r, e3, fr.out m hm⟩
      | _ => exact h'.elim
  | obj C' N' xs =>
    obtain ⟨e1, e2⟩ := h
    subst e1 e2
    obtain ⟨a, dx, gs, vs, e1, e2, _, e4, _⟩ := r
    exact ⟨a, dx, gs, e1, ok.vis _ _ e2, e4 m hm⟩
  | _ => exact h.elim
section
variable {X : Cx} {k : Nat} {f C : Addr} {fd : FuncData} {ps : List Str} {spec : Ctr} {x m : Str} {p pos apos : Pos} {e o : Expr} {es : List Expr} {wo : WPe} {wa : WPa}
theorem call_go {Wx : WX} {σ : L2.St} {H : Hp} {Q : VK} {K : PySem.W.Frag} (h : lE K Wx (wCall spec wa) σ H Q) : tCallS (lSp K spec) (WE Wx) (lA K Wx wa) σ H Q := by
  obtain ⟨W, env, S, Q0, X1, ok, sl, hw, cv, cx⟩ := h
  exact ⟨W, env, S, _, X1, ok, sl, hw, fun ds S1 vs W1 H1 h1 s1 ok1 r1 => ⟨W1, S1, ds, Q0, X1, ok1, r1, h1, cv.mono s1, cx.mono s1⟩, cx⟩
theorem pd_call (F : FnD X.prog X.w X.K X.mg X.base k f fd ps spec) (hr : Room k X.A) (hm : X.mg x = some (.ref f)) (hk : PySem.W.keepIn X.K (.ref f) = true) (hb : Binds X.K fd ps [])
    (ha : PDa X (e :: es) wa) (hg : Gl X x := by rfl) (hdb : (x == ("__debug__" : Str)) = false := by decide) (he : starEach (e :: es) X.env = (false, eval e X.env) :: starEach es X.env := by rfl) (hpl : (backTo pos (starEach es X.env)).any (·.1) = false := by rfl) :
    PD X (.Call (.Name x p) (e :: es) [] pos) (wCall spec wa) :=
  ⟨fun Wx tk => PE.imp (pe_callS F hr hg hm hk hb (fun σ => passAt tk σ) (ha.run Wx tk) hdb he hpl) fun _ _ _ h => call_go h⟩
theorem pd_call0 (F : FnD X.prog X.w X.K X.mg X.base k f fd ps spec) (hr : Room k X.A) (hm : X.mg x = some (.ref f)) (hk : PySem.W.keepIn X.K (.ref f) = true) (hb : Binds X.K fd ps [])
    (hg : Gl X x := by rfl) (hdb : (x == ("__debug__" : Str)) = false := by decide) : PD X (.Call (.Name x p) [] [] pos) (wCall spec wNil) :=
  ⟨fun Wx tk => PE.imp (pe_call0S F hr hg hm hk hb (fun σ => passAt tk σ) hdb) fun σ H Q h => by
    obtain ⟨W, env, S, Q0, X1, ok, sl, hw, cv, cx⟩ := h
    exact ⟨W, S, [], Q0, X1, ok, rfl, hw, cv, cx⟩⟩
theorem pd_meth {N : List Str} {pl : Sem Bool} (c : Cls X.K C) (hm : Meth X.K C m f) (hN : m ∉ N) (F : FnD X.prog X.w X.K X.mg X.base k f fd ps spec) (hr : Room k X.A) (hb : Binds X.K fd ps []) (ho : PD X o wo) (ha : PDa X (e :: es) wa)
    (hst : starEach (e :: es) X.env = (false, eval e X.env) :: starEach es X.env := by rfl) (hpl : (backTo pos (starEach es X.env)).any (·.1) = false := by rfl)
    (ht : eval (.Call (.Attribute o m apos) (e :: es) [] pos) X.env = (do
      let ov ← eval o X.env
      standAt apos.atName
      let (f, first) ← holding [ov] (getMethod ov m pl)
      callWith pos f first (backTo pos (starEach (e :: es) X.env)) (backToKw pos (keywordEach [] X.env))) := by rfl) : PD X (.Call (.Attribute o m apos) (e :: es) [] pos) (wMeth C N spec wo wa) :=
  ⟨fun Wx tk => PE.imp (pe_methS (E := WE Wx) (ho.run Wx tk) c hm F hr hb (fun σ => passAt tk σ) (ha.run Wx tk) hst hpl ht) fun σ H Q ⟨W, env, S, Q0, X1, ok, sl, hw, cv, cx⟩ => ⟨W, env, S, _, X1, ok, sl, hw, fun d S1 v W1 H1 ⟨hi, h1⟩ s1 ok1 r1 => by
    obtain ⟨a, dx, fs, e1, e2, e3⟩ := isIns_rep ok1 r1 hi hN
    exact ⟨a, dx, fs, e1, e2, e3, W1, env, S1, _, X1, ok1, sl.mono s1.vis, h1, fun ds S2 vs W2 H2 h2 s2 ok2 r2 => ⟨W2, S2, d :: ds, Q0, X1, ok2, ⟨v, vs, rfl, r1.mono s2.vis, r2⟩, h2, cv.mono (s1.trans s2), cx.mono (s1.trans s2)⟩, cx.mono s1⟩, cx⟩⟩
theorem pd_meth0 {N : List Str} {pl : Sem Bool} (c : Cls X.K C) (hm : Meth X.K C m f) (hN : m ∉ N) (F : FnD X.prog X.w X.K X.mg X.base k f fd ps spec) (hr : Room k X.A) (hb : Binds X.K fd ps []) (ho : PD X o wo)
    (ht : eval (.Call (.Attribute o m apos) [] [] pos) X.env = (do
      let ov ← eval o X.env
      standAt apos.atName
      let (f, first) ← holding [ov] (getMethod ov m pl)
      callWith pos f first (backTo pos (starEach [] X.env)) (backToKw pos (keywordEach [] X.env))) := by rfl) : PD X (.Call (.Attribute o m apos) [] [] pos) (wMeth C N spec wo wNil) :=
  ⟨fun Wx tk => PE.imp (pe_meth0S (E := WE Wx) (ho.run Wx tk) c hm F hr hb (fun σ => passAt tk σ) ht) fun σ H Q ⟨W, env, S, Q0, X1, ok, sl, hw, cv, cx⟩ => ⟨W, env, S, _, X1, ok, sl, hw, fun d S1 v W1 H1 ⟨hi, h1⟩ s1 ok1 r1 => by
    obtain ⟨a, dx, fs, e1, e2, e3⟩ := isIns_rep ok1 r1 hi hN
    exact ⟨a, dx, fs, e1, e2, e3, W1, S1, [d], Q0, X1, ok1, ⟨v, [], rfl, r1, rfl⟩, h1, cv.mono s1, cx.mono s1⟩, cx⟩⟩
theorem pd_make {N : List Str} (M : Mk X.K C f) (hN : N.Nodup) (hl : N.length ≤ 900) (F : FnD X.prog X.w X.K X.mg X.base k f fd ps spec) (hr : Room (k + 1) X.A) (hm : X.mg x = some (.ref C)) (hb : Binds X.K fd ps [])
    (ha : PDa X (e :: es) wa) (hg : Gl X x := by rfl) (hdb : (x == ("__debug__" : Str)) = false := by decide) (he : starEach (e :: es) X.env = (false, eval e X.env) :: starEach es X.env := by rfl) (hpl : (backTo pos (starEach es X.env)).any (·.1) = false := by rfl) :
    PD X (.Call (.Name x p) (e :: es) [] pos) (wMake C N spec wa) :=
  ⟨fun Wx tk => PE.imp (pe_makeS (E := WE Wx) M F hr hg hm hb (fun σ => passAt tk σ) (ha.run Wx tk) hdb he hpl) fun σ H Q ⟨W, env, S, Q0, X1, ok, sl, hw, cv, cx⟩ => ⟨W, env, S, _, X1, ok, sl, hw, fun ds S1 vs W1 H1 h1 s1 ok1 r1 y dy hy hdy hne => by
    have hy2 : (upd H1 dy (HO.own y)) y = none := by rw [upd_ne (Ne.symm hne)]; exact hy
    have ok2 := (ok1.junk (o := .own y) hdy).newS (m := .ins C N (noneV N)) (o := .ins C dy []) hy2 ⟨dy, [], rfl, frep_new hN hl⟩
    have st := (ok1.stJ (o := .own y) hdy).trans (Ok.stS (m := .ins C N (noneV N)) (o := .ins C dy []) (ok1.junk (o := .own y) hdy) hy2)
    exact ⟨W1, _, .ref y :: ds, _, X1, ok2, ⟨_, _, rfl, rfl, r1⟩, h1 y (ok1.fresh hy).2, fun d S2 v W2 H2 ⟨hd, h2⟩ s2 ok3 r2 => by
      subst hd
      exact ⟨r2, cv _ S2 _ W2 H2 h2 (s1.trans (st.trans s2)) ok3 rfl⟩, cx.mono (s1.trans st)⟩, cx⟩⟩
end

/-! ### a mutable object as data from now on; a mutable list lent as data -/
def allV : DE → Option (List D)
  | [] => some []
  | none :: _ => none
  | some d :: r => (allV r).map (d :: ·)
def frzD (S : Sto) (d : D) (Q : Qd) : Prop := match d with
  | .ref a => match S a with
    | some (.lst xs) => Q (.lst xs) (del S a)
    | some (.ins C N xs) => some! (allV xs) fun ys => Q (.obj C N ys) (del S a)
    | _ => False
  | _ => Q d S
def wFrz (w : WPe) : WPe := fun env S Q X => w env S (fun d S1 => frzD S1 d Q) X
theorem allV_get : ∀ {xs : DE} {ys : List D}, allV xs = some ys → ys.length = xs.length ∧ ∀ i, getV xs i = ys[i]?
  | [], ys, h => by
    cases h
    exact ⟨rfl, fun i => by simp [getV]⟩
  | none :: _, ys, h => by cases h
  | some d :: r, ys, h => by
    have h' : (allV r).map (d :: ·) = some ys := h
    cases q : allV r with
    | none => rw [q] at h'; cases h'
    | some zs =>
      rw [q] at h'
      cases h'
      obtain ⟨a, b⟩ := allV_get q
      refine ⟨congrArg (· + 1) a, fun i => ?_⟩
      cases i with
      | zero => rfl
      | succ i => exact b i
theorem reps_of_get {K : PySem.W.Frag} {W : Hp} : ∀ {ys : List D} {g : Nat → Option V}, (∀ i d, ys[i]? = some d → ∃ v, g i = some v ∧ Rep K W d v) → (∀ i, ys.length ≤ i → g i = none) → ∃ vs : List V, Reps K W ys vs ∧ ∀ i, g i = vs[i]?
  | [], g, _, h2 => ⟨[], rfl, fun i => by rw [h2 i (Nat.zero_le _)]; simp⟩
  | d :: r, g, h1, h2 => by
    obtain ⟨v, e, rv⟩ := h1 0 d rfl
    obtain ⟨vs, rr, q⟩ := reps_of_get (ys := r) (g := fun i => g (i + 1)) (fun i d h => h1 (i + 1) d h) (fun i h => h2 (i + 1) (Nat.succ_le_succ h))
    refine ⟨v :: vs, ⟨v, vs, rfl, rv, rr⟩, fun i => ?_⟩
    cases i with
    | zero => exact e
    | succ i => exact q i
theorem frz_go {K : PySem.W.Frag} {W : Hp} {S : Sto} {H : Hp} {d : D} {v : V} {Q0 : Qd} {Q : VK} (ok : Ok K W S H) (r : Rep K W d v) (h : frzD S d Q0) (cv : CV K W S H Q0 Q) : Q v H := by
  cases d with
  | ref a =>
    have r' : v = .ref a := r
    subst r'
    cases q : S a with
    | none => unfold frzD at h; simp only [q] at h
    | some mo =>
      obtain ⟨o, e1, e2⟩ := ok.sto _ _ q
      have hW := ok.sep _ _ q
      cases mo with
      | lst xs =>
        unfold frzD at h
        simp only [q] at h
        obtain ⟨vs, e3, e4⟩ := e2
        subst e3
        exact cv _ _ _ _ _ h (ok.stF q) (ok.frz q e1) ⟨a, vs, rfl, upd_same, e4.mono (same_new hW)⟩
      | ins C N xs =>
        unfold frzD at h
        simp only [q] at h
        obtain ⟨ys, e5, h⟩ := some!_ex h
        obtain ⟨dx, gs, e3, fr⟩ := e2
        subst e3
        obtain ⟨l1, g1⟩ := allV_get e5
        have hlen : N.length = ys.length := by rw [l1, fr.len]
        obtain ⟨vs, rv, gv⟩ := reps_of_get (K := K) (W := W) (ys := ys) (g := fun i => (N[i]?).bind fun f => gs.lookup f) (fun i d hd => by
          have hi : i < N.length := by rw [hlen]; exact lt_of_some hd
          obtain ⟨v, c, rr⟩ := fr.is i N[i] d (List.getElem?_eq_getElem hi) (by rw [g1]; exact hd)
          exact ⟨v, by rw [List.getElem?_eq_getElem hi]; exact c, rr⟩) (fun i hi => by
          rw [List.getElem?_eq_none (by omega)]; rfl)
        refine cv _ _ _ _ _ h (ok.stF q) (ok.frz q e1) ⟨a, dx, gs, vs, rfl, upd_same, fun i f hf => ?_, fr.out, rv.mono (same_new hW)⟩
        rw [← gv i]
        show _ = (N[i]?).bind _
        rw [hf]; rfl
      | _ =>
        unfold frzD at h
        simp only [q] at h
  | _ => exact cv _ _ _ _ _ h Stp.refl ok r
section
variable {X : Cx} {e : Expr} {w : WPe}
theorem pd_frz (h : PD X e w) : PD X e (wFrz w) := ⟨fun Wx tk => PE.imp (h.run Wx tk) fun σ H Q ⟨W, env, S, Q0, X1, ok, sl, hw, cv, cx⟩ => ⟨W, env, S, _, X1, ok, sl, hw, fun d S1 v W1 H1 h1 s1 ok1 r1 => frz_go ok1 r1 h1 (cv.mono s1), cx⟩⟩
end
end DL
set_option Elab.async false
set_option linter.all false
set_option maxRecDepth 100000
set_option maxHeartbeats 2000000
/-! The data layer, part d: operations of values. -/
namespace DL
open PySem PySem.Spec PyProof.Rows L2

/-! ### lists and tuples, however held -/
def seqM (S : Sto) (d : D) : Option (List D) := match d with
  | .lst xs => some xs
  | .ref a => match S a with
    | some (.lst xs) => some xs
    | _ => none
  | _ => none
def seqL (S : Sto) (d : D) : Option (List D) := match d with
  | .fro xs => some xs
  | d => seqM S d
/-- a list or a tuple -/
def seqA (S : Sto) (d : D) : Option (List D) := match d with
  | .tup xs => some xs
  | d => seqL S d
section
variable {K : PySem.W.Frag} {W : Hp} {S : Sto} {H : Hp} {d : D} {v : V} {xs : List D}
theorem seqM_rep (ok : Ok K W S H) (r : Rep K W d v) (h : seqM S d = some xs) : ∃ a vs, v = .ref a ∧ H a = some (.lst vs) ∧ Reps K W xs vs := by
  cases d with
  | lst ys =>
    cases h
    obtain ⟨a, vs, e1, e2, e3⟩ := r
    exact ⟨a, vs, e1, ok.vis _ _ e2, e3⟩
  | ref a =>
    have h' : (match S a with | some (.lst xs) => some xs | _ => none) = some xs := h
    cases q : S a with
    | none => rw [q] at h'; cases h'
    | some m =>
      rw [q] at h'
      cases m with
      | lst ys =>
        cases h'
        obtain ⟨o, e1, vs, e2, e3⟩ := ok.sto _ _ q
        subst e2
        exact ⟨a, vs, r, e1, e3⟩
      | _ => cases h'
  | _ => cases h
theorem seqL_rep (ok : Ok K W S H) (r : Rep K W d v) (h : seqL S d = some xs) : ∃ a vs, v = .ref a ∧ SqL K H a vs ∧ Reps K W xs vs := by
  cases d with
  | fro ys =>
    cases h
    obtain ⟨a, vs, e1, e2, e3⟩ := r
    exact ⟨a, vs, e1, sqL_mono ok.vis e2, e3⟩
  | lst ys =>
    obtain ⟨a, vs, e1, e2, e3⟩ := seqM_rep ok r h
    exact ⟨a, vs, e1, SqL.of e2, e3⟩
  | ref a =>
    obtain ⟨a, vs, e1, e2, e3⟩ := seqM_rep ok r h
    exact ⟨a, vs, e1, SqL.of e2, e3⟩
  | _ => cases h
theorem seqA_rep (ok : Ok K W S H) (r : Rep K W d v) (h : seqA S d = some xs) : ∃ a vs, v = .ref a ∧ (SqL K H a vs ∨ SqT K H a vs) ∧ Reps K W xs vs := by
  cases d with
  | tup ys =>
    cases h
    obtain ⟨a, vs, e1, e2, e3⟩ := r
    exact ⟨a, vs, e1, .inr (sqT_mono ok.vis e2), e3⟩
  | fro ys =>
    obtain ⟨a, vs, e1, e2, e3⟩ := seqL_rep ok r h
    exact ⟨a, vs, e1, .inl e2, e3⟩
  | lst ys =>
    obtain ⟨a, vs, e1, e2, e3⟩ := seqL_rep ok r h
    exact ⟨a, vs, e1, .inl e2, e3⟩
  | ref a =>
    obtain ⟨a, vs, e1, e2, e3⟩ := seqL_rep ok r h
    exact ⟨a, vs, e1, .inl e2, e3⟩
  | _ => cases h
theorem seqM_put {p : Addr} {m : MO} (h : seqM S d = some xs) (hp : S p = none) : seqM (put S p m) d = some xs := by
  cases d with
  | ref a =>
    have h' : (match S a with | some (.lst xs) => some xs | _ => none) = some xs := h
    have ne : a ≠ p := fun e => by subst e; rw [hp] at h'; cases h'
    show (match put S p m a with | some (.lst xs) => some xs | _ => none) = some xs
    rw [put_ne ne]; exact h'
  | _ => exact h
theorem seqL_put {p : Addr} {m : MO} (h : seqL S d = some xs) (hp : S p = none) : seqL (put S p m) d = some xs := by
  cases d with
  | fro ys => exact h
  | ref a => exact seqM_put (d := .ref a) h hp
  | lst ys => exact h
  | _ => cases h
theorem seqA_put {p : Addr} {m : MO} (h : seqA S d = some xs) (hp : S p = none) : seqA (put S p m) d = some xs := by
  cases d with
  | tup ys => exact h
  | fro ys => exact h
  | ref a => exact seqM_put (d := .ref a) h hp
  | lst ys => exact h
  | _ => cases h
/-- a change at p, which is not this list -/
theorem seqA_chg {p : Addr} {m : MO} (h : seqA S d = some xs) (hp : ∀ a, d = .ref a → a ≠ p) : seqA (put S p m) d = some xs := by
  cases d with
  | ref a =>
    have h' : (match S a with | some (.lst xs) => some xs | _ => none) = some xs := h
    show (match put S p m a with | some (.lst xs) => some xs | _ => none) = some xs
    rw [put_ne (hp a rfl)]; exact h'
  | _ => exact h
theorem vals_le {P : Program} {w : World} {h : Heap} {a : Addr} {vs : List V} (hok : HOk P w H h) (e : H a = some (.lst vs)) : vs.length ≤ sizeLine := (hok a _ e).1
end

/-! ### ints in data -/
def toInts : List D → Option (List Int)
  | [] => some []
  | .int i :: r => (toInts r).map (i :: ·)
  | _ :: _ => none
theorem toInts_map : ∀ ns : List Int, toInts (ns.map D.int) = some ns
  | [] => rfl
  | i :: r => by
    show (toInts (r.map D.int)).map (i :: ·) = some (i :: r)
    rw [toInts_map r]; rfl
theorem toInts_rep {K : PySem.W.Frag} {W : Hp} : ∀ {xs : List D} {ns : List Int} {vs : List V}, toInts xs = some ns → Reps K W xs vs → vs = ns.map V.int
  | [], ns, vs, h, r => by
    cases h
    exact r
  | .int i :: xs, ns, vs, h, ⟨v, q, e1, e2, e3⟩ => by
    have h' : (toInts xs).map (i :: ·) = some ns := h
    cases z : toInts xs with
    | none => rw [z] at h'; cases h'
    | some ms =>
      rw [z] at h'
      cases h'
      subst e1
      have e2' : v = .int i := e2
      rw [toInts_rep z e3, e2']; rfl
  | .non :: _, _, _, h, _ => by cases h
  | .bl _ :: _, _, _, h, _ => by cases h
  | .str _ :: _, _, _, h, _ => by cases h
  | .ref _ :: _, _, _, h, _ => by cases h
  | .lst _ :: _, _, _, h, _ => by cases h
  | .tup _ :: _, _, _, h, _ => by cases h
  | .fro _ :: _, _, _, h, _ => by cases h
  | .obj _ _ _ :: _, _, _, h, _ => by cases h
  | .exc _ _ _ _ _ :: _, _, _, h, _ => by cases h
def toBls : List D → Option (List Bool)
  | [] => some []
  | .bl i :: r => (toBls r).map (i :: ·)
  | _ :: _ => none
theorem toBls_map : ∀ ns : List Bool, toBls (ns.map D.bl) = some ns
  | [] => rfl
  | i :: r => by
    show (toBls (r.map D.bl)).map (i :: ·) = some (i :: r)
    rw [toBls_map r]; rfl
theorem toBls_rep {K : PySem.W.Frag} {W : Hp} : ∀ {xs : List D} {ns : List Bool} {vs : List V}, toBls xs = some ns → Reps K W xs vs → vs = ns.map V.bl
  | [], ns, vs, h, r => by
    cases h
    exact r
  | .bl i :: xs, ns, vs, h, ⟨v, q, e1, e2, e3⟩ => by
    have h' : (toBls xs).map (i :: ·) = some ns := h
    cases z : toBls xs with
    | none => rw [z] at h'; cases h'
    | some ms =>
      rw [z] at h'
      cases h'
      subst e1
      have e2' : v = .bl i := e2
      rw [toBls_rep z e3, e2']; rfl
  | .non :: _, _, _, h, _ => by cases h
  | .int _ :: _, _, _, h, _ => by cases h
  | .str _ :: _, _, _, h, _ => by cases h
  | .ref _ :: _, _, _, h, _ => by cases h
  | .lst _ :: _, _, _, h, _ => by cases h
  | .tup _ :: _, _, _, h, _ => by cases h
  | .fro _ :: _, _, _, h, _ => by cases h
  | .obj _ _ _ :: _, _, _, h, _ => by cases h
  | .exc _ _ _ _ _ :: _, _, _, h, _ => by cases h

/-! ### operators on ints -/
section
variable {X : Cx}
def oI (C : Int → Int → Prop) (g : Int → Int → D) : O2 := fun S x y Q => match x, y with
  | .int i, .int j => C i j ∧ Q (g i j) S
  | _, _ => False
def oI0 (g : Int → Int → D) : O2 := fun S x y Q => match x, y with
  | .int i, .int j => Q (g i j) S
  | _, _ => False
theorem OpR.imp {f : Value → Value → Sem Value} {r r' : R2} (h : OpR X f r) (i : ∀ x y H Q, r' x y H Q → r x y H Q) : OpR X f r' := fun pins s σ H x y v u Q I rx ry q => h pins s σ H x y v u Q I rx ry (i _ _ _ _ q)
theorem opI_of {f : Value → Value → Sem Value} {C : Int → Int → Prop} {g : Int → Int → D} {gv : Int → Int → V} (h : OpR X f (rI C gv)) (r : ∀ i j W, Rep X.K W (g i j) (gv i j)) : OpR X f (lOp X.K (oI C g)) :=
  OpR.imp h fun x y H Q ⟨W, S, a, b, Q0, ok, ra, rb, ho, cv⟩ => by
    cases a with
    | int i =>
      cases b with
      | int j => exact ⟨i, j, ra, rb, ho.1, cv _ S _ W H ho.2 Stp.refl ok (r i j W)⟩
      | _ => exact ho.elim
    | _ => exact ho.elim
theorem opI0_of {f : Value → Value → Sem Value} {g : Int → Int → D} {gv : Int → Int → V} (h : OpR X f (rI0 gv)) (r : ∀ i j W, Rep X.K W (g i j) (gv i j)) : OpR X f (lOp X.K (oI0 g)) :=
  OpR.imp h fun x y H Q ⟨W, S, a, b, Q0, ok, ra, rb, ho, cv⟩ => by
    cases a with
    | int i =>
      cases b with
      | int j => exact ⟨i, j, ra, rb, cv _ S _ W H ho Stp.refl ok (r i j W)⟩
      | _ => exact ho.elim
    | _ => exact ho.elim
abbrev oSub : O2 := oI0 fun i j => .int (i - j)
abbrev oMul : O2 := oI CMulW fun i j => .int (i * j)
abbrev oDiv : O2 := oI CDivW fun i j => .int (i / j)
abbrev oMod : O2 := oI (fun _ j => 0 < j) fun i j => .int (i % j)
abbrev oPow : O2 := oI CPow fun i j => .int (i ^ j.toNat)
abbrev oLt : O2 := oI0 fun i j => .bl (decide (i < j))
abbrev oLe : O2 := oI0 fun i j => .bl (decide (i ≤ j))
abbrev oGt : O2 := oI0 fun i j => .bl (decide (j < i))
abbrev oGe : O2 := oI0 fun i j => .bl (decide (j ≤ i))
theorem opd_sub : OpR X (binaryOp .Sub) (lOp X.K oSub) := opI0_of op_sub fun _ _ _ => rfl
theorem opd_mul : OpR X (binaryOp .Mult) (lOp X.K oMul) := opI_of op_mulW fun _ _ _ => rfl
theorem opd_div : OpR X (binaryOp .FloorDiv) (lOp X.K oDiv) := opI_of op_fdivW fun _ _ _ => rfl
theorem opd_mod : OpR X (binaryOp .Mod) (lOp X.K oMod) := opI_of op_mod fun _ _ _ => rfl
theorem opd_pow : OpR X (binaryOp .Pow) (lOp X.K oPow) := opI_of op_pow fun _ _ _ => rfl
theorem opd_lt : OpR X (compareOp .Lt) (lOp X.K oLt) := opI0_of op_lt fun _ _ _ => rfl
theorem opd_le : OpR X (compareOp .LtE) (lOp X.K oLe) := opI0_of op_le fun _ _ _ => rfl
theorem opd_gt : OpR X (compareOp .Gt) (lOp X.K oGt) := opI0_of op_gt fun _ _ _ => rfl
theorem opd_ge : OpR X (compareOp .GtE) (lOp X.K oGe) := opI0_of op_ge fun _ _ _ => rfl
theorem iopd_add : OpR X (inplaceOp .Add) (lOp X.K (oI0 fun i j => .int (i + j))) := opI0_of iop_add fun _ _ _ => rfl
theorem iopd_sub : OpR X (inplaceOp .Sub) (lOp X.K oSub) := opI0_of iop_sub fun _ _ _ => rfl
/-- -i -/
def oNeg : O1 := fun S x Q => match x with
  | .int i => Q (.int (-i)) S
  | _ => False
theorem und_neg : UnR X (unaryOp .USub) (lU X.K oNeg) := fun pins s σ H x v Q I rx h => by
  obtain ⟨W, S, a, Q0, ok, ra, ho, cv⟩ := h
  cases a with
  | int i => exact un_neg pins s σ H x v Q I rx ⟨i, ra, cv _ S _ W H ho Stp.refl ok rfl⟩
  | _ => exact ho.elim

/-! ### + of ints, texts, lists, tuples -/
def oCatL : O2 := fun S x y Q => some! (seqM S x) fun xs => some! (seqM S y) fun ys => xs.length + ys.length ≤ sizeLine ∧ Q (.lst (xs ++ ys)) S
def oAdd : O2 := fun S x y Q => match x, y with
  | .int i, .int j => Q (.int (i + j)) S
  | .str a, .str b => a.length + b.length ≤ sizeLine ∧ Q (.str (a ++ b)) S
  | .tup xs, .tup ys => xs.length + ys.length ≤ sizeLine ∧ Q (.tup (xs ++ ys)) S
  | x, y => oCatL S x y Q
theorem opd_add : OpR X (binaryOp .Add) (lOp X.K oAdd) := fun pins s σ H x y v u Q I rx ry h => by
  obtain ⟨W, S, a, b, Q0, ok, ra, rb, ho, cv⟩ := h
  have catL : oCatL S a b Q0 → wpAny (model X.prog X.w) X.A (binaryOp .Add v u) (EP X pins σ Q) X.xe s := fun z => by
    obtain ⟨xs, e1, z⟩ := some!_ex z
    obtain ⟨ys, e2, hz, z⟩ := some!_ex z
    obtain ⟨p, vs, rfl, hp, r1⟩ := seqM_rep ok ra e1
    obtain ⟨q, ws, rfl, hq, r2⟩ := seqM_rep ok rb e2
    refine op_cat pins s σ H _ _ v u Q I rx ry ⟨p, q, vs, ws, rfl, rfl, hp, hq, by rw [r1.length, r2.length]; exact hz, fun o no => ?_⟩
    have n := ok.fresh no
    exact cv _ S _ _ _ z (ok.stW no) (ok.newW no) ⟨o, _, rfl, upd_same, (r1.append r2).mono (same_new n.1)⟩
  cases a with
  | int i =>
    cases b with
    | int j => exact op_add pins s σ H _ _ v u Q I rx ry ⟨i, j, ra, rb, cv _ S _ W H ho Stp.refl ok rfl⟩
    | _ => exact catL ho
  | str i =>
    cases b with
    | str j => exact op_add_str pins s σ H _ _ v u Q I rx ry ⟨i, j, ra, rb, ho.1, cv _ S _ W H ho.2 Stp.refl ok rfl⟩
    | _ => exact catL ho
  | tup xs =>
    cases b with
    | tup ys =>
      obtain ⟨p, vs, rfl, hp, r1⟩ := id ra
      obtain ⟨q, ws, rfl, hq, r2⟩ := id rb
      have hp' := sqT_mono ok.vis hp
      have hq' := sqT_mono ok.vis hq
      refine op_catA pins s σ H _ _ v u Q I rx ry ⟨p, q, vs, ws, rfl, rfl, hp', hq', by rw [r1.length, r2.length]; exact ho.1, fun z => ?_, fun z1 z2 => ?_, fun z1 z2 o no => ?_⟩
      · subst z
        have e : xs = [] := List.eq_nil_of_length_eq_zero (by rw [← r1.length]; rfl)
        subst e
        exact cv _ S _ W H ho.2 Stp.refl ok ⟨q, ws, rfl, hq, r2⟩
      · subst z2
        have e : ys = [] := List.eq_nil_of_length_eq_zero (by rw [← r2.length]; rfl)
        subst e
        refine cv _ S _ W H ho.2 Stp.refl ok ⟨p, vs, rfl, hp, ?_⟩
        rw [List.append_nil]; exact r1
      · have n := ok.fresh no
        exact cv _ S _ _ _ ho.2 (ok.stW no) (ok.newW no) ⟨o, _, rfl, SqT.of upd_same, (r1.append r2).mono (same_new n.1)⟩
    | _ => exact catL ho
  | _ => exact catL ho

/-! ### == and != of data -/
mutual
def toP : D → PyData
  | .non => .none
  | .bl b => .bool b
  | .int i => .int i
  | .str x => .str x
  | .lst xs => .list (toPs xs)
  | .fro xs => .list (toPs xs)
  | .tup xs => .tuple (toPs xs)
  | .ref _ => .dict []
  | .obj _ _ _ => .dict []
  | .exc _ _ _ _ _ => .dict []
def toPs : List D → List PyData
  | [] => []
  | d :: r => toP d :: toPs r
end
mutual
theorem dp_of {K : PySem.W.Frag} {W H : Hp} (e : Same W H) : ∀ {d : D} {v : V}, Rep K W d v → (toP d).canLay0 = true → Dp K H v (toP d)
  | .non, _, h, _ => by rw [show _ = V.non from h]; exact .non
  | .bl b, _, h, _ => by rw [show _ = V.bl b from h]; exact .bl b
  | .int i, _, h, _ => by rw [show _ = V.int i from h]; exact .int i
  | .str x, _, h, _ => by rw [show _ = V.str x from h]; exact .str x
  | .lst xs, _, ⟨a, vs, e1, e2, e3⟩, c => by subst e1; exact .lst (SqL.of (e _ _ e2)) (dps_of e e3 c)
  | .fro xs, _, ⟨a, vs, e1, e2, e3⟩, c => by subst e1; exact .lst (sqL_mono e e2) (dps_of e e3 c)
  | .tup xs, _, ⟨a, vs, e1, e2, e3⟩, c => by subst e1; exact .tup (sqT_mono e e2) (dps_of e e3 c)
  | .ref _, _, _, c => by cases c
  | .obj _ _ _, _, _, c => by cases c
  | .exc _ _ _ _ _, _, _, c => by cases c
theorem dps_of {K : PySem.W.Frag} {W H : Hp} (e : Same W H) : ∀ {d : List D} {v : List V}, Reps K W d v → PyData.canLayAll0 (toPs d) = true → DpAll K H v (toPs d)
  | [], _, h, _ => by rw [show _ = ([] : List V) from h]; exact .nil
  | d :: ds, _, ⟨v, r, e1, e2, e3⟩, c => by
    subst e1
    have c' : ((toP d).canLay0 && PyData.canLayAll0 (toPs ds)) = true := c
    rw [Bool.and_eq_true] at c'
    exact .cons (dp_of e e2 c'.1) (dps_of e e3 c'.2)
end
/-- a mutable list by what it holds -/
def resD (S : Sto) (d : D) : D := match d with
  | .ref a => match S a with
    | some (.lst xs) => .lst xs
    | _ => .ref a
  | _ => d
theorem dp_res {K : PySem.W.Frag} {W H : Hp} {S : Sto} (ok : Ok K W S H) {d : D} {v : V} (r : Rep K W d v) (c : SeqAt.shaped (toP (resD S d)) = true) : Dp K H v (toP (resD S d)) := by
  have c0 := SeqAt.canLay_of_shaped c
  cases d with
  | ref a =>
    have e : resD S (.ref a) = (match S a with | some (.lst xs) => .lst xs | _ => .ref a) := rfl
    cases q : S a with
    | none => rw [e, q] at c0; cases c0
    | some m =>
      cases m with
      | lst xs =>
        rw [e, q] at c0 ⊢
        obtain ⟨o, e1, vs, e2, e3⟩ := ok.sto _ _ q
        subst e2
        have r' : v = .ref a := r
        subst r'
        exact .lst (SqL.of e1) (dps_of ok.vis e3 c0)
      | _ => rw [e, q] at c0; cases c0
  | _ => exact dp_of ok.vis r c0
def eqD (S : Sto) (x y : D) : Bool := PyData.eqv (toP (resD S x)) (toP (resD S y))
def shD (S : Sto) (x : D) : Bool := SeqAt.shaped (toP (resD S x))
def oEq : O2 := fun S x y Q => shD S x = true ∧ shD S y = true ∧ Q (.bl (eqD S x y)) S
def oNe : O2 := fun S x y Q => shD S x = true ∧ shD S y = true ∧ Q (.bl (!eqD S x y)) S
theorem opd_eq (hu : X.A.units + 64 < cLine) : OpR X (compareOp .Eq) (lOp X.K oEq) := OpR.imp (op_eqD hu) fun x y H Q ⟨W, S, a, b, Q0, ok, ra, rb, ho, cv⟩ =>
  ⟨_, _, dp_res ok ra ho.1, dp_res ok rb ho.2.1, ho.1, ho.2.1, cv _ S _ W H ho.2.2 Stp.refl ok rfl⟩
theorem opd_ne (hu : X.A.units + 64 < cLine) : OpR X (compareOp .NotEq) (lOp X.K oNe) := OpR.imp (op_neD hu) fun x y H Q ⟨W, S, a, b, Q0, ok, ra, rb, ho, cv⟩ =>
  ⟨_, _, dp_res ok ra ho.1, dp_res ok rb ho.2.1, ho.1, ho.2.1, cv _ S _ W H ho.2.2 Stp.refl ok rfl⟩
/-- x is None, x is not None -/
def isNon : D → Bool
  | .non => true
  | _ => false
def oIsN : O2 := fun S x y Q => match y with
  | .non => Q (.bl (isNon x)) S
  | _ => False
def oNotN : O2 := fun S x y Q => match y with
  | .non => Q (.bl (!isNon x)) S
  | _ => False
theorem isNon_rep {K : PySem.W.Frag} {W : Hp} {d : D} {v : V} (r : Rep K W d v) : decide (v = .non) = isNon d := by
  cases d with
  | non => rw [show v = V.non from r]; rfl
  | bl b => rw [show v = V.bl b from r]; rfl
  | int b => rw [show v = V.int b from r]; rfl
  | str b => rw [show v = V.str b from r]; rfl
  | ref b => rw [show v = V.ref b from r]; rfl
  | lst xs => obtain ⟨a, vs, e1, _⟩ := r; rw [e1]; rfl
  | fro xs => obtain ⟨a, vs, e1, _⟩ := r; rw [e1]; rfl
  | tup xs => obtain ⟨a, vs, e1, _⟩ := r; rw [e1]; rfl
  | obj C N xs => obtain ⟨a, dx, gs, vs, e1, _⟩ := r; rw [e1]; rfl
  | exc a dd C f x => rw [show v = V.ref a from r.1]; rfl
theorem opd_isN : OpR X (compareOp .Is) (lOp X.K oIsN) := OpR.imp op_isN fun x y H Q ⟨W, S, a, b, Q0, ok, ra, rb, ho, cv⟩ => by
  cases b with
  | non => exact ⟨rb, by rw [isNon_rep ra]; exact cv _ S _ W H ho Stp.refl ok rfl⟩
  | _ => exact ho.elim
theorem opd_notN : OpR X (compareOp .IsNot) (lOp X.K oNotN) := OpR.imp op_notN fun x y H Q ⟨W, S, a, b, Q0, ok, ra, rb, ho, cv⟩ => by
  cases b with
  | non => exact ⟨rb, by rw [isNon_rep ra]; exact cv _ S _ W H ho Stp.refl ok rfl⟩
  | _ => exact ho.elim

/-! ### items, slices -/
def oIx : O2 := fun S x y Q => match y with
  | .int i => some! (seqA S x) fun xs => some! (atI xs i) fun d => Q d S
  | _ => False
theorem reps_at {K : PySem.W.Frag} {W : Hp} {xs : List D} {vs : List V} {i : Int} {d : D} (r : Reps K W xs vs) (h : atI xs i = some d) : ∃ v, atI vs i = some v ∧ Rep K W d v := by
  unfold atI at h ⊢
  rw [r.length]
  cases q : ixN xs.length i with
  | none => rw [q] at h; cases h
  | some j =>
    rw [q] at h
    obtain ⟨v, e, rv⟩ := r.get (i := j) (d := d) h
    exact ⟨v, e, rv⟩
theorem IxR.imp {r r' : R2} (h : IxR X r) (i : ∀ x y H Q, r' x y H Q → r x y H Q) : IxR X r' := fun va sl pins s σ H x y v u Q I rx ry q hs => h va sl pins s σ H x y v u Q I rx ry (i _ _ _ _ q) hs
theorem ixd : IxR X (lOp X.K oIx) := IxR.imp (ix_list.or ix_tup) fun x y H Q ⟨W, S, a, b, Q0, ok, ra, rb, ho, cv⟩ => by
  cases b with
  | int i =>
    obtain ⟨xs, e1, ho⟩ := some!_ex ho
    obtain ⟨d, e2, ho⟩ := some!_ex ho
    obtain ⟨p, vs, rfl, hq, r1⟩ := seqA_rep ok ra e1
    obtain ⟨v, e3, rv⟩ := reps_at r1 e2
    rcases hq with hq | hq
    · exact .inl ⟨p, vs, i, v, rfl, rb, hq, e3, cv d S v W H ho Stp.refl ok rv⟩
    · exact .inr ⟨p, vs, i, v, rfl, rb, hq, e3, cv d S v W H ho Stp.refl ok rv⟩
  | _ => exact ho.elim
def cutD (xs : List D) (lo hi : Option Int) : List D := (xs.drop (HT.sIx xs.length 0 lo)).take (HT.sIx xs.length xs.length hi - HT.sIx xs.length 0 lo)
theorem reps_cut {K : PySem.W.Frag} {W : Hp} {xs : List D} {vs : List V} {lo hi : Option Int} (r : Reps K W xs vs) : Reps K W (cutD xs lo hi) (cutV vs lo hi) := by
  unfold cutD cutV
  rw [r.length]
  exact (r.drop _).take _
/-- a slice: of a list a new list, of a tuple a tuple -/
def oSl (S : Sto) (x : D) (lo hi : Option Int) (Q : Qd) : Prop := match x with
  | .tup xs => Q (.tup (cutD xs lo hi)) S
  | x => some! (seqL S x) fun xs => Q (.lst (cutD xs lo hi)) S
def lSl (K : PySem.W.Frag) : V → Option Int → Option Int → Hp → VK → Prop := fun x lo hi H Q => ∃ W S a Q0, Ok K W S H ∧ Rep K W a x ∧ oSl S a lo hi Q0 ∧ CV K W S H Q0 Q
theorem sld : SlR X (lSl X.K) := by
  intro pins s σ H x v vl vu lo hi sl Q I rx hs pl pu h
  obtain ⟨W, S, a, Q0, ok, ra, ho, cv⟩ := h
  have onL : some! (seqL S a) (fun xs => Q0 (.lst (cutD xs lo hi)) S) → ∃ T id, typeLookup (.type T) "__getitem__" = pure (some (.builtin id)) ∧ s.TypeIs v T ∧ wpAny (model X.prog X.w) X.A (getItem v (.ref sl)) (EP X pins σ Q) X.xe s := fun z => by
    obtain ⟨xs, e1, z⟩ := some!_ex z
    obtain ⟨p, vs, rfl, hp, r1⟩ := seqL_rep ok ra e1
    refine sl_list pins s σ H _ v vl vu lo hi sl Q I rx hs pl pu ⟨p, vs, rfl, hp, fun o no => ?_⟩
    have n := ok.fresh no
    exact cv _ S _ _ _ z (ok.stW no) (ok.newW no) ⟨o, _, rfl, upd_same, (reps_cut r1).mono (same_new n.1)⟩
  cases a with
  | tup xs =>
    obtain ⟨p, vs, rfl, hp, r1⟩ := id ra
    have hp' := sqT_mono ok.vis hp
    refine sl_tupA pins s σ H _ v vl vu lo hi sl Q I rx hs pl pu ⟨p, vs, rfl, hp', fun z => ?_, fun z o no => ?_⟩
    · refine cv _ S _ W H ho Stp.refl ok ⟨p, vs, rfl, hp, ?_⟩
      have e : cutD xs lo hi = xs := by
        unfold cutD
        rw [r1.length] at z
        rw [z.1, z.2, Nat.sub_zero, List.drop_zero, List.take_length]
      rw [e]; exact r1
    · have n := ok.fresh no
      exact cv _ S _ _ _ ho (ok.stW no) (ok.newW no) ⟨o, _, rfl, SqT.of upd_same, (reps_cut r1).mono (same_new n.1)⟩
  | _ => exact onL ho
end
end DL
set_option Elab.async false
set_option linter.all false
set_option maxRecDepth 100000
set_option maxHeartbeats 400000
/-! The data layer, part e: slices' parts, built-in functions. -/
namespace DL
open PySem PySem.Spec PyProof.Rows L2
section
variable {X : Cx}
/-- the parts of a slice -/
abbrev WPo := DE → Sto → (Option Int → Sto → Prop) → XQ → Prop
def lO (K : PySem.W.Frag) (Wx : WX) (w : WPo) : TO := fun σ H Q => ∃ W env S Q0 X0, Ok K W S H ∧ Sl K W env σ ∧ w env S Q0 X0 ∧ (∀ o S' W' H', Q0 o S' → Stp W S H W' S' H' → Ok K W' S' H' → Q o H') ∧ CXc K W S H X0 (fun c d H' => Wx c d σ H')
structure PDo (X : Cx) (e : Option Expr) (w : WPo) : Prop where
  run : ∀ Wx, Takes X Wx → PO X e (lO X.K Wx w)
def wNoP : WPo := fun _ S Q _ => Q none S
def wP (w : WPe) : WPo := fun env S Q X => w env S (fun d S1 => match d with | .int i => Q (some i) S1 | _ => False) X
theorem PO.imp {e : Option Expr} {t t' : TO} (h : PO X e t) (i : ∀ σ H Q, t' σ H Q → t σ H Q) : PO X e t' := ⟨fun pins s σ H Q I q => h.run pins s σ H Q I (i σ H Q q)⟩
theorem pdo_none : PDo X none wNoP := ⟨fun Wx tk => PO.imp po_none fun σ H Q ⟨W, env, S, Q0, X1, ok, sl, hw, cv, cx⟩ => cv none S W H hw Stp.refl ok⟩
variable {e : Expr} {w : WPe} {wl wu : WPo} {lo hi : Option Expr} {pos p2 : Pos}
theorem pdo_some (h : PD X e w) : PDo X (some e) (wP w) := ⟨fun Wx tk => PO.imp (po_some (h.run Wx tk)) fun σ H Q ⟨W, env, S, Q0, X1, ok, sl, hw, cv, cx⟩ => ⟨W, env, S, _, X1, ok, sl, hw, fun d S1 v W1 H1 h1 s1 ok1 r1 => by
  cases d with
  | int i => exact ⟨i, r1, cv (some i) S1 W1 H1 h1 s1 ok1⟩
  | _ => exact h1.elim, cx⟩⟩
def wSl (we : WPe) (wl wu : WPo) : WPe := fun env S Q X => we env S (fun x S1 => wl env S1 (fun lo S2 => wu env S2 (fun hi S3 => oSl S3 x lo hi Q) X) X) X
theorem pd_slice (he : PD X e w) (hl : PDo X lo wl) (hu : PDo X hi wu) : PD X (.Subscript e (.Slice lo hi none p2) pos) (wSl w wl wu) :=
  ⟨fun Wx tk => PE.imp (pe_slice sld (he.run Wx tk) (hl.run Wx tk) (hu.run Wx tk)) fun σ H Q ⟨W, env, S, Q0, X1, ok, sl, hw, cv, cx⟩ => ⟨W, env, S, _, X1, ok, sl, hw, fun d S1 v W1 H1 h1 s1 ok1 r1 =>
    ⟨W1, env, S1, _, X1, ok1, sl.mono s1.vis, h1, fun o S2 W2 H2 h2 s2 ok2 => ⟨W2, env, S2, _, X1, ok2, sl.mono (s1.trans s2).vis, h2, fun o2 S3 W3 H3 h3 s3 ok3 =>
      ⟨W3, S3, d, Q0, ok3, r1.mono (s2.trans s3).vis, h3, cv.mono (s1.trans (s2.trans s3))⟩, cx.mono (s1.trans s2)⟩, cx.mono s1⟩, cx⟩⟩

/-! ### built-in functions -/
def wCB (o : OC) (wa : WPa) : WPe := fun env S Q X => wa env S (fun ds S1 => o S1 ds Q) X
variable {x : Str} {p : Pos} {es : List Expr} {wa : WPa} {fid T : String} {o : OC}
theorem cb_go {K : PySem.W.Frag} {Wx : WX} {σ : L2.St} {H : Hp} {Q : VK} (h : lE K Wx (wCB o wa) σ H Q) : tCB (lC K o) (lA K Wx wa) σ H Q := by
  obtain ⟨W, env, S, Q0, X1, ok, sl, hw, cv, cx⟩ := h
  exact ⟨W, env, S, _, X1, ok, sl, hw, fun ds S1 vs W1 H1 h1 s1 ok1 r1 => ⟨W1, S1, ds, Q0, ok1, r1, h1, cv.mono s1⟩, cx⟩
theorem pd_callB (hc : CallR X (.builtin fid) (lC X.K o)) (hm : X.mg x = none) (hv : bootBuiltins x = some (.builtin fid)) (ha : PDa X (e :: es) wa) (hg : Gl X x := by rfl) (hn : x ≠ "__name__" := by decide) (hdb : (x == ("__debug__" : Str)) = false := by decide)
    (he : starEach (e :: es) X.env = (false, eval e X.env) :: starEach es X.env := by rfl) (hpl : (backTo pos (starEach es X.env)).any (·.1) = false := by rfl) : PD X (.Call (.Name x p) (e :: es) [] pos) (wCB o wa) :=
  ⟨fun Wx tk => PE.imp (pe_callB hc hg hm hv (ha.run Wx tk) hn hdb he hpl) fun _ _ _ h => cb_go h⟩
theorem pd_callTy (hc : CallR X (.type T) (lC X.K o)) (hm : X.mg x = none) (hv : bootBuiltins x = some (.type T)) (ha : PDa X (e :: es) wa) (hg : Gl X x := by rfl) (hn : x ≠ "__name__" := by decide) (hdb : (x == ("__debug__" : Str)) = false := by decide)
    (he : starEach (e :: es) X.env = (false, eval e X.env) :: starEach es X.env := by rfl) (hpl : (backTo pos (starEach es X.env)).any (·.1) = false := by rfl) : PD X (.Call (.Name x p) (e :: es) [] pos) (wCB o wa) :=
  ⟨fun Wx tk => PE.imp (pe_callTy hc hg hm hv (ha.run Wx tk) hn hdb he hpl) fun _ _ _ h => cb_go h⟩
theorem CallR.imp {f : Value} {r r' : List V → Hp → VK → Prop} (h : CallR X f r) (i : ∀ xs H Q, r' xs H Q → r xs H Q) : CallR X f r' := fun pins s σ H xs us Q I rv q => h pins s σ H xs us Q I rv (i _ _ _ q)
theorem reps1 {K : PySem.W.Frag} {W : Hp} {d : D} {vs : List V} (r : Reps K W [d] vs) : ∃ v, vs = [v] ∧ Rep K W d v := by
  obtain ⟨v, q, e1, e2, e3⟩ := r
  have e3' : q = [] := e3
  subst e1 e3'
  exact ⟨v, rfl, e2⟩
theorem reps2 {K : PySem.W.Frag} {W : Hp} {d e : D} {vs : List V} (r : Reps K W [d, e] vs) : ∃ v u, vs = [v, u] ∧ Rep K W d v ∧ Rep K W e u := by
  obtain ⟨v, q, e1, e2, e3⟩ := r
  obtain ⟨u, rfl, e4⟩ := reps1 e3
  exact ⟨v, u, e1, e2, e4⟩
def one (ds : List D) (k : D → Prop) : Prop := match ds with
  | [d] => k d
  | _ => False
def two (ds : List D) (k : D → D → Prop) : Prop := match ds with
  | [d, e] => k d e
  | _ => False
def asI (d : D) (k : Int → Prop) : Prop := match d with
  | .int i => k i
  | _ => False
theorem one_ex {ds : List D} {k : D → Prop} (h : one ds k) : ∃ d, ds = [d] ∧ k d := by
  cases ds with
  | nil => exact h.elim
  | cons d r =>
    cases r with
    | nil => exact ⟨d, rfl, h⟩
    | cons e r => exact h.elim
theorem two_ex {ds : List D} {k : D → D → Prop} (h : two ds k) : ∃ d e, ds = [d, e] ∧ k d e := by
  cases ds with
  | nil => exact h.elim
  | cons d r =>
    cases r with
    | nil => exact h.elim
    | cons e r =>
      cases r with
      | nil => exact ⟨d, e, rfl, h⟩
      | cons f r => exact h.elim
theorem asI_ex {d : D} {k : Int → Prop} (h : asI d k) : ∃ i, d = .int i ∧ k i := by
  cases d with
  | int i => exact ⟨i, rfl, h⟩
  | _ => exact h.elim
/-- len of a list, a tuple, a text -/
def oLen : OC := fun S ds Q => one ds fun d => match d with
  | .str x => x.length ≤ sizeLine ∧ Q (.int (x.length : Nat)) S
  | d => some! (seqA S d) fun xs => Q (.int (xs.length : Nat)) S
theorem cd_len : CallR X (.builtin "len") (lC X.K oLen) := CallR.imp (call_len_seq.or call_len_str) fun vs H Q ⟨W, S, ds, Q0, ok, r, ho, cv⟩ => by
  obtain ⟨d, rfl, ho⟩ := one_ex ho
  obtain ⟨v, rfl, rv⟩ := reps1 r
  have key : some! (seqA S d) (fun xs => Q0 (.int (xs.length : Nat)) S) → (∃ p ys, [v] = [.ref p] ∧ (SqL X.K H p ys ∨ SqT X.K H p ys) ∧ Q (.int ys.length) H) := fun z => by
    obtain ⟨xs, e1, z⟩ := some!_ex z
    obtain ⟨q, ws, rfl, hq, r1⟩ := seqA_rep ok rv e1
    refine ⟨q, ws, rfl, hq, ?_⟩
    rw [r1.length]
    exact cv _ S _ W H z Stp.refl ok rfl
  cases d with
  | str x => exact .inr ⟨x, by rw [show v = .str x from rv], ho.1, cv _ S _ W H ho.2 Stp.refl ok rfl⟩
  | _ => exact .inl (key ho)
/-- int(n) -/
def oInt : OC := fun S ds Q => one ds fun d => match d with
  | .int i => Q (.int i) S
  | .bl k => Q (.int (if k = true then 1 else 0)) S
  | _ => False
theorem cd_int : CallR X (.type "int") (lC X.K oInt) := CallR.imp call_int1 fun vs H Q ⟨W, S, ds, Q0, ok, r, ho, cv⟩ => by
  obtain ⟨d, rfl, ho⟩ := one_ex ho
  obtain ⟨v, rfl, rv⟩ := reps1 r
  cases d with
  | int i => exact .inl ⟨i, by rw [show v = .int i from rv], cv _ S _ W H ho Stp.refl ok rfl⟩
  | bl k =>
    refine .inr ⟨k, by rw [show v = .bl k from rv], cv _ S _ W H ho Stp.refl ok ?_⟩
    cases k <;> rfl
  | _ => exact ho.elim
/-- max, min of two ints -/
def oMax2 : OC := fun S ds Q => two ds fun a b => asI a fun i => asI b fun j => Q (.int (max i j)) S
def oMin2 : OC := fun S ds Q => two ds fun a b => asI a fun i => asI b fun j => Q (.int (min i j)) S
theorem cd_max2 (hc : X.calm = true) : CallR X (.builtin "max") (lC X.K oMax2) := CallR.imp (call_max2 hc) fun vs H Q ⟨W, S, ds, Q0, ok, r, ho, cv⟩ => by
  obtain ⟨a, b, rfl, ho⟩ := two_ex ho
  obtain ⟨i, rfl, ho⟩ := asI_ex ho
  obtain ⟨j, rfl, ho⟩ := asI_ex ho
  obtain ⟨v, u, rfl, rv, ru⟩ := reps2 r
  have e : (if j > i then j else i) = max i j := by
    by_cases h : j > i
    · rw [if_pos h]; omega
    · rw [if_neg h]; omega
  exact ⟨i, j, by rw [show v = .int i from rv, show u = .int j from ru], by rw [e]; exact cv _ S _ W H ho Stp.refl ok rfl⟩
theorem cd_min2 (hc : X.calm = true) : CallR X (.builtin "min") (lC X.K oMin2) := CallR.imp (call_min2 hc) fun vs H Q ⟨W, S, ds, Q0, ok, r, ho, cv⟩ => by
  obtain ⟨a, b, rfl, ho⟩ := two_ex ho
  obtain ⟨i, rfl, ho⟩ := asI_ex ho
  obtain ⟨j, rfl, ho⟩ := asI_ex ho
  obtain ⟨v, u, rfl, rv, ru⟩ := reps2 r
  have e : (if j < i then j else i) = min i j := by
    by_cases h : j < i
    · rw [if_pos h]; omega
    · rw [if_neg h]; omega
  exact ⟨i, j, by rw [show v = .int i from rv, show u = .int j from ru], by rw [e]; exact cv _ S _ W H ho Stp.refl ok rfl⟩
/-- list(xs), tuple(xs) -/
def oList : OC := fun S ds Q => one ds fun d => some! (seqA S d) fun xs => Q (.lst xs) S
def oListM : OC := fun S ds Q => one ds fun d => some! (seqA S d) fun xs => ∀ p, S p = none → Q (.ref p) (put S p (.lst xs))
def oTuple : OC := fun S ds Q => one ds fun d => some! (seqA S d) fun xs => Q (.tup xs) S
theorem cd_list : CallR X (.type "list") (lC X.K oList) := CallR.imp call_list_of fun vs H Q ⟨W, S, ds, Q0, ok, r, ho, cv⟩ => by
  obtain ⟨d, rfl, ho⟩ := one_ex ho
  obtain ⟨v, rfl, rv⟩ := reps1 r
  obtain ⟨xs, e1, z⟩ := some!_ex ho
  obtain ⟨q, ws, rfl, hq, r1⟩ := seqA_rep ok rv e1
  refine ⟨q, ws, rfl, hq, fun l hl => ?_⟩
  have n := ok.fresh hl
  exact cv _ S _ _ _ z (ok.stW hl) (ok.newW hl) ⟨l, ws, rfl, upd_same, r1.mono (same_new n.1)⟩
theorem cd_listM : CallR X (.type "list") (lC X.K oListM) := CallR.imp call_list_of fun vs H Q ⟨W, S, ds, Q0, ok, r, ho, cv⟩ => by
  obtain ⟨d, rfl, ho⟩ := one_ex ho
  obtain ⟨v, rfl, rv⟩ := reps1 r
  obtain ⟨xs, e1, z⟩ := some!_ex ho
  obtain ⟨q, ws, rfl, hq, r1⟩ := seqA_rep ok rv e1
  refine ⟨q, ws, rfl, hq, fun l hl => ?_⟩
  exact cv _ _ _ _ _ (z l (ok.fresh hl).2) (ok.stS hl) (ok.newS hl ⟨ws, rfl, r1⟩) rfl
theorem cd_tuple : CallR X (.type "tuple") (lC X.K oTuple) := CallR.imp call_tuple_of fun vs H Q ⟨W, S, ds, Q0, ok, r, ho, cv⟩ => by
  obtain ⟨d, rfl, ho⟩ := one_ex ho
  obtain ⟨v, rfl, rv⟩ := reps1 r
  obtain ⟨xs, e1, z⟩ := some!_ex ho
  have onL : seqL S d = some xs → ∃ p ys, [v] = [.ref p] ∧ ((SqL X.K H p ys ∧ ∀ l, H l = none → Q (.ref l) (upd H l (.tup ys))) ∨ (SqT X.K H p ys ∧ Q (.ref p) H)) := fun e2 => by
    obtain ⟨q, ws, rfl, hq, r1⟩ := seqL_rep ok rv e2
    refine ⟨q, ws, rfl, .inl ⟨hq, fun l hl => ?_⟩⟩
    have n := ok.fresh hl
    exact cv _ S _ _ _ z (ok.stW hl) (ok.newW hl) ⟨l, ws, rfl, SqT.of upd_same, r1.mono (same_new n.1)⟩
  cases d with
  | tup ys =>
    cases e1
    obtain ⟨q, ws, rfl, hq, r1⟩ := id rv
    exact ⟨q, ws, rfl, .inr ⟨sqT_mono ok.vis hq, cv _ S _ W H z Stp.refl ok rv⟩⟩
  | _ => exact onL e1
/-- all, any of a list of bools; sum, max, min, sorted of a list of ints -/
def oAll : OC := fun S ds Q => one ds fun d => some! (seqL S d) fun xs => some! (toBls xs) fun bs => Q (.bl (bs.all id)) S
def oAny : OC := fun S ds Q => one ds fun d => some! (seqL S d) fun xs => some! (toBls xs) fun bs => Q (.bl (bs.any id)) S
def oSum : OC := fun S ds Q => one ds fun d => some! (seqL S d) fun xs => some! (toInts xs) fun bs => Q (.int bs.sum) S
def oMaxL : OC := fun S ds Q => one ds fun d => some! (seqL S d) fun xs => some! (toInts xs) fun bs => 0 < bs.length ∧ ∀ m, m ∈ bs → (∀ y, y ∈ bs → y ≤ m) → Q (.int m) S
def oMinL : OC := fun S ds Q => one ds fun d => some! (seqL S d) fun xs => some! (toInts xs) fun bs => 0 < bs.length ∧ ∀ m, m ∈ bs → (∀ y, y ∈ bs → m ≤ y) → Q (.int m) S
def oSorted : OC := fun S ds Q => one ds fun d => some! (seqL S d) fun xs => some! (toInts xs) fun bs => ∀ ms : List Int, ms.Perm bs → ms.Pairwise (· ≤ ·) → Q (.lst (ms.map D.int)) S
theorem reps_ints {K : PySem.W.Frag} {W : Hp} : ∀ {ns : List Int}, Reps K W (ns.map D.int) (ns.map V.int)
  | [] => rfl
  | i :: r => ⟨_, _, rfl, rfl, reps_ints⟩
theorem listI {K : PySem.W.Frag} {W : Hp} {S : Sto} {H : Hp} {d : D} {v : V} {k : List Int → Prop} (ok : Ok K W S H) (r : Rep K W d v) (h : some! (seqL S d) fun xs => some! (toInts xs) k) : ∃ a ns, v = .ref a ∧ SqL K H a (ns.map V.int) ∧ k ns := by
  obtain ⟨xs, e1, h⟩ := some!_ex h
  obtain ⟨ns, e2, h⟩ := some!_ex h
  obtain ⟨q, ws, rfl, hq, r1⟩ := seqL_rep ok r e1
  rw [toInts_rep e2 r1] at hq
  exact ⟨q, ns, rfl, hq, h⟩
theorem listB {K : PySem.W.Frag} {W : Hp} {S : Sto} {H : Hp} {d : D} {v : V} {k : List Bool → Prop} (ok : Ok K W S H) (r : Rep K W d v) (h : some! (seqL S d) fun xs => some! (toBls xs) k) : ∃ a ns, v = .ref a ∧ SqL K H a (ns.map V.bl) ∧ k ns := by
  obtain ⟨xs, e1, h⟩ := some!_ex h
  obtain ⟨ns, e2, h⟩ := some!_ex h
  obtain ⟨q, ws, rfl, hq, r1⟩ := seqL_rep ok r e1
  rw [toBls_rep e2 r1] at hq
  exact ⟨q, ns, rfl, hq, h⟩
theorem cd_all (hc : X.calm = true) : CallR X (.builtin "all") (lC X.K oAll) := CallR.imp (cr_all hc) fun vs H Q ⟨W, S, ds, Q0, ok, r, ho, cv⟩ => by
  obtain ⟨d, rfl, ho⟩ := one_ex ho
  obtain ⟨v, rfl, rv⟩ := reps1 r
  obtain ⟨a, bs, rfl, h1, h2⟩ := listB ok rv ho
  exact ⟨a, bs, rfl, h1, cv _ S _ W H h2 Stp.refl ok rfl⟩
theorem cd_any (hc : X.calm = true) : CallR X (.builtin "any") (lC X.K oAny) := CallR.imp (cr_any hc) fun vs H Q ⟨W, S, ds, Q0, ok, r, ho, cv⟩ => by
  obtain ⟨d, rfl, ho⟩ := one_ex ho
  obtain ⟨v, rfl, rv⟩ := reps1 r
  obtain ⟨a, bs, rfl, h1, h2⟩ := listB ok rv ho
  exact ⟨a, bs, rfl, h1, cv _ S _ W H h2 Stp.refl ok rfl⟩
theorem cd_sum (hc : X.calm = true) : CallR X (.builtin "sum") (lC X.K oSum) := CallR.imp (cr_sum hc) fun vs H Q ⟨W, S, ds, Q0, ok, r, ho, cv⟩ => by
  obtain ⟨d, rfl, ho⟩ := one_ex ho
  obtain ⟨v, rfl, rv⟩ := reps1 r
  obtain ⟨a, bs, rfl, h1, h2⟩ := listI ok rv ho
  exact ⟨a, bs, rfl, h1, cv _ S _ W H h2 Stp.refl ok rfl⟩
theorem cd_maxL (hc : X.calm = true) : CallR X (.builtin "max") (lC X.K oMaxL) := CallR.imp (cr_max hc) fun vs H Q ⟨W, S, ds, Q0, ok, r, ho, cv⟩ => by
  obtain ⟨d, rfl, ho⟩ := one_ex ho
  obtain ⟨v, rfl, rv⟩ := reps1 r
  obtain ⟨a, bs, rfl, h1, h2, h3⟩ := listI ok rv ho
  exact ⟨a, bs, rfl, h1, h2, fun m q1 q2 => cv _ S _ W H (h3 m q1 q2) Stp.refl ok rfl⟩
theorem cd_minL (hc : X.calm = true) : CallR X (.builtin "min") (lC X.K oMinL) := CallR.imp (cr_min hc) fun vs H Q ⟨W, S, ds, Q0, ok, r, ho, cv⟩ => by
  obtain ⟨d, rfl, ho⟩ := one_ex ho
  obtain ⟨v, rfl, rv⟩ := reps1 r
  obtain ⟨a, bs, rfl, h1, h2, h3⟩ := listI ok rv ho
  exact ⟨a, bs, rfl, h1, h2, fun m q1 q2 => cv _ S _ W H (h3 m q1 q2) Stp.refl ok rfl⟩
theorem cd_sorted : CallR X (.builtin "sorted") (lC X.K oSorted) := CallR.imp cr_sortedI fun vs H Q ⟨W, S, ds, Q0, ok, r, ho, cv⟩ => by
  obtain ⟨d, rfl, ho⟩ := one_ex ho
  obtain ⟨v, rfl, rv⟩ := reps1 r
  obtain ⟨a, bs, rfl, h1, h2⟩ := listI ok rv ho
  refine ⟨a, bs, rfl, h1, fun ms p q1 q2 hp => ?_⟩
  have n := ok.fresh hp
  exact cv _ S _ _ _ (h2 ms q1 q2) (ok.stW hp) (ok.newW hp) ⟨p, _, rfl, upd_same, reps_ints⟩

/-! ### isinstance of a built-in class -/
/-- the name of a value's type -/
def tyN (S : Sto) (d : D) : Option String := match d with
  | .non => some "NoneType"
  | .bl _ => some "bool"
  | .int _ => some "int"
  | .str _ => some "str"
  | .tup _ => some "tuple"
  | d => (seqL S d).map fun _ => "list"
theorem tyN_rep {K : PySem.W.Frag} {W : Hp} {S : Sto} {H : Hp} {d : D} {v : V} {n : String} (ok : Ok K W S H) (r : Rep K W d v) (h : tyN S d = some n) : TyX K H v (.type n) := by
  have onL : (seqL S d).map (fun _ => "list") = some n → TyX K H v (.type n) := fun z => by
    cases q : seqL S d with
    | none => rw [q] at z; cases z
    | some xs =>
      rw [q] at z
      cases z
      obtain ⟨a, vs, rfl, hq, _⟩ := seqL_rep ok r q
      rcases hq with (hq | ⟨o, hq⟩) | ⟨o, its, m, hk, hc, _⟩
      · exact .base (.lst hq)
      · exact .base (.frz hq)
      · exact .kList hk hc
  cases d with
  | non => cases h; rw [show v = V.non from r]; exact .base .non
  | bl b => cases h; rw [show v = V.bl b from r]; exact .base (.bl b)
  | int b => cases h; rw [show v = V.int b from r]; exact .base (.int b)
  | str b => cases h; rw [show v = V.str b from r]; exact .base (.str b)
  | tup xs =>
    cases h
    obtain ⟨a, vs, rfl, hq, _⟩ := r
    have hq' := sqT_mono ok.vis hq
    rcases hq' with (hq | ⟨o, hq⟩) | ⟨o, its, m, hk, hc, _⟩
    · exact .base (.tup hq)
    · exact .fTuple hq
    · exact .kTuple hk hc
  | _ => exact onL h
/-- isinstance(e, T) -/
def wIsi (T : String) (w : WPe) : WPe := fun env S Q X => w env S (fun d S1 => some! (tyN S1 d) fun n => some! (kitB n T) fun b => Q (.bl b) S1) X
theorem pd_isi {e2 : Expr} (he : PD X e w) (hc : PE X e2 (tC (.ty T))) (hm : X.mg "isinstance" = none) (hg : Gl X "isinstance" := by rfl)
    (hs : starEach [e, e2] X.env = (false, eval e X.env) :: starEach [e2] X.env := by rfl) (hs2 : starEach [e2] X.env = [(false, eval e2 X.env)] := by rfl) (hpl : (backTo pos (starEach [e2] X.env)).any (·.1) = false := by rfl) :
    PD X (.Call (.Name "isinstance" p) [e, e2] [] pos) (wIsi T w) :=
  ⟨fun Wx tk => PE.imp (pe_callB call_isi hg hm (by decide +kernel) (pa_cons (he.run Wx tk) (pa_cons hc pa_nil hs2) hs) (by decide) (by decide) hs hpl) fun σ H Q ⟨W, env, S, Q0, X1, ok, sl, hw, cv, cx⟩ => ⟨W, env, S, _, X1, ok, sl, hw, fun d S1 v W1 H1 h1 s1 ok1 r1 => by
    obtain ⟨n, e1, h1⟩ := some!_ex h1
    obtain ⟨b, e2, h1⟩ := some!_ex h1
    exact ⟨v, .ty T, _, _, b, rfl, .ty T, tyN_rep ok1 r1 e1, kit_ty e2, cv _ S1 _ W1 H1 h1 s1 ok1 rfl⟩, cx⟩⟩
end
end DL
set_option Elab.async false
set_option linter.all false
set_option maxRecDepth 100000
set_option maxHeartbeats 1000000
/-! The data layer, part f: fields, methods of lists, statements, defs. -/
namespace DL
open PySem PySem.Spec PyProof.Rows L2

/-! ### chains -/
section
variable {X : Cx} {a b c : Expr} {pos : Pos} {wa wb wc : WPe} {o o' : O2} {op op' : CmpOp}
theorem chain_go {K : PySem.W.Frag} {Wx : WX} {σ : L2.St} {H : Hp} {Q : VK} (h : lE K Wx (wChain o o' wa wb wc) σ H Q) : tChain (lOp K o) (lOp K o') (lE K Wx wa) (lE K Wx wb) (lE K Wx wc) σ H Q := by
  obtain ⟨W, env, S, Q0, X1, ok, sl, hw, cv, cx⟩ := h
  refine ⟨W, env, S, _, X1, ok, sl, hw, fun x S1 v W1 H1 h1 s1 ok1 r1 => ?_, cx⟩
  refine ⟨W1, env, S1, _, X1, ok1, sl.mono s1.vis, h1, fun y S2 u W2 H2 h2 s2 ok2 r2 => ?_, cx.mono s1⟩
  refine ⟨W2, S2, x, y, _, ok2, r1.mono s2.vis, r2, h2, fun k S3 t W3 H3 h3 s3 ok3 r3 => ?_⟩
  cases k with
  | bl k =>
    refine ⟨k, r3, ?_⟩
    cases k with
    | true =>
      refine iteT ⟨W3, env, S3, _, X1, ok3, sl.mono (s1.trans (s2.trans s3)).vis, (if_pos rfl).mp h3, fun z S4 v4 W4 H4 h4 s4 ok4 r4 => ?_, cx.mono (s1.trans (s2.trans s3))⟩
      exact ⟨W4, S4, y, z, Q0, ok4, r2.mono (s3.trans s4).vis, r4, h4, cv.mono (s1.trans (s2.trans (s3.trans s4)))⟩
    | false => exact iteF (cv _ S3 _ W3 H3 ((if_neg Bool.false_ne_true).mp h3) (s1.trans (s2.trans s3)) ok3 rfl)
  | _ => exact h3.elim
theorem pd_chain (ho : OpR X (compareOp op) (lOp X.K o)) (ho' : OpR X (compareOp op') (lOp X.K o')) (ha : PD X a wa) (hb : PD X b wb) (hc : PD X c wc) (hm : lastMarks [op, op'] [b, c] = false := by with_unfolding_all rfl) :
    PD X (.Compare a [op, op'] [b, c] pos) (wChain o o' wa wb wc) := ⟨fun Wx tk => PE.imp (pe_chain ho ho' (ha.run Wx tk) (hb.run Wx tk) (hc.run Wx tk) hm) fun _ _ _ h => chain_go h⟩
theorem pdt_chain (ho : OpR X (compareOp op) (lOp X.K o)) (ho' : OpR X (compareOp op') (lOp X.K o')) (ha : PD X a wa) (hb : PD X b wb) (hc : PD X c wc) (hm : lastMarks [op, op'] [b, c] = false := by with_unfolding_all rfl) :
    PDt X (.Compare a [op, op'] [b, c] pos) (wTest (wChain o o' wa wb wc)) := ⟨fun Wx tk => PT.imp (pt_chain ho ho' (ha.run Wx tk) (hb.run Wx tk) (hc.run Wx tk) hm) fun σ H Q ⟨W, env, S, Q0, X1, ok, sl, hw, cv, cx⟩ => chain_go ⟨W, env, S, _, X1, ok, sl, hw, fun d S1 v W1 H1 h1 s1 ok1 r1 => by
    cases d with
    | bl k =>
      have e : v = .bl k := r1
      exact ⟨k, e, cv k S1 W1 H1 h1 s1 ok1⟩
    | _ => exact h1.elim, cx⟩⟩
end

/-! ### fields -/
/-- field i of an instance of C with the fields N -/
def fldD (C : Addr) (N : List Str) (i : Nat) (S : Sto) (d : D) (k : D → Prop) : Prop := match d with
  | .ref a => match S a with
    | some (.ins C' N' xs) => (C' = C ∧ N' = N) ∧ some! (getV xs i) k
    | _ => False
  | .obj C' N' xs => (C' = C ∧ N' = N) ∧ some! xs[i]? k
  | _ => False
theorem fldD_rep {K : PySem.W.Frag} {W : Hp} {S : Sto} {H : Hp} {C : Addr} {N : List Str} {i : Nat} {f : Str} {d : D} {v : V} {k : D → Prop} (ok : Ok K W S H) (r : Rep K W d v) (hi : N[i]? = some f) (h : fldD C N i S d k) :
    ∃ a dx gs x u, v = .ref a ∧ H a = some (.ins C dx gs) ∧ gs.lookup f = some u ∧ Rep K W x u ∧ k x := by
  cases d with
  | ref a =>
    have h' : (match S a with | some (.ins C' N' xs) => (C' = C ∧ N' = N) ∧ some! (getV xs i) k | _ => False) := h
    cases q : S a with
    | none => rw [q] at h'; exact h'.elim
    | some mo =>
      rw [q] at h'
      cases mo with
      | ins C' N' xs =>
        obtain ⟨⟨rfl, rfl⟩, h'⟩ := h'
        obtain ⟨x, e, h'⟩ := some!_ex h'
        obtain ⟨o, e3, dx, gs, rfl, fr⟩ := ok.sto _ _ q
        obtain ⟨u, e5, ru⟩ := fr.is i f x hi e
        exact ⟨a, dx, gs, x, u, r, e3, e5, ru, h'⟩
      | _ => exact h'.elim
  | obj C' N' xs =>
    obtain ⟨⟨rfl, rfl⟩, h'⟩ := h
    obtain ⟨x, e, h'⟩ := some!_ex h'
    obtain ⟨a, dx, gs, vs, rfl, e2, e3, _, rr⟩ := r
    obtain ⟨u, e5, ru⟩ := rr.get e
    exact ⟨a, dx, gs, x, u, rfl, ok.vis _ _ e2, (e3 i f hi).trans e5, ru, h'⟩
  | _ => exact h.elim
def wFld (C : Addr) (N : List Str) (i : Nat) (w : WPe) : WPe := fun env S Q X => w env S (fun o S1 => fldD C N i S1 o fun d => Q d S1) X
/-- o.f = e -/
def setD (C : Addr) (N : List Str) (i : Nat) (S : Sto) (o : D) (d : D) (k : Sto → Prop) : Prop := match o with
  | .ref a => match S a with
    | some (.ins C' N' xs) => (C' = C ∧ N' = N) ∧ k (put S a (.ins C N (setV xs i d)))
    | _ => False
  | _ => False
theorem setD_rep {K : PySem.W.Frag} {W : Hp} {S : Sto} {H : Hp} {C : Addr} {N : List Str} {i : Nat} {f : Str} {o d : D} {v u : V} {k : Sto → Prop} (ok : Ok K W S H) (r : Rep K W o v) (rd : Rep K W d u) (hi : N[i]? = some f) (h : setD C N i S o d k) :
    ∃ a dx gs S', v = .ref a ∧ H a = some (.ins C dx gs) ∧ gs.length < 1000 ∧ Stp W S H W S' (upd H a (.ins C dx (putF f u gs))) ∧ Ok K W S' (upd H a (.ins C dx (putF f u gs))) ∧ k S' := by
  cases o with
  | ref a =>
    have h' : (match S a with | some (.ins C' N' xs) => (C' = C ∧ N' = N) ∧ k (put S a (.ins C N (setV xs i d))) | _ => False) := h
    cases q : S a with
    | none => rw [q] at h'; exact h'.elim
    | some mo =>
      rw [q] at h'
      cases mo with
      | ins C' N' xs =>
        obtain ⟨⟨rfl, rfl⟩, h'⟩ := h'
        obtain ⟨o, e3, dx, gs, rfl, fr⟩ := ok.sto _ _ q
        exact ⟨a, dx, gs, _, r, e3, fr.lt, ok.stC (m := .ins C' N' (setV xs i d)) q, ok.chg (m := .ins C' N' (setV xs i d)) q ⟨dx, _, rfl, fr.put hi rd⟩, h'⟩
      | _ => exact h'.elim
  | _ => exact h.elim

/-! ### statements -/
def wSeq (w u : WPs) : WPs := fun env S q => w env S { q with nx := fun e s => u e s q }
def wNext : WPs := fun env S q => q.nx env S
def xcQ (q : QS) (env : DE) : XQ := fun C fs S => q.xc C fs env S
def wSet (i : Nat) (w : WPe) : WPs := fun env S q => w env S (fun d S1 => q.nx (setV env i d) S1) (xcQ q env)
def wDrop (w : WPe) : WPs := fun env S q => w env S (fun _ S1 => q.nx env S1) (xcQ q env)
def wRet (w : WPe) : WPs := fun env S q => w env S q.rt (xcQ q env)
def wRetN : WPs := fun _ S q => q.rt .non S
def wIf (t : WPt) (u v : WPs) : WPs := fun env S q => t env S (fun k S1 => if k = true then u env S1 q else v env S1 q) (xcQ q env)
def wBreak : WPs := fun env S q => q.bk env S
def wCont : WPs := fun env S q => q.ct env S
def wAug (i : Nat) (o : O2) (w : WPe) : WPs := fun env S q => some! (getV env i) fun x => w env S (fun y S1 => o S1 x y fun z S2 => q.nx (setV env i z) S2) (xcQ q env)
def wSetF (C : Addr) (N : List Str) (i : Nat) (wo we : WPe) : WPs := fun env S q => we env S (fun d S1 => wo env S1 (fun o S2 => setD C N i S2 o d fun S3 => q.nx env S3) (xcQ q env)) (xcQ q env)
def wAugF (C : Addr) (N : List Str) (i : Nat) (op : O2) (wo we : WPe) : WPs := fun env S q => wo env S (fun o S1 => fldD C N i S1 o fun x => we env S1 (fun y S2 => op S2 x y fun z S3 => setD C N i S3 o z fun S4 => q.nx env S4) (xcQ q env)) (xcQ q env)
/-- o[i] = e for a list -/
def setIx (S : Sto) (o i d : D) (k : Sto → Prop) : Prop := match o, i with
  | .ref a, .int j => match S a with
    | some (.lst xs) => some! (ixN xs.length j) fun n => k (put S a (.lst (xs.set n d)))
    | _ => False
  | _, _ => False
def wSetI (wo wi we : WPe) : WPs := fun env S q => we env S (fun d S1 => wo env S1 (fun o S2 => wi env S2 (fun i S3 => setIx S3 o i d fun S4 => q.nx env S4) (xcQ q env)) (xcQ q env)) (xcQ q env)
section
variable {X : Cx} {e o i' : Expr} {st : Stmt} {rest : List Stmt} {pos pos' tpos : Pos} {w we wo wi : WPe} {ws u v : WPs} {t : WPt} {i : Nat} {x f : Str} {C : Addr} {N : List Str}
theorem CXc.of {K : PySem.W.Frag} {W : Hp} {S : Sto} {H : Hp} {Wx : WX} {q : QS} {D : Ends} {env : DE} {σ : L2.St} (h : CS K Wx W S H q D) (sl : Sl K W env σ) : CXc K W S H (xcQ q env) (fun c d H' => Wx c d σ H') :=
  fun C fs S' dd gs W' H' q1 s1 ok1 e1 r1 => h.xc C fs env S' dd gs σ W' H' q1 s1 ok1 (sl.mono s1.vis) e1 r1
theorem pss_nilD : PDss X [] wNext := ⟨fun Wx tk => PSs.imp pss_nil fun D σ H ⟨W, env, S, q, ok, sl, hl, hw, cs⟩ => cs.nx env S σ W H hw Stp.refl ok sl hl⟩
theorem pss_consD (h1 : PDs X st ws) (h2 : PDss X rest u) : PDss X (st :: rest) (wSeq ws u) :=
  ⟨fun Wx tk => PSs.imp (pss_cons (h1.run Wx tk) (h2.run Wx tk)) fun D σ H ⟨W, env, S, q, ok, sl, hl, hw, cs⟩ =>
    ⟨W, env, S, _, ok, sl, hl, hw, fun e S1 σ1 W1 H1 h1 s1 ok1 sl1 hl1 => ⟨W1, e, S1, q, ok1, sl1, hl1, h1, cs.mono s1⟩, cs.rt, cs.bk, cs.ct, cs.xc⟩⟩
theorem pss_oneD (h1 : PDs X st ws) : PDss X [st] ws := ⟨fun Wx tk => pss_one (h1.run Wx tk)⟩
theorem pds_set (hN : X.N.Nodup) (hi : X.N[i]? = some x) (hx : Loc X.env.scope x) (he : PD X e w) (hs : swapsWith e (some (.Name x pos')) pos.line X.env = pure false := by rfl) (hf : X.fn x = true ∨ X.env.scope.names.lookup x = some .local := by first | exact .inl rfl | exact .inr rfl | assumption) :
    PDs X (.Assign [.Name x pos'] e pos) (wSet i w) :=
  ⟨fun Wx tk => PS.imp (ps_set hN hi hx (he.run Wx tk) hs hf) fun D σ H ⟨W, env, S, q, ok, sl, hl, hw, cs⟩ => ⟨W, env, S, _, _, ok, sl, hw, fun d S1 v W1 H1 h1 s1 ok1 r1 =>
    cs.nx _ S1 _ W1 H1 h1 s1 ok1 ((sl.mono s1.vis).set (by rw [hl]; exact lt_of_some hi) r1) (by rw [List.length_set]; exact hl), CXc.of cs sl⟩⟩
theorem pds_drop (he : PD X e w) (hs : swapsWith e none pos.line X.env = pure false := by rfl) : PDs X (.Expr e pos) (wDrop w) :=
  ⟨fun Wx tk => PS.imp (ps_expr (he.run Wx tk) hs) fun D σ H ⟨W, env, S, q, ok, sl, hl, hw, cs⟩ => ⟨W, env, S, _, _, ok, sl, hw, fun d S1 v W1 H1 h1 s1 ok1 r1 => cs.nx _ S1 _ W1 H1 h1 s1 ok1 (sl.mono s1.vis) hl, CXc.of cs sl⟩⟩
theorem pds_ret (he : PD X e w) : PDs X (.Return (some e) pos) (wRet w) :=
  ⟨fun Wx tk => PS.imp (ps_ret (he.run Wx tk)) fun D σ H ⟨W, env, S, q, ok, sl, hl, hw, cs⟩ => ⟨W, env, S, _, _, ok, sl, hw, fun d S1 v W1 H1 h1 s1 ok1 r1 => cs.rt d S1 v W1 H1 h1 s1 ok1 r1, CXc.of cs sl⟩⟩
theorem pds_retN : PDs X (.Return none pos) wRetN := ⟨fun Wx tk => PS.imp ps_retN fun D σ H ⟨W, env, S, q, ok, sl, hl, hw, cs⟩ => cs.rt .non S .non W H hw Stp.refl ok rfl⟩
theorem pds_pass : PDs X (.Pass pos) wNext := ⟨fun Wx tk => PS.imp ps_pass fun D σ H ⟨W, env, S, q, ok, sl, hl, hw, cs⟩ => cs.nx env S σ W H hw Stp.refl ok sl hl⟩
theorem pds_doc {y : Str} {j : Nat} : PDs X (.Expr (.Constant (.str y) j pos) pos') wNext := ⟨fun Wx tk => PS.imp ps_doc fun D σ H ⟨W, env, S, q, ok, sl, hl, hw, cs⟩ => cs.nx env S σ W H hw Stp.refl ok sl hl⟩
theorem pds_break : PDs X (.Break pos) wBreak := ⟨fun Wx tk => PS.imp ps_break fun D σ H ⟨W, env, S, q, ok, sl, hl, hw, cs⟩ => cs.bk env S σ W H hw Stp.refl ok sl hl⟩
theorem pds_cont : PDs X (.Continue pos) wCont := ⟨fun Wx tk => PS.imp ps_continue fun D σ H ⟨W, env, S, q, ok, sl, hl, hw, cs⟩ => cs.ct env S σ W H hw Stp.refl ok sl hl⟩
theorem pds_if {a b : List Stmt} (hc : PDt X e t) (ha : PDss X a u) (hb : PDss X b v) : PDs X (.If e a b pos) (wIf t u v) :=
  ⟨fun Wx tk => PS.imp (ps_if (hc.run Wx tk) (ha.run Wx tk) (hb.run Wx tk)) fun D σ H ⟨W, env, S, q, ok, sl, hl, hw, cs⟩ => ⟨W, env, S, _, _, ok, sl, hw, fun k S1 W1 H1 h1 s1 ok1 => by
    cases k with
    | true => exact iteT ⟨W1, env, S1, q, ok1, sl.mono s1.vis, hl, (if_pos rfl).mp h1, cs.mono s1⟩
    | false => exact iteF ⟨W1, env, S1, q, ok1, sl.mono s1.vis, hl, (if_neg Bool.false_ne_true).mp h1, cs.mono s1⟩, CXc.of cs sl⟩⟩
theorem pds_aug {op : Operator} {ob : O2} (hN : X.N.Nodup) (hi : X.N[i]? = some x) (hx : Loc X.env.scope x) (he : PD X e w) (ho : OpR X (inplaceOp op) (lOp X.K ob)) (hf : X.fn x = true ∨ X.env.scope.names.lookup x = some .local := by first | exact .inl rfl | exact .inr rfl | assumption) :
    PDs X (.AugAssign (.Name x pos') op e pos) (wAug i ob w) :=
  ⟨fun Wx tk => PS.imp (ps_aug hN hi hx (he.run Wx tk) ho hf) fun D σ H ⟨W, env, S, q, ok, sl, hl, hw, cs⟩ => by
    obtain ⟨d, e1, hw⟩ := some!_ex hw
    obtain ⟨v, e2, rv⟩ := sl i d e1
    refine ⟨v, e2, W, env, S, _, _, ok, sl, hw, fun y S1 u W1 H1 h1 s1 ok1 r1 => ?_, CXc.of cs sl⟩
    refine ⟨W1, S1, d, y, _, ok1, rv.mono s1.vis, r1, h1, fun z S2 t W2 H2 h2 s2 ok2 r2 => ?_⟩
    exact cs.nx _ S2 _ W2 H2 h2 (s1.trans s2) ok2 ((sl.mono (s1.trans s2).vis).set (by rw [hl]; exact lt_of_some hi) r2) (by rw [List.length_set]; exact hl)⟩
theorem pd_fld (c : Cls X.K C) (n : NoAttr X.K C f) (hi : N[i]? = some f) (he : PD X e w) (hb : attributeBase e f X.env (eval e X.env) = eval e X.env := by rfl) : PD X (.Attribute e f pos) (wFld C N i w) :=
  ⟨fun Wx tk => PE.imp (pe_fld (he.run Wx tk) hb) fun σ H Q ⟨W, env, S, Q0, X1, ok, sl, hw, cv, cx⟩ => ⟨W, env, S, _, X1, ok, sl, hw, fun d S1 v W1 H1 h1 s1 ok1 r1 => by
    obtain ⟨a, dx, gs, y, u, rfl, e1, e2, ru, h2⟩ := fldD_rep ok1 r1 hi h1
    exact ⟨a, C, dx, gs, u, rfl, e1, c, n, e2, cv y S1 u W1 H1 h2 s1 ok1 ru⟩, cx⟩⟩
theorem pds_setF (c : Cls X.K C) (n : NoAttr X.K C f) (hi : N[i]? = some f) (ho : PD X o wo) (he : PD X e we) (hs : swapsWith e (some (.Attribute o f pos')) pos.line X.env = pure false := by rfl) : PDs X (.Assign [.Attribute o f pos'] e pos) (wSetF C N i wo we) :=
  ⟨fun Wx tk => PS.imp (ps_fld (ho.run Wx tk) (he.run Wx tk) hs) fun D σ H ⟨W, env, S, q, ok, sl, hl, hw, cs⟩ => ⟨W, env, S, _, _, ok, sl, hw, fun d S1 v W1 H1 h1 s1 ok1 r1 =>
    ⟨W1, env, S1, _, _, ok1, sl.mono s1.vis, h1, fun y S2 u W2 H2 h2 s2 ok2 r2 => by
      obtain ⟨a, dx, gs, S3, rfl, e1, e2, st3, ok3, h3⟩ := setD_rep ok2 r2 (r1.mono s2.vis) hi h2
      exact ⟨a, C, dx, gs, rfl, e1, c, n, e2, cs.nx _ S3 _ W2 _ h3 (s1.trans (s2.trans st3)) ok3 (sl.mono (s1.trans s2).vis) hl⟩, CXc.of (cs.mono s1) (sl.mono s1.vis)⟩, CXc.of cs sl⟩⟩
theorem inop_of {op : Operator} {rd : V → V → Hp → VK → Prop} (h : OpR X (inplaceOp op) rd) : InOp X op rd := fun pins s σ H x y u v Q I rx ry q => h pins s σ H x y u v Q I rx ry q
theorem pds_augF {op : Operator} {ob : O2} (c : Cls X.K C) (n : NoAttr X.K C f) (hi : N[i]? = some f) (ho : PD X o wo) (he : PD X e we) (hop : OpR X (inplaceOp op) (lOp X.K ob)) : PDs X (.AugAssign (.Attribute o f tpos) op e pos) (wAugF C N i ob wo we) :=
  ⟨fun Wx tk => PS.imp (ps_fldaug (ho.run Wx tk) (he.run Wx tk) (inop_of hop)) fun D σ H ⟨W, env, S, q, ok, sl, hl, hw, cs⟩ => ⟨W, env, S, _, _, ok, sl, hw, fun d S1 v W1 H1 h1 s1 ok1 r1 => by
    obtain ⟨a, dx, gs, y, u, rfl, e1, e2, ru, h2⟩ := fldD_rep ok1 r1 hi h1
    refine ⟨a, C, dx, gs, u, rfl, e1, c, n, e2, W1, env, S1, _, _, ok1, sl.mono s1.vis, h2, fun z S2 t W2 H2 h3 s2 ok2 r2 => ?_, CXc.of (cs.mono s1) (sl.mono s1.vis)⟩
    refine ⟨W2, S2, y, z, _, ok2, ru.mono s2.vis, r2, h3, fun z2 S3 t2 W3 H3 h4 s3 ok3 r3 => ?_⟩
    obtain ⟨a2, dx2, gs2, S4, e3, e4, e5, st4, ok4, h5⟩ := setD_rep ok3 (r1.mono (s2.trans s3).vis) r3 hi h4
    cases e3
    exact ⟨dx2, gs2, e4, e5, cs.nx _ S4 _ W3 _ h5 (s1.trans (s2.trans (s3.trans st4))) ok4 (sl.mono (s1.trans (s2.trans s3)).vis) hl⟩, CXc.of cs sl⟩⟩
theorem setIx_rep {K : PySem.W.Frag} {W : Hp} {S : Sto} {H : Hp} {o i d : D} {v vi u : V} {k : Sto → Prop} (ok : Ok K W S H) (r : Rep K W o v) (ri : Rep K W i vi) (rd : Rep K W d u) (h : setIx S o i d k) :
    ∃ a xs n j S', v = .ref a ∧ vi = .int j ∧ H a = some (.lst xs) ∧ ixN xs.length j = some n ∧ Stp W S H W S' (upd H a (.lst (xs.set n u))) ∧ Ok K W S' (upd H a (.lst (xs.set n u))) ∧ k S' := by
  cases o with
  | ref a =>
    cases i with
    | int j =>
      have h' : (match S a with | some (.lst xs) => some! (ixN xs.length j) fun n => k (put S a (.lst (xs.set n d))) | _ => False) := h
      cases q : S a with
      | none => rw [q] at h'; exact h'.elim
      | some mo =>
        rw [q] at h'
        cases mo with
        | lst xs =>
          obtain ⟨n, e1, h'⟩ := some!_ex h'
          obtain ⟨o, e3, vs, rfl, rv⟩ := ok.sto _ _ q
          exact ⟨a, vs, n, j, _, r, ri, e3, by rw [rv.length]; exact e1, ok.stC (m := .lst (xs.set n d)) q, ok.chg (m := .lst (xs.set n d)) q ⟨_, rfl, rv.set rd n⟩, h'⟩
        | _ => exact h'.elim
    | _ => exact h.elim
  | _ => exact h.elim
theorem pds_setI {ip : Expr} {p2 : Pos} (ho : PD X o wo) (hi : PD X ip wi) (he : PD X e we) (hs : swapsWithSole [.Subscript o ip p2] e pos.line X.env = pure false := by rfl) (hw : swappedStores [.Subscript o ip p2] e X.env = pure none := by rfl)
    (h1 : (assignEach [.Subscript o ip p2] X.env).map (·.2) = [assign (.Subscript o ip p2) X.env] := by rfl)
    (ha : ∀ v, assign (.Subscript o ip p2) X.env v = (do
      let ov ← holding [v] (eval o X.env)
      let iv ← holding [v, ov] (eval ip X.env)
      standAt p2
      holding [v, ov, iv] (setItem ov iv v)
      release [v, ov, iv] []) := by intro _; rfl) : PDs X (.Assign [.Subscript o ip p2] e pos) (wSetI wo wi we) :=
  ⟨fun Wx tk => PS.imp (ps_asg (he.run Wx tk) (pg_sub (ho.run Wx tk) (hi.run Wx tk) set_list ha) hs hw h1) fun D σ H ⟨W, env, S, q, ok, sl, hl, hw, cs⟩ => ⟨W, env, S, _, _, ok, sl, hw, fun d S1 v W1 H1 h1 s1 ok1 r1 =>
    ⟨W1, env, S1, _, _, ok1, sl.mono s1.vis, h1, fun o1 S2 u W2 H2 h2 s2 ok2 r2 => ⟨W2, env, S2, _, _, ok2, sl.mono (s1.trans s2).vis, h2, fun i1 S3 t W3 H3 h3 s3 ok3 r3 => by
      obtain ⟨a, xs, n, j, S4, rfl, rfl, e1, e2, st4, ok4, h4⟩ := setIx_rep ok3 (r2.mono s3.vis) r3 (r1.mono (s2.trans s3).vis) h3
      exact ⟨a, xs, j, n, rfl, rfl, e1, e2, cs.nx _ S4 _ W3 _ h4 (s1.trans (s2.trans (s3.trans st4))) ok4 (sl.mono (s1.trans (s2.trans s3)).vis) hl⟩, CXc.of (cs.mono (s1.trans s2)) (sl.mono (s1.trans s2).vis)⟩, CXc.of (cs.mono s1) (sl.mono s1.vis)⟩, CXc.of cs sl⟩⟩
end

/-! ### methods of a mutable list -/
def mutL (S : Sto) (d : D) (k : Addr → List D → Prop) : Prop := match d with
  | .ref a => match S a with
    | some (.lst xs) => k a xs
    | _ => False
  | _ => False
theorem mutL_rep {K : PySem.W.Frag} {W : Hp} {S : Sto} {H : Hp} {d : D} {v : V} {k : Addr → List D → Prop} (ok : Ok K W S H) (r : Rep K W d v) (h : mutL S d k) : ∃ a xs vs, d = .ref a ∧ v = .ref a ∧ S a = some (.lst xs) ∧ H a = some (.lst vs) ∧ Reps K W xs vs ∧ k a xs := by
  cases d with
  | ref a =>
    have h' : (match S a with | some (.lst xs) => k a xs | _ => False) := h
    cases q : S a with
    | none => rw [q] at h'; exact h'.elim
    | some mo =>
      rw [q] at h'
      cases mo with
      | lst xs =>
        obtain ⟨o, e3, vs, rfl, rv⟩ := ok.sto _ _ q
        exact ⟨a, xs, vs, rfl, r, q, e3, rv, h'⟩
      | _ => exact h'.elim
  | _ => exact h.elim
def lM (K : PySem.W.Frag) (o : OM) : V → List V → Hp → VK → Prop := fun x xs H Q => ∃ W S d ds Q0, Ok K W S H ∧ Rep K W d x ∧ Reps K W ds xs ∧ o S d ds Q0 ∧ CV K W S H Q0 Q
def wMt (o : OM) (wo : WPe) (wa : WPa) : WPe := fun env S Q X => wo env S (fun x S1 => mutL S1 x fun _ _ => wa env S1 (fun ds S2 => o S2 x ds Q) X) X
theorem MtR.imp {X : Cx} {id : String} {r r' : V → List V → Hp → VK → Prop} (h : MtR X id r) (i : ∀ x xs H Q, r' x xs H Q → r x xs H Q) : MtR X id r' := fun pins s σ H x xs v us Q I rx rs q => h pins s σ H x xs v us Q I rx rs (i _ _ _ _ q)
section
variable {X : Cx} {o e : Expr} {es : List Expr} {name : Str} {apos cpos : Pos} {mid : String} {om : OM} {wo : WPe} {wa : WPa}
theorem pd_lm (slot : Slot "list" name mid) (hty : typeOf (.builtin mid) = pure (.type "method_descriptor")) (hm : MtR X mid (lM X.K om)) (ho : PD X o wo) (ha : PDa X (e :: es) wa)
    (hbase : attributeBase o name X.env (eval o X.env) = eval o X.env := by rfl)
    (hfew : ((backTo cpos (starEach (e :: es) X.env)).all (fun x => !x.1) && (backToKw cpos (keywordEach [] X.env)).all (fun x => x.1.isSome)
      && decide ((e :: es).length + ([] : List Keyword).length + (if ([] : List Keyword).isEmpty then 0 else 1) < 30)) = true := by rfl)
    (hline : (apos.endLine == cpos.line) = true := by rfl) (hs : starEach (e :: es) X.env = (false, eval e X.env) :: starEach es X.env := by rfl) (hplain : (backTo cpos (starEach es X.env)).any (·.1) = false := by rfl) :
    PD X (.Call (.Attribute o name apos) (e :: es) [] cpos) (wMt om wo wa) :=
  ⟨fun Wx tk => PE.imp (pe_bm PySem.F.plainAttrs_list slot hty hm (ho.run Wx tk) (ha.run Wx tk) hbase hfew hline hs hplain) fun σ H Q ⟨W, env, S, Q0, X1, ok, sl, hw, cv, cx⟩ => ⟨W, env, S, _, X1, ok, sl, hw, fun d S1 v W1 H1 h1 s1 ok1 r1 => by
    obtain ⟨a, xs, vs, rfl, rfl, e1, e2, rv, h2⟩ := mutL_rep ok1 r1 h1
    exact ⟨.inl ⟨rfl, vs, SqL.of e2⟩, W1, env, S1, _, X1, ok1, sl.mono s1.vis, h2, fun ds S2 us W2 H2 h3 s2 ok2 r2 => ⟨W2, S2, _, ds, Q0, ok2, r1.mono s2.vis, r2, h3, cv.mono (s1.trans s2)⟩, cx.mono s1⟩, cx⟩⟩
theorem pd_lm0 (slot : Slot "list" name mid) (hty : typeOf (.builtin mid) = pure (.type "method_descriptor")) (hm : MtR X mid (lM X.K om)) (ho : PD X o wo)
    (hbase : attributeBase o name X.env (eval o X.env) = eval o X.env := by rfl) (hline : (apos.endLine == cpos.line) = true := by rfl) :
    PD X (.Call (.Attribute o name apos) [] [] cpos) (wMt om wo wNil) :=
  ⟨fun Wx tk => PE.imp (pe_bm0 PySem.F.plainAttrs_list slot hty hm (ho.run Wx tk) hbase hline) fun σ H Q ⟨W, env, S, Q0, X1, ok, sl, hw, cv, cx⟩ => ⟨W, env, S, _, X1, ok, sl, hw, fun d S1 v W1 H1 h1 s1 ok1 r1 => by
    obtain ⟨a, xs, vs, rfl, rfl, e1, e2, rv, h2⟩ := mutL_rep ok1 r1 h1
    exact ⟨.inl ⟨rfl, vs, SqL.of e2⟩, W1, S1, _, [], Q0, ok1, r1, rfl, h2, cv.mono s1⟩, cx⟩⟩
def oAppend : OM := fun S d ds Q => mutL S d fun a xs => one ds fun e => xs.length < sizeLine ∧ Q .non (put S a (.lst (xs ++ [e])))
theorem md_append : MtR X "list.append" (lM X.K oAppend) := MtR.imp mt_append fun x vs H Q ⟨W, S, d, ds, Q0, ok, r, rs, ho, cv⟩ => by
  obtain ⟨a, xs, us, rfl, rfl, e1, e2, rv, h⟩ := mutL_rep ok r ho
  obtain ⟨y, rfl, hz, h⟩ := one_ex h
  obtain ⟨t, rfl, rt⟩ := reps1 rs
  exact ⟨a, us, t, rfl, rfl, e2, by rw [rv.length]; exact hz, cv _ _ _ _ _ h (ok.stC e1) (ok.chg e1 ⟨_, rfl, rv.append (Reps.one rt)⟩) rfl⟩
def oExtend : OM := fun S d ds Q => mutL S d fun a xs => one ds fun e => some! (seqM S e) fun ys => xs.length + ys.length ≤ sizeLine ∧ Q .non (put S a (.lst (xs ++ ys)))
theorem md_extend : MtR X "list.extend" (lM X.K oExtend) := MtR.imp mt_extend fun x vs H Q ⟨W, S, d, ds, Q0, ok, r, rs, ho, cv⟩ => by
  obtain ⟨a, xs, us, rfl, rfl, e1, e2, rv, h⟩ := mutL_rep ok r ho
  obtain ⟨y, rfl, h⟩ := one_ex h
  obtain ⟨ys, e3, hz, h⟩ := some!_ex h
  obtain ⟨t, rfl, rt⟩ := reps1 rs
  obtain ⟨b, zs, rfl, e4, rz⟩ := seqM_rep ok rt e3
  exact ⟨a, b, us, zs, rfl, rfl, e2, e4, by rw [rv.length, rz.length]; exact hz, cv _ _ _ _ _ h (ok.stC e1) (ok.chg e1 ⟨_, rfl, rv.append rz⟩) rfl⟩
theorem reps_dropLast {K : PySem.W.Frag} {W : Hp} {xs : List D} {vs : List V} (r : Reps K W xs vs) : Reps K W xs.dropLast vs.dropLast := by
  rw [List.dropLast_eq_take, List.dropLast_eq_take, r.length]
  exact r.take _
def oPop : OM := fun S d ds Q => mutL S d fun a xs => ds = [] ∧ some! xs[xs.length - 1]? fun y => Q y (put S a (.lst xs.dropLast))
theorem md_pop : MtR X "list.pop" (lM X.K oPop) := MtR.imp mt_pop fun x vs H Q ⟨W, S, d, ds, Q0, ok, r, rs, ho, cv⟩ => by
  obtain ⟨a, xs, us, rfl, rfl, e1, e2, rv, rfl, h⟩ := mutL_rep ok r ho
  obtain ⟨y, e3, h⟩ := some!_ex h
  obtain ⟨t, e4, rt⟩ := rv.get e3
  have e5 : vs = [] := rs
  exact ⟨a, us, t, rfl, e5, e2, by rw [rv.length]; exact e4, cv _ _ _ _ _ h (ok.stC e1) (ok.chg e1 ⟨_, rfl, reps_dropLast rv⟩) rt⟩
end

/-! ### defs -/
section
variable {P : Program} {w : World} {K : PySem.W.Frag} {mg : Str → Option Value} {base : Heap}
def startD (N : List Str) (ds : List D) : DE := ds.map some ++ List.replicate (N.length - ds.length) none
theorem getV_map : ∀ {ds : List D} {m : Nat} {i : Nat} {d : D}, getV (ds.map some ++ List.replicate m none) i = some d → ds[i]? = some d
  | [], 0, i, d, h => by cases h
  | [], m + 1, 0, d, h => by cases h
  | [], m + 1, i + 1, d, h => by
    have h' := getV_map (ds := []) (m := m) (i := i) h
    simp at h'
  | x :: r, m, 0, d, h => h
  | x :: r, m, i + 1, d, h => getV_map (ds := r) (m := m) (i := i) h
theorem sl_start {W : Hp} {N : List Str} {ds : List D} {vs : List V} (r : Reps K W ds vs) : Sl K W (startD N ds) (L2.start N vs) := fun i d h => by
  obtain ⟨v, e, rv⟩ := r.get (getV_map h)
  refine ⟨v, ?_, rv⟩
  unfold L2.start
  rw [List.getElem?_append_left (by rw [List.length_map]; exact lt_of_some e), List.getElem?_map, e]
  rfl
/-- THE RULE for a def: its body as a derivation, and its reading over data -/
theorem Fun.okD {x qual : Str} {st : Stmt} {f : Addr} {fd : FuncData} {N ps : List Str} {k : Nat} {spec : Ctr} (F : Fun K x qual st f fd) (S : FnScope N ps (defScope st)) (hle : ps.length ≤ N.length)
    (len : ∀ ds S Q E, spec ds S Q E → ds.length = ps.length)
    (hbody : ∀ (cdv : Value) (A : Around) (outer : List Env) (s : Shared) (H : Hp) (E : XK), Room k (A.deeper (envOfC qual (defScope st) s.heap.objs.size f cdv)) →
      ∃ ws, PDss (cxOf (L2.CX P w) P w K mg base N qual (defScope st) f cdv A outer s H E) (defBody st) ws ∧ ∀ ds S Q X1, spec ds S Q X1 → ws (startD N ds) S { nx := fun _ S' => Q .non S', rt := Q, bk := fun _ _ => False, ct := fun _ _ => False, xc := fun C fs _ S' => X1 C fs S' }) :
    FnD P w K mg base (k + 1) f fd ps spec := by
  refine F.okX S (fun vs H Q E ⟨W, S', ds, Q0, X1, ok, r, h, _⟩ => ?_) (fun cdv A outer s H vs Q E hr ⟨W, S', ds, Q0, X1, ok, r, h, cv, cx⟩ => ?_)
  · rw [r.length]; exact len ds S' Q0 X1 h
  · obtain ⟨ws, hp, hq⟩ := hbody cdv A outer s H E hr
    refine ⟨_, hp.run (fun c d σ H' => E c d H') (takes_of rfl rfl rfl rfl), W, _, S', _, ok, sl_start r, ?_, hq ds S' Q0 X1 h, ?_, ?_, ?_, ?_, ?_⟩
    · have e := r.length
      have e2 := len ds S' Q0 X1 h
      show (L2.start N vs).length = N.length
      unfold L2.start
      rw [List.length_append, List.length_map, List.length_replicate]
      omega
    · exact fun _ S1 σ1 W1 H1 h1 s1 ok1 _ _ => cv .non S1 .non W1 H1 h1 s1 ok1 rfl
    · exact fun d S1 v W1 H1 h1 s1 ok1 r1 => cv d S1 v W1 H1 h1 s1 ok1 r1
    · exact fun _ _ _ _ _ h1 _ _ _ => h1.elim
    · exact fun _ _ _ _ _ h1 _ _ _ => h1.elim
    · exact fun C fs _ S1 dd gs _ W1 H1 h1 s1 ok1 _ e1 r1 => cx C fs S1 dd gs W1 H1 h1 s1 ok1 e1 r1
end
end DL
set_option Elab.async false
set_option linter.all false
set_option maxRecDepth 100000
set_option maxHeartbeats 1000000
/-! The data layer, part g: targets, loops, comprehensions. -/
namespace DL
open PySem PySem.Spec PyProof.Rows L2

/-! ### targets: names and tuples of names -/
abbrev WPg := D → DE → (DE → Prop) → Prop
def gN (i : Nat) : WPg := fun d env k => k (setV env i d)
def gAll : List WPg → List D → DE → (DE → Prop) → Prop
  | [], [], env, k => k env
  | g :: gs, d :: ds, env, k => g d env fun e => gAll gs ds e k
  | _, _, _, _ => False
def gT (gs : List WPg) : WPg := fun d env k => match d with
  | .tup xs => xs.length = gs.length ∧ gAll gs xs env k
  | _ => False
def lG (K : PySem.W.Frag) (n : Nat) (vs : List Nat) (t : WPg) : TG := fun v σ H Q => ∃ W S env d k, Ok K W S H ∧ Sl K W env σ ∧ σ.length = n ∧ Rep K W d v ∧ t d env k ∧
  ∀ e σ', k e → Sl K W e σ' → σ'.length = n → wipe σ' vs = wipe σ vs → Q σ' H
def lGs (K : PySem.W.Frag) (n : Nat) (vs : List Nat) (ts : List WPg) : TGs := fun v σ H Q => ∃ W S env d k, Ok K W S H ∧ Sl K W env σ ∧ σ.length = n ∧ Reps K W d v ∧ gAll ts d env k ∧
  ∀ e σ', k e → Sl K W e σ' → σ'.length = n → wipe σ' vs = wipe σ vs → Q σ' H
structure PDg (X : Cx) (tg : Expr) (vs : List Nat) (t : WPg) : Prop where
  run : PG X tg (lG X.K X.N.length vs t)
structure PDgs (X : Cx) (tg : List Expr) (vs : List Nat) (t : List WPg) : Prop where
  run : PGs X tg (lGs X.K X.N.length vs t)
theorem wipe_set : ∀ {vs : List Nat} {σ : L2.St} {i : Nat} {o : Option V}, i ∈ vs → wipe (σ.set i o) vs = wipe σ vs
  | [], _, _, _, h => by cases h
  | v :: vs, σ, i, o, h => by
    show (wipe (σ.set i o) vs).set v none = (wipe σ vs).set v none
    by_cases hi : i ∈ vs
    · rw [wipe_set hi]
    · have e : i = v := by
        cases h with
        | head => rfl
        | tail _ h => exact absurd h hi
      subst e
      have key : ∀ {us : List Nat} {τ : L2.St}, i ∉ us → wipe (τ.set i o) us = (wipe τ us).set i o := fun {us τ} => by
        induction us with
        | nil => intro _; rfl
        | cons u us ih =>
          intro hu
          have h1 : i ≠ u := fun z => hu (by rw [z]; exact List.mem_cons_self)
          show (wipe (τ.set i o) us).set u none = ((wipe τ us).set u none).set i o
          rw [ih (fun z => hu (List.mem_cons_of_mem _ z)), List.set_comm _ _ h1]
      rw [key hi, List.set_set]
theorem PG.imp {X : Cx} {tg : Expr} {g g' : TG} (h : PG X tg g) (i : ∀ v σ H Q, g' v σ H Q → g v σ H Q) : PG X tg g' := ⟨fun pins s σ H v u Q I r q => h.run pins s σ H v u Q I r (i _ _ _ _ q)⟩
theorem PGs.imp {X : Cx} {tg : List Expr} {g g' : TGs} (h : PGs X tg g) (i : ∀ v σ H Q, g' v σ H Q → g v σ H Q) : PGs X tg g' := ⟨fun pins s σ H v u Q I r q => h.run pins s σ H v u Q I r (i _ _ _ _ q)⟩
section
variable {X : Cx} {pos : Pos} {vs : List Nat} {x : Str} {i : Nat} {e : Expr} {es : List Expr} {t : WPg} {ts : List WPg}
theorem pdg_name (hN : X.N.Nodup) (hi : X.N[i]? = some x) (hx : Loc X.env.scope x) (hv : i ∈ vs) (hf : X.fn x = true ∨ X.env.scope.names.lookup x = some .local := by first | exact .inl rfl | exact .inr rfl | assumption) : PDg X (.Name x pos) vs (gN i) :=
  ⟨PG.imp (pg_name hN hi hx hf) fun v σ H Q ⟨W, S, env, d, k, ok, sl, hl, r, ht, hq⟩ => hq _ _ ht (sl.set (by rw [hl]; exact lt_of_some hi) r) (by rw [List.length_set]; exact hl) (wipe_set hv)⟩
theorem pdgs_nil : PDgs X [] vs [] := ⟨PGs.imp pgs_nil fun v σ H Q ⟨W, S, env, d, k, ok, sl, hl, r, ht, hq⟩ => by
  cases d with
  | nil => exact ⟨r, hq _ _ ht sl hl rfl⟩
  | cons _ _ => exact ht.elim⟩
theorem pdgs_cons (h1 : PDg X e vs t) (h2 : PDgs X es vs ts) (hs : (assignEach (e :: es) X.env).map (·.2) = assign e X.env :: (assignEach es X.env).map (·.2) := by rfl) : PDgs X (e :: es) vs (t :: ts) :=
  ⟨PGs.imp (pgs_cons h1.run h2.run hs) fun v σ H Q ⟨W, S, env, d, k, ok, sl, hl, r, ht, hq⟩ => by
    cases d with
    | nil => exact ht.elim
    | cons d ds =>
      obtain ⟨u, us, e1, r1, r2⟩ := r
      refine ⟨u, us, e1, W, S, env, d, _, ok, sl, hl, r1, ht, fun e σ1 h1 sl1 hl1 hw1 => ⟨W, S, e, ds, k, ok, sl1, hl1, r2, h1, fun e2 σ2 h2 sl2 hl2 hw2 => hq e2 σ2 h2 sl2 hl2 (hw2.trans hw1)⟩⟩⟩
theorem pdg_tup {z : Nat} (hc : X.calm = true) (h : PDgs X es vs ts) (hn : (assignEach es X.env).length = ts.length := by rfl) (hst : (assignEach es X.env).findIdx? (·.1) = none := by rfl) : PDg X (.Tuple es z pos) vs (gT ts) :=
  ⟨PG.imp (pg_tup hc h.run hn hst) fun v σ H Q ⟨W, S, env, d, k, ok, sl, hl, r, ht, hq⟩ => by
    cases d with
    | tup xs =>
      obtain ⟨a, us, e1, e2, e3⟩ := r
      exact ⟨a, us, e1, sqT_mono ok.vis e2, by rw [e3.length]; exact ht.1, W, S, env, xs, k, ok, sl, hl, e3, ht.2, hq⟩
    | _ => exact ht.elim⟩
end

/-! ### what is walked -/
abbrev WPi := DE → Sto → (List D → (Sto → Prop) → Sto → Prop) → XQ → Prop
structure JOk (K : PySem.W.Frag) (J : It) (W0 : Hp) (items : List D) (g : Sto → Prop) : Prop where
  step : ∀ (i : Nat) W S H d, items[i]? = some d → Same W0 W → Ok K W S H → g S → J.go i H ∧ ∀ x H', J.yld i H x H' → ∃ W', Stp W S H W' S H' ∧ Ok K W' S H' ∧ Rep K W' d x
  stop : ∀ W S H, Same W0 W → Ok K W S H → g S → J.stop items.length H
def lI (K : PySem.W.Frag) (Wx : WX) (w : WPi) : TI := fun σ H R => ∃ W env S Q0 X0, Ok K W S H ∧ Sl K W env σ ∧ w env S Q0 X0 ∧
  (∀ items g S' W' H' J, Q0 items g S' → Stp W S H W' S' H' → Ok K W' S' H' → JOk K J W' items g → R J H') ∧ CXc K W S H X0 (fun c d H' => Wx c d σ H')
structure PDi (X : Cx) (tg e : Expr) (w : WPi) : Prop where
  run : ∀ Wx, Takes X Wx → PI X tg e (lI X.K Wx w)
theorem PI.imp {X : Cx} {tg e : Expr} {t t' : TI} (h : PI X tg e t) (i : ∀ σ H R, t' σ H R → t σ H R) : PI X tg e t' := ⟨fun pins s σ H R I q => h.run pins s σ H R I (i _ _ _ q)⟩
/-- a list or a tuple -/
def iSeq (K : PySem.W.Frag) (tl : TE) : TI := fun σ H R => tl σ H fun x H1 => ∃ a, x = .ref a ∧ (((∃ xs, SqL K H1 a xs) ∧ R (Itl K a) H1) ∨ ((∃ xs, SqT K H1 a xs) ∧ R (Itt K a) H1))
theorem pi_seq {X : Cx} {tg l : Expr} {tl : TE} (hl : PE X l tl) : PI X tg l (iSeq X.K tl) := by
  refine ⟨fun pins s σ H R I h => ?_⟩
  refine thn (hl.run pins s σ H _ I h) fun v s1 ⟨x, H1, I1, r1, q1⟩ => ?_
  obtain ⟨a, e, ⟨⟨xs, hq⟩, q⟩ | ⟨⟨xs, hq⟩, q⟩⟩ := q1
  · subst e
    cases r1
    obtain ⟨its, rv, p, hz⟩ := I1.list hq
    refine wpAny_pyIter_list p.isList ?_
    refine ⟨s1.heap.objs.size, [s1.heap.objs.size], _, _, H1, rfl, I1.kept (t' := s1.toks) fun b o e => Heap.get?_push_of_some _ e, turn_list a _, ⟨_, Heap.get?_push_size _ rfl, rfl, rfl⟩, fun b hb => ?_, q⟩
    have e : b = s1.heap.objs.size := by simpa using hb
    subst e
    exact I1.fpOk (Nat.le_refl _) (I1.hok.fresh (Nat.le_refl _))
  · subst e
    cases r1
    obtain ⟨its, rv, p, hz⟩ := I1.tuple hq
    refine wpAny_pyIter_tuple (show s1.heap.IsTuple a its.toArray from p) ?_
    refine ⟨s1.heap.objs.size, [s1.heap.objs.size], _, _, H1, rfl, I1.kept (t' := s1.toks) fun b o e => Heap.get?_push_of_some _ e, turn_tuple a _, ⟨_, Heap.get?_push_size _ rfl, rfl, rfl⟩, fun b hb => ?_, q⟩
    have e : b = s1.heap.objs.size := by simpa using hb
    subst e
    exact I1.fpOk (Nat.le_refl _) (I1.hok.fresh (Nat.le_refl _))
def wIt (w : WPe) : WPi := fun env S Q X => w env S (fun d S1 => some! (seqA S1 d) fun xs => Q xs (fun S' => seqA S' d = some xs) S1) X
section
variable {K : PySem.W.Frag}
theorem jok_list {W0 : Hp} {S0 : Sto} {H0 : Hp} {d : D} {a : Addr} {xs : List D} (ok : Ok K W0 S0 H0) (r : Rep K W0 d (.ref a)) (hL : seqL S0 d = some xs) (hA : ∀ {S}, seqA S d = seqL S d) :
    (∃ vs, SqL K H0 a vs) ∧ JOk K (Itl K a) W0 xs (fun S' => seqA S' d = some xs) := by
  obtain ⟨b, ws, e1, e2, e3⟩ := seqL_rep ok r hL
  cases e1
  refine ⟨⟨ws, e2⟩, ⟨fun i W S H d hd s1 ok1 g => ?_, fun W S H s1 ok1 g => ?_⟩⟩
  · rw [hA] at g
    obtain ⟨c, zs, e7, e8, e9⟩ := seqL_rep ok1 (r.mono s1) g
    cases e7
    obtain ⟨u, hu, ru⟩ := e9.get hd
    refine ⟨⟨zs, u, e8, hu⟩, fun x H' ⟨e4, e5⟩ => ?_⟩
    subst e4
    have e6 := e5 zs e8
    rw [hu] at e6
    cases e6
    exact ⟨W, Stp.refl, ok1, ru⟩
  · rw [hA] at g
    obtain ⟨c, zs, e7, e8, e9⟩ := seqL_rep ok1 (r.mono s1) g
    cases e7
    exact ⟨zs, e8, Nat.le_of_eq e9.length⟩
theorem jok_seq {W0 : Hp} {S0 : Sto} {H0 : Hp} {d : D} {v : V} {xs : List D} (ok : Ok K W0 S0 H0) (r : Rep K W0 d v) (h : seqA S0 d = some xs) :
    ∃ a, v = .ref a ∧ (((∃ vs, SqL K H0 a vs) ∧ JOk K (Itl K a) W0 xs (fun S' => seqA S' d = some xs)) ∨ ((∃ vs, SqT K H0 a vs) ∧ JOk K (Itt K a) W0 xs (fun S' => seqA S' d = some xs))) := by
  obtain ⟨a, vs, rfl, hq, rv⟩ := seqA_rep ok r h
  refine ⟨a, rfl, ?_⟩
  cases d with
  | tup ys =>
    cases h
    obtain ⟨b, ws, e1, e2, e3⟩ := r
    cases e1
    refine .inr ⟨⟨ws, sqT_mono ok.vis e2⟩, ⟨fun i W S H d hd s1 ok1 _ => ?_, fun W S H s1 ok1 _ => ?_⟩⟩
    · obtain ⟨u, hu, ru⟩ := e3.get hd
      have hT := sqT_mono (s1.trans ok1.vis) e2
      refine ⟨⟨ws, u, hT, hu⟩, fun x H' ⟨e4, e5⟩ => ?_⟩
      subst e4
      have e6 := e5 ws hT
      rw [hu] at e6
      cases e6
      exact ⟨W, Stp.refl, ok1, ru.mono s1⟩
    · exact ⟨ws, sqT_mono (s1.trans ok1.vis) e2, Nat.le_of_eq e3.length⟩
  | lst ys => exact .inl (jok_list ok r h rfl)
  | fro ys => exact .inl (jok_list ok r h rfl)
  | ref b => exact .inl (jok_list ok r h rfl)
  | _ => cases h
end
section
variable {X : Cx} {tg e a b : Expr} {w wa wb : WPe} {p pos : Pos}
theorem pdi_seq (h : PD X e w) : PDi X tg e (wIt w) :=
  ⟨fun Wx tk => PI.imp (pi_seq (h.run Wx tk)) fun σ H R ⟨W, env, S, Q0, X1, ok, sl, hw, cv, cx⟩ => ⟨W, env, S, _, X1, ok, sl, hw, fun d S1 v W1 H1 h1 s1 ok1 r1 => by
    obtain ⟨xs, e1, h1⟩ := some!_ex h1
    obtain ⟨a, rfl, ⟨q, j⟩ | ⟨q, j⟩⟩ := jok_seq ok1 r1 e1
    · exact ⟨a, rfl, .inl ⟨q, cv _ _ S1 W1 H1 _ h1 s1 ok1 j⟩⟩
    · exact ⟨a, rfl, .inr ⟨q, cv _ _ S1 W1 H1 _ h1 s1 ok1 j⟩⟩, cx⟩⟩
def rngD (lo : Int) (n : Nat) : List D := (List.range n).map fun (i : Nat) => D.int (lo + (i : Int))
theorem rngD_get {lo : Int} {n i : Nat} {d : D} (h : (rngD lo n)[i]? = some d) : i < n ∧ d = .int (lo + (i : Int)) := by
  unfold rngD at h
  rw [List.getElem?_map] at h
  by_cases hi : i < n
  · rw [List.getElem?_range hi] at h
    exact ⟨hi, (Option.some.inj h).symm⟩
  · rw [List.getElem?_eq_none (by rw [List.length_range]; omega)] at h
    cases h
theorem rngD_length {lo : Int} {n : Nat} : (rngD lo n).length = n := by
  unfold rngD
  rw [List.length_map, List.length_range]
theorem jok_rng {K : PySem.W.Frag} {W0 : Hp} {lo : Int} {n : Nat} : JOk K (Itr lo n) W0 (rngD lo n) (fun _ => True) :=
  ⟨fun i W S H d hd s1 ok1 _ => by
    obtain ⟨hi, rfl⟩ := rngD_get hd
    exact ⟨hi, fun x H' ⟨e1, e2⟩ => by subst e1; exact ⟨W, Stp.refl, ok1, e2⟩⟩, fun W S H _ _ _ => by rw [rngD_length]; exact Nat.le_refl _⟩
def wRg1 (wa : WPe) : WPi := fun env S Q X => wa env S (fun a S1 => asI a fun j => (-(2 ^ 62) ≤ j ∧ j < 2 ^ 62) ∧ Q (rngD 0 j.toNat) (fun _ => True) S1) X
def wRg2 (wa wb : WPe) : WPi := fun env S Q X => wa env S (fun a S1 => asI a fun i => wb env S1 (fun b S2 => asI b fun j => (-(2 ^ 62) ≤ i ∧ i < 2 ^ 62 ∧ -(2 ^ 62) ≤ j ∧ j < 2 ^ 62) ∧ Q (rngD i (j - i).toNat) (fun _ => True) S2) X) X
theorem pdi_rg1 (hm : X.mg "range" = none) (ha : PD X a wa) (hg : Gl X "range" := by rfl) (hs : starEach [a] X.env = [(false, eval a X.env)] := by rfl) : PDi X tg (.Call (.Name "range" p) [a] [] pos) (wRg1 wa) :=
  ⟨fun Wx tk => PI.imp (pi_range1 hg hm (pa_cons (ha.run Wx tk) pa_nil hs) hs) fun σ H R ⟨W, env, S, Q0, X1, ok, sl, hw, cv, cx⟩ => ⟨W, env, S, _, X1, ok, sl, hw, fun d S1 v W1 H1 h1 s1 ok1 r1 => by
    obtain ⟨j, rfl, ⟨h2, h3⟩, h4⟩ := asI_ex h1
    exact ⟨j, by rw [show v = .int j from r1], h2, h3, cv _ _ S1 W1 H1 _ h4 s1 ok1 jok_rng⟩, cx⟩⟩
theorem pdi_rg2 (hm : X.mg "range" = none) (ha : PD X a wa) (hb : PD X b wb) (hg : Gl X "range" := by rfl) (hs : starEach [a, b] X.env = [(false, eval a X.env), (false, eval b X.env)] := by rfl) (hs2 : starEach [b] X.env = [(false, eval b X.env)] := by rfl) :
    PDi X tg (.Call (.Name "range" p) [a, b] [] pos) (wRg2 wa wb) :=
  ⟨fun Wx tk => PI.imp (pi_range2 hg hm (pa_cons (ha.run Wx tk) (pa_cons (hb.run Wx tk) pa_nil hs2) (by rw [hs, hs2])) hs hs2) fun σ H R ⟨W, env, S, Q0, X1, ok, sl, hw, cv, cx⟩ => ⟨W, env, S, _, X1, ok, sl, hw, fun d S1 v W1 H1 h1 s1 ok1 r1 => by
    obtain ⟨i, rfl, h1⟩ := asI_ex h1
    refine ⟨W1, env, S1, _, X1, ok1, sl.mono s1.vis, h1, fun d2 S2 u W2 H2 h2 s2 ok2 r2 => ?_, cx.mono s1⟩
    obtain ⟨j, rfl, h3, h4⟩ := asI_ex h2
    exact ⟨i, j, by rw [show v = .int i from r1, show u = .int j from r2], h3, cv _ _ S2 W2 H2 _ h4 (s1.trans s2) ok2 jok_rng⟩, cx⟩⟩
end

/-! ### for -/
/-- by an invariant over (turn, slots, store) -/
def forI (t : WPg) (body : WPs) (g : Sto → Prop) (items : List D) (env : DE) (S : Sto) (q : QS) : Prop := ∃ P : Nat → DE → Sto → Prop, P 0 env S ∧ (∀ i e S, i ≤ items.length → P i e S → g S) ∧
  (∀ i d e S, items[i]? = some d → P i e S → t d e fun e1 => body e1 S { q with nx := P (i + 1), ct := P (i + 1), bk := q.nx }) ∧ ∀ e S, P items.length e S → q.nx e S
/-- turn by turn -/
def forL (t : WPg) (body : WPs) (g : Sto → Prop) : List D → WPs
  | [], env, S, q => g S ∧ q.nx env S
  | d :: r, env, S, q => g S ∧ t d env fun e => body e S { q with nx := fun e2 S2 => forL t body g r e2 S2 q, ct := fun e2 S2 => forL t body g r e2 S2 q, bk := q.nx }
theorem forI_of {t : WPg} {body : WPs} {g : Sto → Prop} {items : List D} {env : DE} {S : Sto} {q : QS} (h : forL t body g items env S q) : forI t body g items env S q := by
  refine ⟨fun i e S => forL t body g (items.drop i) e S q, h, fun i e S hi h => ?_, fun i d e S hd h => ?_, fun e S h => ?_⟩
  · dsimp only at h
    by_cases hlt : i < items.length
    · rw [List.drop_eq_getElem_cons hlt] at h
      exact h.1
    · rw [List.drop_eq_nil_of_le (by omega)] at h
      exact h.1
  · dsimp only at h
    obtain ⟨hlt, e1⟩ := List.getElem?_eq_some_iff.mp hd
    subst e1
    rw [List.drop_eq_getElem_cons hlt] at h
    exact h.2
  · dsimp only at h
    rw [List.drop_length] at h
    exact h.2
/-- a fold -/
theorem forI_fold {α : Type} {t : WPg} {body : WPs} {g : Sto → Prop} {items : List D} {env : DE} {S : Sto} {q : QS} (st : α → DE → Sto → Prop) (step : α → D → α) (init : α) (h0 : st init env S) (hg : ∀ a e S, st a e S → g S)
    (hs : ∀ i d a e S, items[i]? = some d → a = (items.take i).foldl step init → st a e S → t d e fun e1 => body e1 S { q with nx := st (step a d), ct := st (step a d), bk := q.nx }) (hd : ∀ e S, st (items.foldl step init) e S → q.nx e S) : forI t body g items env S q := by
  refine ⟨fun i e S => st ((items.take i).foldl step init) e S, by simpa using h0, fun i e S _ h => hg _ e S h, fun i d e S hi h => ?_, fun e S h => hd e S (by simpa using h)⟩
  have key : (items.take (i + 1)).foldl step init = step ((items.take i).foldl step init) d := by
    rw [List.take_add_one, hi]
    simp
  dsimp only
  rw [key]
  exact hs i d _ e S hi rfl h
/-- .. what follows the body told by what it wants -/
theorem forI_foldq {α : Type} {t : WPg} {body : WPs} {g : Sto → Prop} {items : List D} {env : DE} {S : Sto} {q : QS} (st : α → DE → Sto → Prop) (step : α → D → α) (init : α) (h0 : st init env S) (hg : ∀ a e S, st a e S → g S)
    (hs : ∀ i d a e S, items[i]? = some d → a = (items.take i).foldl step init → st a e S → ∀ q' : QS, (∀ e S, st (step a d) e S → q'.nx e S) → q'.rt = q.rt → q'.bk = q.nx → q'.ct = q'.nx → q'.xc = q.xc → t d e fun e1 => body e1 S q') (hd : ∀ e S, st (items.foldl step init) e S → q.nx e S) : forI t body g items env S q :=
  forI_fold st step init h0 hg (fun i d a e S hi ha h => hs i d a e S hi ha h _ (fun _ _ z => z) rfl rfl rfl rfl) hd
/-- .. by an invariant -/
theorem forI_invq {t : WPg} {body : WPs} {g : Sto → Prop} {items : List D} {env : DE} {S : Sto} {q : QS} (P : Nat → DE → Sto → Prop) (h0 : P 0 env S) (hg : ∀ i e S, P i e S → g S)
    (hs : ∀ i d e S, items[i]? = some d → P i e S → ∀ q' : QS, (∀ e S, P (i + 1) e S → q'.nx e S) → q'.rt = q.rt → q'.bk = q.nx → q'.ct = q'.nx → q'.xc = q.xc → t d e fun e1 => body e1 S q') (hd : ∀ e S, P items.length e S → q.nx e S) : forI t body g items env S q :=
  ⟨P, h0, fun i e S _ h => hg i e S h, fun i d e S hi h => hs i d e S hi h _ (fun _ _ z => z) rfl rfl rfl rfl, hd⟩
def wFor (wi : WPi) (t : WPg) (body : WPs) : WPs := fun env S q => wi env S (fun items g S1 => forI t body g items env S1 q) (xcQ q env)
section
variable {X : Cx} {tg iter : Expr} {body : List Stmt} {wi : WPi} {t : WPg} {ws : WPs} {pos : Pos} {vs : List Nat}
theorem pds_for (hc : X.calm = true) (hp : PassesOwn (model X.prog X.w) X.A X.env X.xe) (hi : PDi X tg iter wi) (hg : PDg X tg vs t) (hb : PDss X body ws) (hs : ∀ x, foldedSetIterable iter X.env x = pure x := by intro _; rfl) : PDs X (.For tg iter body [] pos) (wFor wi t ws) :=
  ⟨fun Wx tk => PS.imp (ps_for hp hc (hi.run Wx tk) hg.run (hb.run Wx tk) hs) fun D σ H ⟨W, env, S, q, ok, sl, hl, hw, cs⟩ => by
    refine ⟨W, env, S, _, _, ok, sl, hw, fun items g S1 W1 H1 J ⟨P, h0, hg0, hs0, hd0⟩ s1 ok1 jok => ?_, CXc.of cs sl⟩
    refine ⟨fun i m σ' H' => m = items.length - i ∧ i ≤ items.length ∧ σ'.length = X.N.length ∧ ∃ W' env' S', Stp W1 S1 H1 W' S' H' ∧ Ok X.K W' S' H' ∧ Sl X.K W' env' σ' ∧ P i env' S',
      ⟨items.length, rfl, Nat.zero_le _, hl, W1, env, S1, Stp.refl, ok1, sl.mono s1.vis, h0⟩, ?_⟩
    rintro i m σ' H' ⟨rfl, hi2, hl', W', env', S', s2, ok2, sl2, h2⟩
    have hgS := hg0 i env' S' hi2 h2
    by_cases hlt : i < items.length
    · have hd := List.getElem?_eq_getElem hlt
      obtain ⟨go, yl⟩ := jok.step i W' S' H' _ hd s2.vis ok2 hgS
      refine .inr ⟨go, fun σ2 H2 => σ2.length = X.N.length ∧ ∃ W2 env2 S2, Stp W1 S1 H1 W2 S2 H2 ∧ Ok X.K W2 S2 H2 ∧ Sl X.K W2 env2 σ2 ∧ P (i + 1) env2 S2,
        fun σ2 H2 ⟨hl2, h3⟩ => ⟨items.length - (i + 1), by omega, rfl, hlt, hl2, h3⟩, fun x H2 y => ?_⟩
      obtain ⟨W2, s3, ok3, rx⟩ := yl x H2 y
      refine ⟨W2, S', env', items[i], _, ok3, sl2.mono s3.vis, hl', rx, hs0 i _ env' S' hd h2, fun e2 σ3 h3 sl3 hl3 _ => ?_⟩
      have st := s1.trans (s2.trans s3)
      refine ⟨W2, e2, S', _, ok3, sl3, hl3, h3, ?_⟩
      have fin : ∀ {e4 : DE} {S4 : Sto} {σ4 : L2.St} {W4 H4 : Hp}, P (i + 1) e4 S4 → Stp W2 S' H2 W4 S4 H4 → Ok X.K W4 S4 H4 → Sl X.K W4 e4 σ4 → σ4.length = X.N.length →
          (σ4.length = X.N.length ∧ ∃ W2 env2 S2, Stp W1 S1 H1 W2 S2 H4 ∧ Ok X.K W2 S2 H4 ∧ Sl X.K W2 env2 σ4 ∧ P (i + 1) env2 S2) :=
        fun h4 s4 ok4 sl4 hl4 => ⟨hl4, _, _, _, s2.trans (s3.trans s4), ok4, sl4, h4⟩
      exact ⟨fun e4 S4 σ4 W4 H4 h4 s4 ok4 sl4 hl4 => fin h4 s4 ok4 sl4 hl4, (cs.mono st).rt, (cs.mono st).nx, fun e4 S4 σ4 W4 H4 h4 s4 ok4 sl4 hl4 => fin h4 s4 ok4 sl4 hl4, (cs.mono st).xc⟩
    · have e : i = items.length := by omega
      subst e
      exact .inl ⟨jok.stop W' S' H' s2.vis ok2 hgS, cs.nx env' S' σ' W' H' (hd0 _ _ h2) (s1.trans s2) ok2 sl2 hl'⟩⟩
end

/-! ### while -/
def wWhile (t : WPt) (body : WPs) : WPs := fun env S q => ∃ P : Nat → DE → Sto → Prop, (∃ m, P m env S) ∧ ∀ m e S, P m e S →
  t e S (fun b S1 => if b = true then body e S1 { q with nx := fun e2 S2 => ∃ m', m' < m ∧ P m' e2 S2, ct := fun e2 S2 => ∃ m', m' < m ∧ P m' e2 S2, bk := q.nx } else q.nx e S1) (xcQ q e)
theorem pds_while {X : Cx} {c : Expr} {body : List Stmt} {t : WPt} {ws : WPs} {pos : Pos} (hp : PassesOwn (model X.prog X.w) X.A X.env X.xe) (hc : PDt X c t) (hb : PDss X body ws) : PDs X (.While c body [] pos) (wWhile t ws) :=
  ⟨fun Wx tk => PS.imp (ps_while hp (hc.run Wx tk) (hb.run Wx tk)) fun D σ H ⟨W, env, S, q, ok, sl, hl, ⟨P, ⟨m0, h0⟩, hs⟩, cs⟩ => by
    refine ⟨fun m σ' H' => σ'.length = X.N.length ∧ ∃ W' env' S', Stp W S H W' S' H' ∧ Ok X.K W' S' H' ∧ Sl X.K W' env' σ' ∧ P m env' S', ⟨m0, hl, W, env, S, Stp.refl, ok, sl, h0⟩, ?_⟩
    rintro m σ' H' ⟨hl', W', env', S', s1, ok1, sl1, h1⟩
    refine ⟨W', env', S', _, _, ok1, sl1, hs m env' S' h1, fun b S2 W2 H2 h2 s2 ok2 => ?_, CXc.of (cs.mono s1) sl1⟩
    cases b with
    | true =>
      refine iteT ⟨fun σ3 H3 => ∃ m', m' < m ∧ σ3.length = X.N.length ∧ ∃ W' env' S', Stp W S H W' S' H3 ∧ Ok X.K W' S' H3 ∧ Sl X.K W' env' σ3 ∧ P m' env' S', fun σ3 H3 ⟨m', hm, h3⟩ => ⟨m', hm, h3⟩, W2, env', S2, _, ok2, sl1.mono s2.vis, hl', (if_pos rfl).mp h2, ?_⟩
      have st := s1.trans s2
      exact ⟨fun e4 S4 σ4 W4 H4 ⟨m', hm, h4⟩ s4 ok4 sl4 hl4 => ⟨m', hm, hl4, W4, e4, S4, st.trans s4, ok4, sl4, h4⟩, (cs.mono st).rt, (cs.mono st).nx, fun e4 S4 σ4 W4 H4 ⟨m', hm, h4⟩ s4 ok4 sl4 hl4 => ⟨m', hm, hl4, W4, e4, S4, st.trans s4, ok4, sl4, h4⟩, (cs.mono st).xc⟩
    | false => exact iteF (cs.nx env' S2 σ' W2 H2 ((if_neg Bool.false_ne_true).mp h2) (s1.trans s2) ok2 (sl1.mono s2.vis) hl')⟩

/-! ### list comprehensions -/
def wYes : WPt := fun _ S Q _ => Q true S
structure PDts (X : Cx) (ifs : List Expr) (w : WPt) : Prop where
  run : ∀ Wx, Takes X Wx → PTs X ifs (lT X.K Wx w)
theorem pdts_nil {X : Cx} : PDts X [] wYes := ⟨fun Wx tk => ⟨fun pins s σ H Q I ⟨W, env, S, Q0, X1, ok, sl, hw, cv, cx⟩ => pts_nil.run pins s σ H Q I (cv true S W H hw Stp.refl ok)⟩⟩
theorem pdts_one {X : Cx} {c : Expr} {w : WPt} (h : PDt X c w) : PDts X [c] w := ⟨fun Wx tk => pts_one (h.run Wx tk)⟩
def delVs (env : DE) : List Nat → DE
  | [] => env
  | v :: vs => delV (delVs env vs) v
theorem sl_wipe {K : PySem.W.Frag} {W : Hp} {env : DE} {σ : L2.St} (h : Sl K W env σ) : ∀ vs : List Nat, Sl K W (delVs env vs) (wipe σ vs)
  | [] => h
  | v :: vs => fun i d q => by
    obtain ⟨a, b⟩ := getV_delV q
    obtain ⟨u, c, r⟩ := sl_wipe h vs i d b
    refine ⟨u, ?_, r⟩
    show ((wipe σ vs).set v none)[i]? = _
    rw [List.getElem?_set_ne (Ne.symm a)]; exact c
theorem delVs_len {σ : L2.St} {vs : List Nat} {n : Nat} (h : σ.length = n) : (wipe σ vs).length = n := by rw [wipe_length]; exact h
theorem wipe_wipe {σ : L2.St} {vs : List Nat} : wipe (wipe σ vs) vs = wipe σ vs := by
  apply List.ext_getElem?
  intro i
  have key : ∀ {τ : L2.St} {us : List Nat}, (i ∈ us → i < τ.length → (wipe τ us)[i]? = some none) ∧ (i ∉ us → (wipe τ us)[i]? = τ[i]?) := fun {τ us} => by
    induction us with
    | nil => exact ⟨(fun h => by cases h), (fun _ => rfl)⟩
    | cons u us ih =>
      refine ⟨fun h hl => ?_, fun h => ?_⟩
      · show ((wipe τ us).set u none)[i]? = some none
        by_cases e : u = i
        · subst e
          exact List.getElem?_set_self (by rw [wipe_length]; exact hl)
        · rw [List.getElem?_set_ne e]
          exact ih.1 (by cases h with | head => exact absurd rfl e | tail _ h => exact h) hl
      · show ((wipe τ us).set u none)[i]? = _
        rw [List.getElem?_set_ne (fun e => h (by rw [e]; exact List.mem_cons_self))]
        exact ih.2 fun z => h (List.mem_cons_of_mem _ z)
  by_cases h : i ∈ vs
  · by_cases hl : i < σ.length
    · rw [(key (τ := wipe σ vs)).1 h (by rw [wipe_length]; exact hl), (key (τ := σ)).1 h hl]
    · rw [List.getElem?_eq_none (by rw [wipe_length, wipe_length]; omega), List.getElem?_eq_none (by rw [wipe_length]; omega)]
  · rw [(key (τ := wipe σ vs)).2 h]
def compI (t : WPg) (tt : WPt) (te : WPe) (g : Sto → Prop) (env : DE) (items : List D) (S : Sto) (Q : List D → Sto → Prop) : Prop := ∃ P : Nat → List D → Sto → Prop, P 0 [] S ∧ (∀ i acc S, i ≤ items.length → P i acc S → g S) ∧
  (∀ i d acc S, items[i]? = some d → P i acc S → t d env fun e => tt e S (fun b S1 => if b = true then te e S1 (fun y S2 => P (i + 1) (acc ++ [y]) S2) X0 else P (i + 1) acc S1) X0) ∧ ∀ acc S, P items.length acc S → Q acc S
/-- item by item -/
def compL (t : WPg) (tt : WPt) (te : WPe) (g : Sto → Prop) (env : DE) : List D → List D → Sto → (List D → Sto → Prop) → Prop
  | [], acc, S, Q => g S ∧ Q acc S
  | d :: r, acc, S, Q => g S ∧ t d env fun e => tt e S (fun b S1 => if b = true then te e S1 (fun y S2 => compL t tt te g env r (acc ++ [y]) S2 Q) X0 else compL t tt te g env r acc S1 Q) X0
theorem compI_of {t : WPg} {tt : WPt} {te : WPe} {g : Sto → Prop} {env : DE} {items : List D} {S : Sto} {Q : List D → Sto → Prop} (h : compL t tt te g env items [] S Q) : compI t tt te g env items S Q := by
  refine ⟨fun i acc S => compL t tt te g env (items.drop i) acc S Q, h, fun i acc S hi h => ?_, fun i d acc S hd h => ?_, fun acc S h => ?_⟩
  · dsimp only at h
    by_cases hlt : i < items.length
    · rw [List.drop_eq_getElem_cons hlt] at h
      exact h.1
    · rw [List.drop_eq_nil_of_le (by omega)] at h
      exact h.1
  · dsimp only at h
    obtain ⟨hlt, e1⟩ := List.getElem?_eq_some_iff.mp hd
    subst e1
    rw [List.drop_eq_getElem_cons hlt] at h
    exact h.2
  · dsimp only at h
    rw [List.drop_length] at h
    exact h.2
/-- each item's value told by a function -/
theorem compI_map {t : WPg} {tt : WPt} {te : WPe} {g : Sto → Prop} {env : DE} {items : List D} {S : Sto} {Q : List D → Sto → Prop} (f : D → Option D) (hg : g S)
    (h : ∀ d, d ∈ items → ∀ R : Option D → Sto → Prop, R (f d) S → t d env fun e => tt e S (fun b S1 => if b = true then te e S1 (fun y S2 => R (some y) S2) X0 else R none S1) X0) (hq : Q (items.filterMap f) S) : compI t tt te g env items S Q := by
  refine ⟨fun i acc S' => S' = S ∧ acc = (items.take i).filterMap f, ⟨rfl, by simp⟩, fun i acc S' _ h => by rw [h.1]; exact hg, fun i d acc S' hd ⟨e1, e2⟩ => ?_, fun acc S' ⟨e1, e2⟩ => ?_⟩
  · subst e1 e2
    refine h d (List.mem_of_getElem? hd) (fun o S2 => match o with
      | some y => S2 = S' ∧ (items.take i).filterMap f ++ [y] = (items.take (i + 1)).filterMap f
      | none => S2 = S' ∧ (items.take i).filterMap f = (items.take (i + 1)).filterMap f) ?_
    have key : (items.take (i + 1)).filterMap f = (items.take i).filterMap f ++ [d].filterMap f := by
      rw [List.take_add_one, hd]
      simp
    cases e : f d with
    | none =>
      refine ⟨rfl, ?_⟩
      rw [key]
      simp [e]
    | some y =>
      refine ⟨rfl, ?_⟩
      rw [key]
      simp [e]
  · subst e1 e2
    simpa using hq
/-- by an invariant of what is made so far -/
theorem compI_inv {t : WPg} {tt : WPt} {te : WPe} {g : Sto → Prop} {env : DE} {items : List D} {S : Sto} {Q : List D → Sto → Prop} (P : Nat → List D → Sto → Prop) (h0 : P 0 [] S) (hg : ∀ i acc S, P i acc S → g S)
    (hs : ∀ i d acc S, items[i]? = some d → P i acc S → t d env fun e => tt e S (fun b S1 => if b = true then te e S1 (fun y S2 => P (i + 1) (acc ++ [y]) S2) X0 else P (i + 1) acc S1) X0) (hd : ∀ acc S, P items.length acc S → Q acc S) : compI t tt te g env items S Q :=
  ⟨P, h0, fun i acc S _ h => hg i acc S h, hs, hd⟩
def wLc (wi : WPi) (t : WPg) (tt : WPt) (te : WPe) (vs : List Nat) : WPe := fun env S Q X => wi env S (fun items g S1 => items.length ≤ sizeLine ∧ compI t tt te g (delVs env vs) items S1 fun ds S2 => Q (.lst ds) S2) X
/-- .. a new mutable list -/
def wLcM (wi : WPi) (t : WPg) (tt : WPt) (te : WPe) (vs : List Nat) : WPe := fun env S Q X => wi env S (fun items g S1 => items.length ≤ sizeLine ∧ compI t tt te g (delVs env vs) items S1 fun ds S2 => ∀ p, S2 p = none → Q (.ref p) (put S2 p (.lst ds))) X
theorem takesF {X : Cx} {s : Shared} {H : Hp} {scope : Scope} {cenv : Env} {fp : List Addr} : Takes (X.blk s H scope cenv fp) (fun _ _ _ _ => False) := takes0
theorem Stp.see {W W' : Hp} {S S' : Sto} {H H' : Hp} {p : Addr} {o : HO} (st : Stp W S H W' S' H') (h : H p = none) (hW : W' p = none) : Stp W S H (upd W' p o) S' H' :=
  ⟨st.vis.trans (same_new hW), fun a x h1 h2 h3 => by
    have ne : a ≠ p := ne_of_none h1 h
    obtain ⟨y1, y2, y3⟩ := st.frm a x h1 h2 h3
    exact ⟨y1, by rw [upd_ne ne]; exact y2, y3⟩⟩
theorem Stp.see' {W W1 W' : Hp} {S S1 S' : Sto} {H H1 H' : Hp} {p : Addr} {o : HO} (st : Stp W S H W' S' H') (h : H1 p = none) (hW : W' p = none) (s1 : Stp W S H W1 S1 H1) : Stp W S H (upd W' p o) S' H' :=
  ⟨st.vis.trans (same_new hW), fun a x h1 h2 h3 => by
    have ne : a ≠ p := fun e => by
      subst e
      have := (s1.frm a x h1 h2 h3).1
      rw [h] at this; cases this
    obtain ⟨y1, y2, y3⟩ := st.frm a x h1 h2 h3
    exact ⟨y1, by rw [upd_ne ne]; exact y2, y3⟩⟩
theorem Stp.own {W W' : Hp} {S S' : Sto} {H H' : Hp} {p : Addr} {m : MO} (st : Stp W S H W' S' H') (h : H p = none) : Stp W S H W' (put S' p m) H' :=
  ⟨st.vis, fun a x h1 h2 h3 => by
    have ne : a ≠ p := ne_of_none h1 h
    obtain ⟨y1, y2, y3⟩ := st.frm a x h1 h2 h3
    exact ⟨y1, y2, by rw [put_ne ne]; exact y3⟩⟩
theorem Stp.out {W W' : Hp} {S S' : Sto} {H H' : Hp} {p : Addr} {o : HO} (st : Stp W S H W' S' H') (h : H p = none) : Stp W S H W' S' (upd H' p o) :=
  ⟨st.vis, fun a x h1 h2 h3 => by
    have ne : a ≠ p := ne_of_none h1 h
    obtain ⟨y1, y2, y3⟩ := st.frm a x h1 h2 h3
    exact ⟨by rw [upd_ne ne]; exact y1, y2, y3⟩⟩
theorem Ok.out {K : PySem.W.Frag} {W : Hp} {S : Sto} {H : Hp} {p : Addr} {o : HO} (ok : Ok K W S H) (hW : W p = none) (hS : S p = none) : Ok K W S (upd H p o) :=
  ⟨fun b x e => by rw [upd_ne (ne_of_none e hW)]; exact ok.vis _ _ e, fun a m e => by
    obtain ⟨x, e1, e2⟩ := ok.sto _ _ e
    exact ⟨x, by rw [upd_ne (ne_of_S e hS)]; exact e1, e2⟩, ok.sep⟩
theorem Ok.see {K : PySem.W.Frag} {W : Hp} {S : Sto} {H : Hp} {p : Addr} {o : HO} (ok : Ok K W S H) (hW : W p = none) (hS : S p = none) (hH : H p = some o) : Ok K (upd W p o) S H :=
  ⟨fun b x e => by
    by_cases q : b = p
    · subst q; rw [upd_same] at e; cases e; exact hH
    · rw [upd_ne q] at e; exact ok.vis _ _ e, fun a m e => by
    obtain ⟨x, e1, e2⟩ := ok.sto _ _ e
    exact ⟨x, e1, e2.mono (same_new hW)⟩, fun a m e => by
    rw [upd_ne (ne_of_S e hS)]; exact ok.sep _ _ e⟩
theorem Ok.own {K : PySem.W.Frag} {W : Hp} {S : Sto} {H : Hp} {p : Addr} {o : HO} {m : MO} (ok : Ok K W S H) (hW : W p = none) (hH : H p = some o) (r : MRep K W m o) : Ok K W (put S p m) H :=
  ⟨ok.vis, fun a n e => by
    by_cases q : a = p
    · subst q; rw [put_same] at e; cases e; exact ⟨o, hH, r⟩
    · rw [put_ne q] at e; exact ok.sto _ _ e, fun a n e => by
    by_cases q : a = p
    · subst q; exact hW
    · rw [put_ne q] at e; exact ok.sep _ _ e⟩
section
variable {X : Cx} {elt tg iter : Expr} {ifs : List Expr} {scope : Scope} {own : List (Str × Nat)} {pos : Pos} {wi : WPi} {t : WPg} {tt : WPt} {te : WPe}
/-- the made list stands at p, nobody else's -/
theorem lc_go {Wx : WX} {vs : List Nat} {σ : L2.St} {H : Hp} {Q : VK} {K : PySem.W.Frag} {n : Nat} {items : List D} {g : Sto → Prop} {env : DE} {W1 : Hp} {S1 : Sto} {H1 : Hp} {J : It} {Q1 : List D → Sto → Prop} (hl : σ.length = n) (hz : items.length ≤ sizeLine)
    (h : compI t tt te g (delVs env vs) items S1 Q1) (ok1 : Ok K W1 S1 H1) (sl : Sl K W1 env σ) (jok : JOk K J W1 items g)
    (fin : ∀ (p : Addr) acc ws W2 S2 H2, H1 p = none → Q1 acc S2 → Stp W1 S1 H1 W2 S2 H2 → Ok K W2 S2 H2 → W2 p = none → S2 p = none → H2 p = some (.lst ws) → Reps K W2 acc ws → Q (.ref p) H2) :
    ∀ p, H1 p = none → ∃ Wt : Nat → Nat → Hp → Prop, (∃ m, Wt 0 m (upd H1 p (.lst []))) ∧ ∀ i m H, Wt i m H →
      (J.stop i H ∧ Q (.ref p) H) ∨ (J.go i H ∧ ∃ Nx : Hp → Prop, (∀ H', Nx H' → ∃ m', m' < m ∧ Wt (i + 1) m' H') ∧ ∀ x H', J.yld i H x H' → lG K n vs t x (wipe σ vs) H' fun σ2 H2 => wipe σ2 vs = wipe σ vs ∧ lT K (fun _ _ _ _ => False) tt σ2 H2 fun b H3 =>
        if b = true then lE K (fun _ _ _ _ => False) te σ2 H3 fun y H4 => ∃ acc, H4 p = some (.lst acc) ∧ acc.length < sizeLine ∧ Nx (upd H4 p (.lst (acc ++ [y]))) else Nx H3) := by
  intro p hp
  obtain ⟨P, h0, hg, hs, hd⟩ := h
  have hf := ok1.fresh hp
  refine ⟨fun i m H' => m = items.length - i ∧ i ≤ items.length ∧ ∃ W' S' acc ws, Stp W1 S1 H1 W' S' H' ∧ Ok K W' S' H' ∧ W' p = none ∧ S' p = none ∧ H' p = some (.lst ws) ∧ Reps K W' acc ws ∧ acc.length ≤ i ∧ P i acc S',
    ⟨items.length, rfl, Nat.zero_le _, W1, S1, [], [], ok1.stJ hp, ok1.junk hp, hf.1, hf.2, upd_same, rfl, Nat.le_refl _, h0⟩, ?_⟩
  rintro i m H' ⟨rfl, hi, W', S', acc, ws, s2, ok2, hW', hS', hH', rw', hle, h2⟩
  have hgS := hg i acc S' hi h2
  by_cases hlt : i < items.length
  · have hdd := List.getElem?_eq_getElem hlt
    obtain ⟨go, yl⟩ := jok.step i W' S' H' _ hdd s2.vis ok2 hgS
    refine .inr ⟨go, fun H3 => ∃ W' S' acc ws, Stp W1 S1 H1 W' S' H3 ∧ Ok K W' S' H3 ∧ W' p = none ∧ S' p = none ∧ H3 p = some (.lst ws) ∧ Reps K W' acc ws ∧ acc.length ≤ i + 1 ∧ P (i + 1) acc S',
      fun H3 h3 => ⟨items.length - (i + 1), by omega, rfl, hlt, h3⟩, fun x H2 y => ?_⟩
    obtain ⟨W2, s3, ok3, rx⟩ := yl x H2 y
    obtain ⟨k1, k2, k3⟩ := s3.frm p _ hH' hW' hS'
    refine ⟨W2, S', delVs env vs, items[i], _, ok3, sl_wipe (sl.mono (s2.trans s3).vis) vs, delVs_len hl, rx, hs i _ acc S' hdd h2, fun e2 σ3 h3 sl3 hl3 hw3 => ⟨?_, ?_⟩⟩
    · rw [hw3]; exact wipe_wipe
    · refine ⟨W2, e2, S', _, _, ok3, sl3, h3, fun b S4 W4 H4 h4 s4 ok4 => ?_, CXc.no⟩
      obtain ⟨j1, j2, j3⟩ := s4.frm p _ k1 k2 k3
      cases b with
      | true =>
        refine iteT ⟨W4, e2, S4, _, _, ok4, sl3.mono s4.vis, (if_pos rfl).mp h4, fun d S5 v W5 H5 h5 s5 ok5 r5 => ?_, CXc.no⟩
        obtain ⟨l1, l2, l3⟩ := s5.frm p _ j1 j2 j3
        have st := s2.trans (s3.trans (s4.trans s5))
        have rlen := rw'.length
        refine ⟨ws, l1, by omega, W5, S5, acc ++ [d], ws ++ [v], st.out hp, ok5.out l2 l3, l2, l3, upd_same, (rw'.mono (s3.trans (s4.trans s5)).vis).append (Reps.one r5), ?_, h5⟩
        rw [List.length_append, List.length_singleton]; omega
      | false =>
        have st := s2.trans (s3.trans s4)
        exact iteF ⟨W4, S4, acc, ws, st, ok4, j2, j3, j1, rw'.mono (s3.trans s4).vis, by omega, (if_neg Bool.false_ne_true).mp h4⟩
  · have e : i = items.length := by omega
    subst e
    exact .inl ⟨jok.stop W' S' H' s2.vis ok2 hgS, fin p acc ws W' S' H' hp (hd _ _ h2) s2 ok2 hW' hS' hH' rw'⟩
theorem lc_lst {Wx : WX} {vs : List Nat} {σ : L2.St} {H : Hp} {Q : VK} {K : PySem.W.Frag} {n : Nat} (hl : σ.length = n) (h : lE K Wx (wLc wi t tt te vs) σ H Q) :
    tLc (lI K Wx wi) (lG K n vs t) (lT K (fun _ _ _ _ => False) tt) (lE K (fun _ _ _ _ => False) te) vs σ H Q := by
  obtain ⟨W, env, S, Q0, X1, ok, sl, hw, cv, cx⟩ := h
  refine ⟨W, env, S, _, X1, ok, sl, hw, fun items g S1 W1 H1 J ⟨hz, h1⟩ s1 ok1 jok => ?_, cx⟩
  exact lc_go (Wx := Wx) (H := H) hl hz h1 ok1 (sl.mono s1.vis) jok fun p acc ws W2 S2 H2 hp q s2 ok2 a b c r =>
    cv _ S2 _ _ H2 q ((s1.trans s2).see' hp a s1) (ok2.see a b c) ⟨p, ws, rfl, upd_same, r.mono (same_new a)⟩
theorem lc_lstM {Wx : WX} {vs : List Nat} {σ : L2.St} {H : Hp} {Q : VK} {K : PySem.W.Frag} {n : Nat} (hl : σ.length = n) (h : lE K Wx (wLcM wi t tt te vs) σ H Q) :
    tLc (lI K Wx wi) (lG K n vs t) (lT K (fun _ _ _ _ => False) tt) (lE K (fun _ _ _ _ => False) te) vs σ H Q := by
  obtain ⟨W, env, S, Q0, X1, ok, sl, hw, cv, cx⟩ := h
  refine ⟨W, env, S, _, X1, ok, sl, hw, fun items g S1 W1 H1 J ⟨hz, h1⟩ s1 ok1 jok => ?_, cx⟩
  exact lc_go (Wx := Wx) (H := H) hl hz h1 ok1 (sl.mono s1.vis) jok fun p acc ws W2 S2 H2 hp q s2 ok2 a b c r =>
    cv _ _ _ _ H2 (q p b) (s1.trans (s2.own hp)) (ok2.own (m := .lst acc) a c ⟨ws, rfl, r⟩) rfl
variable {pos2 : Pos} {i : Nat} {x : Str}
theorem pd_lcW {w : WPe} (hc : X.calm = true) (hN : X.N.Nodup) (hi : PDi X tg iter wi) (ok : BlkOk X.N X.env.scope scope own)
    (hg : ∀ (s : Shared) (H : Hp) (C : Addr) (cl : List (Str × Addr)) (fp : List Addr), PDg (X.blk s H scope (compEnvC scope cl C X.env) fp) tg (own.map (·.2)) t) (ht : ∀ (s : Shared) (H : Hp) (C : Addr) (cl : List (Str × Addr)) (fp : List Addr), PDts (X.blk s H scope (compEnvC scope cl C X.env) fp) ifs tt)
    (he : ∀ (s : Shared) (H : Hp) (C : Addr) (cl : List (Str × Addr)) (fp : List Addr), PD (X.blk s H scope (compEnvC scope cl C X.env) fp) elt te)
    (hw : ∀ Wx σ H Q, σ.length = X.N.length → lE X.K Wx w σ H Q → tLc (lI X.K Wx wi) (lG X.K X.N.length (own.map (·.2)) t) (lT X.K (fun _ _ _ _ => False) tt) (lE X.K (fun _ _ _ _ => False) te) (own.map (·.2)) σ H Q)
    (hs : ∀ x, foldedSetIterable iter X.env x = pure x := by intro _; rfl) : PD X (.ListComp elt [⟨tg, iter, ifs, 0⟩] scope pos) w :=
  ⟨fun Wx tk => ⟨fun pins s σ H Q I h => (pe_lc hc hN (hi.run Wx tk) ok (fun s H C cl fp => (hg s H C cl fp).run) (fun s H C cl fp => (ht s H C cl fp).run _ takesF) (fun s H C cl fp => (he s H C cl fp).run _ takesF) hs).run pins s σ H Q I (hw Wx σ H Q I.len h)⟩⟩
theorem pd_lc (hc : X.calm = true) (hN : X.N.Nodup) (hi : PDi X tg iter wi) (ok : BlkOk X.N X.env.scope scope own)
    (hg : ∀ (s : Shared) (H : Hp) (C : Addr) (cl : List (Str × Addr)) (fp : List Addr), PDg (X.blk s H scope (compEnvC scope cl C X.env) fp) tg (own.map (·.2)) t) (ht : ∀ (s : Shared) (H : Hp) (C : Addr) (cl : List (Str × Addr)) (fp : List Addr), PDts (X.blk s H scope (compEnvC scope cl C X.env) fp) ifs tt)
    (he : ∀ (s : Shared) (H : Hp) (C : Addr) (cl : List (Str × Addr)) (fp : List Addr), PD (X.blk s H scope (compEnvC scope cl C X.env) fp) elt te)
    (hs : ∀ x, foldedSetIterable iter X.env x = pure x := by intro _; rfl) : PD X (.ListComp elt [⟨tg, iter, ifs, 0⟩] scope pos) (wLc wi t tt te (own.map (·.2))) := pd_lcW hc hN hi ok hg ht he (fun _ _ _ _ hl h => lc_lst hl h) hs
theorem pd_lcM (hc : X.calm = true) (hN : X.N.Nodup) (hi : PDi X tg iter wi) (ok : BlkOk X.N X.env.scope scope own)
    (hg : ∀ (s : Shared) (H : Hp) (C : Addr) (cl : List (Str × Addr)) (fp : List Addr), PDg (X.blk s H scope (compEnvC scope cl C X.env) fp) tg (own.map (·.2)) t) (ht : ∀ (s : Shared) (H : Hp) (C : Addr) (cl : List (Str × Addr)) (fp : List Addr), PDts (X.blk s H scope (compEnvC scope cl C X.env) fp) ifs tt)
    (he : ∀ (s : Shared) (H : Hp) (C : Addr) (cl : List (Str × Addr)) (fp : List Addr), PD (X.blk s H scope (compEnvC scope cl C X.env) fp) elt te)
    (hs : ∀ x, foldedSetIterable iter X.env x = pure x := by intro _; rfl) : PD X (.ListComp elt [⟨tg, iter, ifs, 0⟩] scope pos) (wLcM wi t tt te (own.map (·.2))) := pd_lcW hc hN hi ok hg ht he (fun _ _ _ _ hl h => lc_lstM hl h) hs
/-- x = [..] on one line -/
theorem pds_setLcW {w : WPe} (hc : X.calm = true) (hN : X.N.Nodup) (hy : X.N[i]? = some x) (hyl : X.env.scope.names.lookup x = some .local) {px : Pos}
    (hsw : swapsWith (.ListComp elt [⟨tg, iter, ifs, 0⟩] scope pos) (some (.Name x px)) pos2.line X.env = pure true) (hi : PDi X tg iter wi) (ok : BlkOk X.N X.env.scope scope own)
    (hg : ∀ (s : Shared) (H : Hp) (C : Addr) (cl : List (Str × Addr)) (fp : List Addr), PDg (X.blk s H scope (compEnvC scope cl C X.env) fp) tg (own.map (·.2)) t) (ht : ∀ (s : Shared) (H : Hp) (C : Addr) (cl : List (Str × Addr)) (fp : List Addr), PDts (X.blk s H scope (compEnvC scope cl C X.env) fp) ifs tt)
    (he : ∀ (s : Shared) (H : Hp) (C : Addr) (cl : List (Str × Addr)) (fp : List Addr), PD (X.blk s H scope (compEnvC scope cl C X.env) fp) elt te)
    (hw : ∀ Wx σ H Q, σ.length = X.N.length → lE X.K Wx w σ H Q → tLc (lI X.K Wx wi) (lG X.K X.N.length (own.map (·.2)) t) (lT X.K (fun _ _ _ _ => False) tt) (lE X.K (fun _ _ _ _ => False) te) (own.map (·.2)) σ H Q)
    (hs : ∀ x, foldedSetIterable iter X.env x = pure x := by intro _; rfl) : PDs X (.Assign [.Name x px] (.ListComp elt [⟨tg, iter, ifs, 0⟩] scope pos) pos2) (wSet i w) :=
  ⟨fun Wx tk => PS.imp (ps_setLc hc hN hy hyl hsw (hi.run Wx tk) ok (fun s H C cl fp => (hg s H C cl fp).run) (fun s H C cl fp => (ht s H C cl fp).run _ takesF) (fun s H C cl fp => (he s H C cl fp).run _ takesF) hs) fun D σ H ⟨W, env, S, q, ok, sl, hl, hww, cs⟩ =>
    hw Wx σ H _ hl ⟨W, env, S, _, _, ok, sl, hww, fun d S1 v W1 H1 h1 s1 ok1 r1 => cs.nx _ S1 _ W1 H1 h1 s1 ok1 ((sl.mono s1.vis).set (by rw [hl]; exact lt_of_some hy) r1) (by rw [List.length_set]; exact hl), CXc.of cs sl⟩⟩
theorem pds_setLc (hc : X.calm = true) (hN : X.N.Nodup) (hy : X.N[i]? = some x) (hyl : X.env.scope.names.lookup x = some .local) {px : Pos}
    (hsw : swapsWith (.ListComp elt [⟨tg, iter, ifs, 0⟩] scope pos) (some (.Name x px)) pos2.line X.env = pure true) (hi : PDi X tg iter wi) (ok : BlkOk X.N X.env.scope scope own)
    (hg : ∀ (s : Shared) (H : Hp) (C : Addr) (cl : List (Str × Addr)) (fp : List Addr), PDg (X.blk s H scope (compEnvC scope cl C X.env) fp) tg (own.map (·.2)) t) (ht : ∀ (s : Shared) (H : Hp) (C : Addr) (cl : List (Str × Addr)) (fp : List Addr), PDts (X.blk s H scope (compEnvC scope cl C X.env) fp) ifs tt)
    (he : ∀ (s : Shared) (H : Hp) (C : Addr) (cl : List (Str × Addr)) (fp : List Addr), PD (X.blk s H scope (compEnvC scope cl C X.env) fp) elt te)
    (hs : ∀ x, foldedSetIterable iter X.env x = pure x := by intro _; rfl) : PDs X (.Assign [.Name x px] (.ListComp elt [⟨tg, iter, ifs, 0⟩] scope pos) pos2) (wSet i (wLc wi t tt te (own.map (·.2)))) :=
  pds_setLcW hc hN hy hyl hsw hi ok hg ht he (fun _ _ _ _ hl h => lc_lst hl h) hs
theorem pds_setLcM (hc : X.calm = true) (hN : X.N.Nodup) (hy : X.N[i]? = some x) (hyl : X.env.scope.names.lookup x = some .local) {px : Pos}
    (hsw : swapsWith (.ListComp elt [⟨tg, iter, ifs, 0⟩] scope pos) (some (.Name x px)) pos2.line X.env = pure true) (hi : PDi X tg iter wi) (ok : BlkOk X.N X.env.scope scope own)
    (hg : ∀ (s : Shared) (H : Hp) (C : Addr) (cl : List (Str × Addr)) (fp : List Addr), PDg (X.blk s H scope (compEnvC scope cl C X.env) fp) tg (own.map (·.2)) t) (ht : ∀ (s : Shared) (H : Hp) (C : Addr) (cl : List (Str × Addr)) (fp : List Addr), PDts (X.blk s H scope (compEnvC scope cl C X.env) fp) ifs tt)
    (he : ∀ (s : Shared) (H : Hp) (C : Addr) (cl : List (Str × Addr)) (fp : List Addr), PD (X.blk s H scope (compEnvC scope cl C X.env) fp) elt te)
    (hs : ∀ x, foldedSetIterable iter X.env x = pure x := by intro _; rfl) : PDs X (.Assign [.Name x px] (.ListComp elt [⟨tg, iter, ifs, 0⟩] scope pos) pos2) (wSet i (wLcM wi t tt te (own.map (·.2)))) :=
  pds_setLcW hc hN hy hyl hsw hi ok hg ht he (fun _ _ _ _ hl h => lc_lstM hl h) hs
end
end DL
set_option Elab.async false
set_option linter.all false
set_option maxRecDepth 100000
set_option maxHeartbeats 1000000
/-! The data layer, part h: contracts of defs by name. -/
namespace DL
open PySem PySem.Spec PyProof.Rows L2

def DefAt (K : PySem.W.Frag) (mg : Str → Option Value) (x qual : Str) (st : Stmt) (ps : List Str) : Prop := ∃ f fd, Fun K x qual st f fd ∧ mg x = some (.ref f) ∧ Binds K fd ps []
def MetAt (K : PySem.W.Frag) (C : Addr) (m qual : Str) (st : Stmt) (ps : List Str) : Prop := ∃ f fd, Fun K m qual st f fd ∧ Meth K C m f ∧ Binds K fd ps []
def MkAt (K : PySem.W.Frag) (C : Addr) (qual : Str) (st : Stmt) (ps : List Str) : Prop := ∃ f fd, Fun K "__init__" qual st f fd ∧ Mk K C f ∧ Binds K fd ps []
section
variable (P : Program) (w : World) (K : PySem.W.Frag) (mg : Str → Option Value) (base : Heap)
def FnC (k : Nat) (x : Str) (ps : List Str) (spec : Ctr) : Prop := ∃ f fd, FnD P w K mg base k f fd ps spec ∧ mg x = some (.ref f) ∧ PySem.W.keepIn K (.ref f) = true ∧ Binds K fd ps []
def MtC (C : Addr) (k : Nat) (m : Str) (ps : List Str) (spec : Ctr) : Prop := ∃ f fd, FnD P w K mg base k f fd ps spec ∧ Meth K C m f ∧ Binds K fd ps []
def MkC (C : Addr) (k : Nat) (ps : List Str) (spec : Ctr) : Prop := ∃ f fd, FnD P w K mg base k f fd ps spec ∧ Mk K C f ∧ Binds K fd ps []
end
/-- what a body is to end in -/
def endQ (Q : Qd) (X1 : XQ) : QS := { nx := fun _ S' => Q .non S', rt := Q, bk := fun _ _ => False, ct := fun _ _ => False, xc := fun C fs _ S' => X1 C fs S' }
section
variable {P : Program} {w : World} {K : PySem.W.Frag} {mg : Str → Option Value} {base : Heap} {x qual : Str} {st : Stmt} {N ps : List Str} {k : Nat} {spec : Ctr} {ws : WPs} {C : Addr}
theorem fnd_mk {f : Addr} {fd : FuncData} (F : Fun K x qual st f fd) (S : FnScope N ps (defScope st)) (hle : ps.length ≤ N.length) (len : ∀ ds S Q E, spec ds S Q E → ds.length = ps.length)
    (hd : ∀ (f : Addr) (cdv : Value) (A : Around) (outer : List Env) (s : Shared) (H : Hp) (E : XK), Room k (A.deeper (envOfC qual (defScope st) s.heap.objs.size f cdv)) → PDss (cxOf (L2.CX P w) P w K mg base N qual (defScope st) f cdv A outer s H E) (defBody st) ws)
    (hr : ∀ ds S Q X1, spec ds S Q X1 → ws (startD N ds) S (endQ Q X1)) : FnD P w K mg base (k + 1) f fd ps spec :=
  Fun.okD F S hle len fun cdv A outer s H E hrm => ⟨ws, hd f cdv A outer s H E hrm, hr⟩
theorem FnC.mk (D : DefAt K mg x qual st ps) (S : FnScope N ps (defScope st)) (hle : ps.length ≤ N.length) (len : ∀ ds S Q E, spec ds S Q E → ds.length = ps.length)
    (hd : ∀ (f : Addr) (cdv : Value) (A : Around) (outer : List Env) (s : Shared) (H : Hp) (E : XK), Room k (A.deeper (envOfC qual (defScope st) s.heap.objs.size f cdv)) → PDss (cxOf (L2.CX P w) P w K mg base N qual (defScope st) f cdv A outer s H E) (defBody st) ws)
    (hr : ∀ ds S Q X1, spec ds S Q X1 → ws (startD N ds) S (endQ Q X1)) : FnC P w K mg base (k + 1) x ps spec := by
  obtain ⟨f, fd, F, hm, hb⟩ := D
  exact ⟨f, fd, fnd_mk F S hle len hd hr, hm, F.kp, hb⟩
theorem MtC.mk {m : Str} (D : MetAt K C m qual st ps) (S : FnScope N ps (defScope st)) (hle : ps.length ≤ N.length) (len : ∀ ds S Q E, spec ds S Q E → ds.length = ps.length)
    (hd : ∀ (f : Addr) (cdv : Value) (A : Around) (outer : List Env) (s : Shared) (H : Hp) (E : XK), Room k (A.deeper (envOfC qual (defScope st) s.heap.objs.size f cdv)) → PDss (cxOf (L2.CX P w) P w K mg base N qual (defScope st) f cdv A outer s H E) (defBody st) ws)
    (hr : ∀ ds S Q X1, spec ds S Q X1 → ws (startD N ds) S (endQ Q X1)) : MtC P w K mg base C (k + 1) m ps spec := by
  obtain ⟨f, fd, F, hm, hb⟩ := D
  exact ⟨f, fd, fnd_mk F S hle len hd hr, hm, hb⟩
theorem MkC.mk (D : MkAt K C qual st ps) (S : FnScope N ps (defScope st)) (hle : ps.length ≤ N.length) (len : ∀ ds S Q E, spec ds S Q E → ds.length = ps.length)
    (hd : ∀ (f : Addr) (cdv : Value) (A : Around) (outer : List Env) (s : Shared) (H : Hp) (E : XK), Room k (A.deeper (envOfC qual (defScope st) s.heap.objs.size f cdv)) → PDss (cxOf (L2.CX P w) P w K mg base N qual (defScope st) f cdv A outer s H E) (defBody st) ws)
    (hr : ∀ ds S Q X1, spec ds S Q X1 → ws (startD N ds) S (endQ Q X1)) : MkC P w K mg base C (k + 1) ps spec := by
  obtain ⟨f, fd, F, hm, hb⟩ := D
  exact ⟨f, fd, fnd_mk F S hle len hd hr, hm, hb⟩
/-- a promise for no arguments at all: where a recursion begins -/
theorem FnC.zero (D : DefAt K mg x qual st ps) : FnC P w K mg base k x ps (fun _ _ _ _ => False) := by
  obtain ⟨f, fd, F, hm, hb⟩ := D
  exact ⟨f, fd, ⟨fun vs H Q E ⟨_, _, _, _, _, _, _, h, _⟩ => h.elim, fun A outer s H args us vs Q E _ _ _ _ ⟨_, _, _, _, _, _, _, h, _⟩ => h.elim⟩, hm, F.kp, hb⟩
theorem FnD.imp {f : Addr} {fd : FuncData} {spec' : Ctr} (F : FnD P w K mg base k f fd ps spec) (h : ∀ ds S Q X1, spec' ds S Q X1 → spec ds S Q X1) : FnD P w K mg base k f fd ps spec' :=
  FnOk.imp F fun vs H Q E ⟨W, S, ds, Q0, X1, ok, r, hs, cv, cx⟩ => ⟨W, S, ds, Q0, X1, ok, r, h _ _ _ _ hs, cv, cx⟩
theorem FnC.imp {spec' : Ctr} (F : FnC P w K mg base k x ps spec) (h : ∀ ds S Q X1, spec' ds S Q X1 → spec ds S Q X1) : FnC P w K mg base k x ps spec' := by
  obtain ⟨f, fd, F, a⟩ := F
  exact ⟨f, fd, FnD.imp F h, a⟩
theorem FnC.mono {k' : Nat} (F : FnC P w K mg base k x ps spec) (h : k ≤ k') : FnC P w K mg base k' x ps spec := by
  obtain ⟨f, fd, F, a⟩ := F
  exact ⟨f, fd, FnOk.mono F h, a⟩
end
section
variable {X : Cx} {k : Nat} {C : Addr} {ps : List Str} {spec : Ctr} {x m : Str} {p pos apos : Pos} {e o : Expr} {es : List Expr} {wo : WPe} {wa : WPa}
theorem pd_fn (G : FnC X.prog X.w X.K X.mg X.base k x ps spec) (hr : Room k X.A) (ha : PDa X (e :: es) wa) (hg : Gl X x := by rfl) (hdb : (x == ("__debug__" : Str)) = false := by decide)
    (he : starEach (e :: es) X.env = (false, eval e X.env) :: starEach es X.env := by rfl) (hpl : (backTo pos (starEach es X.env)).any (·.1) = false := by rfl) : PD X (.Call (.Name x p) (e :: es) [] pos) (wCall spec wa) := by
  obtain ⟨f, fd, F, hm, hk, hb⟩ := G
  exact pd_call F hr hm hk hb ha hg hdb he hpl
theorem pd_fn0 (G : FnC X.prog X.w X.K X.mg X.base k x ps spec) (hr : Room k X.A) (hg : Gl X x := by rfl) (hdb : (x == ("__debug__" : Str)) = false := by decide) : PD X (.Call (.Name x p) [] [] pos) (wCall spec wNil) := by
  obtain ⟨f, fd, F, hm, hk, hb⟩ := G
  exact pd_call0 F hr hm hk hb hg hdb
theorem pd_mt {N : List Str} {pl : Sem Bool} (c : Cls X.K C) (G : MtC X.prog X.w X.K X.mg X.base C k m ps spec) (hN : m ∉ N) (hr : Room k X.A) (ho : PD X o wo) (ha : PDa X (e :: es) wa)
    (hst : starEach (e :: es) X.env = (false, eval e X.env) :: starEach es X.env := by rfl) (hpl : (backTo pos (starEach es X.env)).any (·.1) = false := by rfl)
    (ht : eval (.Call (.Attribute o m apos) (e :: es) [] pos) X.env = (do
      let ov ← eval o X.env
      standAt apos.atName
      let (f, first) ← holding [ov] (getMethod ov m pl)
      callWith pos f first (backTo pos (starEach (e :: es) X.env)) (backToKw pos (keywordEach [] X.env))) := by rfl) : PD X (.Call (.Attribute o m apos) (e :: es) [] pos) (wMeth C N spec wo wa) := by
  obtain ⟨f, fd, F, hm, hb⟩ := G
  exact pd_meth c hm hN F hr hb ho ha hst hpl ht
theorem pd_mt0 {N : List Str} {pl : Sem Bool} (c : Cls X.K C) (G : MtC X.prog X.w X.K X.mg X.base C k m ps spec) (hN : m ∉ N) (hr : Room k X.A) (ho : PD X o wo)
    (ht : eval (.Call (.Attribute o m apos) [] [] pos) X.env = (do
      let ov ← eval o X.env
      standAt apos.atName
      let (f, first) ← holding [ov] (getMethod ov m pl)
      callWith pos f first (backTo pos (starEach [] X.env)) (backToKw pos (keywordEach [] X.env))) := by rfl) : PD X (.Call (.Attribute o m apos) [] [] pos) (wMeth C N spec wo wNil) := by
  obtain ⟨f, fd, F, hm, hb⟩ := G
  exact pd_meth0 c hm hN F hr hb ho ht
theorem pd_mk {N : List Str} (G : MkC X.prog X.w X.K X.mg X.base C k ps spec) (hm : X.mg x = some (.ref C)) (hN : N.Nodup) (hl : N.length ≤ 900) (hr : Room (k + 1) X.A) (ha : PDa X (e :: es) wa) (hg : Gl X x := by rfl) (hdb : (x == ("__debug__" : Str)) = false := by decide)
    (he : starEach (e :: es) X.env = (false, eval e X.env) :: starEach es X.env := by rfl) (hpl : (backTo pos (starEach es X.env)).any (·.1) = false := by rfl) : PD X (.Call (.Name x p) (e :: es) [] pos) (wMake C N spec wa) := by
  obtain ⟨f, fd, F, M, hb⟩ := G
  exact pd_make M hN hl F hr hm hb ha hg hdb he hpl
end
end DL
set_option Elab.async false
set_option linter.all false
set_option maxRecDepth 100000
set_option maxHeartbeats 1000000
/-! The data layer, part i: forms of data, their equality; words that reduce a reading. -/
namespace DL
open PySem PySem.Spec PyProof.Rows L2

/-! ### data of a depth -/
def okP (n : Nat) (p : PyData) : Prop := p.canLay0 = true ∧ p.depth ≤ n
theorem okP_int {n : Nat} {i : Int} : okP n (.int i) := ⟨rfl, Nat.zero_le _⟩
theorem okP_bool {n : Nat} {i : Bool} : okP n (.bool i) := ⟨rfl, Nat.zero_le _⟩
theorem okP_none {n : Nat} : okP n .none := ⟨rfl, Nat.zero_le _⟩
theorem okP_all {n : Nat} : ∀ {xs : List D}, (∀ x, x ∈ xs → okP n (toP x)) → PyData.canLayAll0 (toPs xs) = true ∧ PyData.depthAll (toPs xs) ≤ n
  | [], _ => ⟨rfl, Nat.zero_le _⟩
  | x :: r, h => by
    obtain ⟨a, b⟩ := h x List.mem_cons_self
    obtain ⟨c, d⟩ := okP_all (xs := r) fun y hy => h y (List.mem_cons_of_mem _ hy)
    refine ⟨?_, ?_⟩
    · show (PyData.canLay0 (toP x) && PyData.canLayAll0 (toPs r)) = true
      rw [a, c]; rfl
    · show max (PyData.depth (toP x)) (PyData.depthAll (toPs r)) ≤ n
      exact Nat.max_le.mpr ⟨b, d⟩
theorem okP_lst {n : Nat} {xs : List D} (h : ∀ x, x ∈ xs → okP n (toP x)) : okP (n + 1) (toP (.lst xs)) := ⟨(okP_all h).1, Nat.succ_le_succ (okP_all h).2⟩
theorem okP_tup {n : Nat} {xs : List D} (h : ∀ x, x ∈ xs → okP n (toP x)) : okP (n + 1) (toP (.tup xs)) := ⟨(okP_all h).1, Nat.succ_le_succ (okP_all h).2⟩
theorem okP_mono {n m : Nat} {p : PyData} (h : okP n p) (e : n ≤ m) : okP m p := ⟨h.1, Nat.le_trans h.2 e⟩
theorem shaped_of {n : Nat} {p : PyData} (h : okP n p) (e : n ≤ 64) : SeqAt.shaped p = true := by
  unfold SeqAt.shaped
  rw [h.1, decide_eq_true (Nat.le_trans h.2 e)]; rfl
theorem eqvAll_map {α : Type} [DecidableEq α] {f : α → D} (hf : ∀ a b, PyData.eqv (toP (f a)) (toP (f b)) = decide (a = b)) : ∀ xs ys : List α, PyData.eqvAll (toPs (xs.map f)) (toPs (ys.map f)) = decide (xs = ys)
  | [], [] => by simp [toPs, PyData.eqvAll]
  | [], _ :: _ => by simp [toPs, PyData.eqvAll]
  | _ :: _, [] => by simp [toPs, PyData.eqvAll]
  | a :: r, b :: s => by
    show (PyData.eqv (toP (f a)) (toP (f b)) && PyData.eqvAll (toPs (r.map f)) (toPs (s.map f))) = _
    rw [hf, eqvAll_map hf r s]
    by_cases h1 : a = b <;> by_cases h2 : r = s <;> simp [h1, h2]
/-! ### rows of ints -/
def dL (xs : List Int) : D := .lst (xs.map D.int)
def dT (xs : List Int) : D := .tup (xs.map D.int)
/-- a row of ints as a tuple (true) or a list -/
def dR (k : Bool) (xs : List Int) : D := if k = true then dT xs else dL xs
/-- rows as a tuple or a list of tuples or lists -/
def rows (k j : Bool) (xs : List (List Int)) : D := if k = true then .tup (xs.map (dR j)) else .lst (xs.map (dR j))
theorem eqv_int (a b : Int) : PyData.eqv (toP (.int a)) (toP (.int b)) = decide (a = b) := by
  show (a == b) = _
  rw [Bool.beq_eq_decide_eq]
theorem eqv_dL (a b : List Int) : PyData.eqv (toP (dL a)) (toP (dL b)) = decide (a = b) := eqvAll_map eqv_int a b
theorem eqv_dT (a b : List Int) : PyData.eqv (toP (dT a)) (toP (dT b)) = decide (a = b) := eqvAll_map eqv_int a b
theorem okP_ints {xs : List Int} : ∀ x, x ∈ xs.map D.int → okP 0 (toP x) := fun x h => by
  obtain ⟨i, _, rfl⟩ := List.mem_map.mp h
  exact okP_int
theorem okP_dL {xs : List Int} : okP 1 (toP (dL xs)) := okP_lst okP_ints
theorem okP_dT {xs : List Int} : okP 1 (toP (dT xs)) := okP_tup okP_ints
theorem seqA_dR {S : Sto} {k : Bool} {xs : List Int} : seqA S (dR k xs) = some (xs.map D.int) := by cases k <;> rfl
theorem seqA_rows {S : Sto} {k j : Bool} {xs : List (List Int)} : seqA S (rows k j xs) = some (xs.map (dR j)) := by cases k <;> rfl
section
variable {S : Sto} {a b : List Int} {i j : Int} {p q : Bool}
theorem shD_int : shD S (.int i) = true := rfl
theorem shD_bl : shD S (.bl p) = true := rfl
theorem shD_non : shD S .non = true := rfl
theorem shD_dL : shD S (dL a) = true := shaped_of okP_dL (by decide)
theorem shD_dT : shD S (dT a) = true := shaped_of okP_dT (by decide)
theorem shD_lst : shD S (.lst (a.map D.int)) = true := shaped_of okP_dL (by decide)
theorem shD_tup : shD S (.tup (a.map D.int)) = true := shaped_of okP_dT (by decide)
theorem eqD_int : eqD S (.int i) (.int j) = decide (i = j) := eqv_int i j
theorem eqD_bl : eqD S (.bl p) (.bl q) = (p == q) := rfl
theorem eqD_dL : eqD S (dL a) (dL b) = decide (a = b) := eqv_dL a b
theorem eqD_dT : eqD S (dT a) (dT b) = decide (a = b) := eqv_dT a b
theorem eqD_lst : eqD S (.lst (a.map D.int)) (.lst (b.map D.int)) = decide (a = b) := eqv_dL a b
theorem eqD_tup : eqD S (.tup (a.map D.int)) (.tup (b.map D.int)) = decide (a = b) := eqv_dT a b
end
/-! ### slices of rows of ints -/
def cutI (xs : List Int) (lo hi : Option Int) : List Int := (xs.drop (HT.sIx xs.length 0 lo)).take (HT.sIx xs.length xs.length hi - HT.sIx xs.length 0 lo)
theorem cutD_int {xs : List Int} {lo hi : Option Int} : cutD (xs.map D.int) lo hi = (cutI xs lo hi).map D.int := by
  unfold cutD cutI
  rw [List.length_map, List.map_take, List.map_drop]
theorem sIx_pos {n d : Nat} {i : Int} (h : 0 ≤ i) : HT.sIx n d (some i) = min i.toNat n := by
  obtain ⟨k, rfl⟩ := Int.eq_ofNat_of_zero_le h
  rw [HT.sIx_nat]
  simp
theorem cutI_from {xs : List Int} {i : Int} (h : 0 ≤ i) : cutI xs (some i) none = xs.drop i.toNat := by
  unfold cutI
  rw [sIx_pos h, HT.sIx_none]
  by_cases q : i.toNat ≤ xs.length
  · rw [Nat.min_eq_left q, List.take_of_length_le]
    rw [List.length_drop]; exact Nat.le_refl _
  · rw [Nat.min_eq_right (by omega), List.drop_length, List.drop_eq_nil_of_le (by omega), List.take_nil]
theorem cutI_to {xs : List Int} {i : Int} (h : 0 ≤ i) : cutI xs none (some i) = xs.take i.toNat := by
  unfold cutI
  rw [sIx_pos h, HT.sIx_none, List.drop_zero, Nat.sub_zero]
  by_cases q : i.toNat ≤ xs.length
  · rw [Nat.min_eq_left q]
  · rw [Nat.min_eq_right (by omega), List.take_length, List.take_of_length_le (by omega)]
theorem cutI_both {xs : List Int} {i j : Int} (h : 0 ≤ i) (h2 : 0 ≤ j) : cutI xs (some i) (some j) = (xs.drop i.toNat).take (j.toNat - i.toNat) := by
  unfold cutI
  rw [sIx_pos h, sIx_pos h2]
  generalize i.toNat = a
  generalize j.toNat = b
  by_cases q : a ≤ xs.length
  · rw [Nat.min_eq_left q]
    by_cases q2 : b ≤ xs.length
    · rw [Nat.min_eq_left q2]
    · rw [Nat.min_eq_right (Nat.le_of_not_le q2), List.take_of_length_le (by rw [List.length_drop]; exact Nat.le_refl _), List.take_of_length_le (by rw [List.length_drop]; omega)]
  · rw [Nat.min_eq_right (Nat.le_of_not_le q), List.drop_length, List.drop_eq_nil_of_le (by omega), List.take_nil, List.take_nil]
end DL
set_option Elab.async false
set_option linter.all false
set_option maxRecDepth 100000
set_option maxHeartbeats 1000000
/-! The data layer, part j: the law's own head. -/
namespace DL
open PySem PySem.Spec PyProof.Rows L2
theorem cx_no {P : Program} {w : World} {o : List Env} {H : Hp} {s s' : Shared} {e : Value} (h : L2.CX P w o H s (fun _ _ _ => False) e s') : False := by
  obtain ⟨_, _, _, _, _, _, _, _, _, _, _, _, h⟩ := h
  exact h
/-- what is asked of the law: true, whatever else it leaves -/
def spScript : Ctr := fun ds S Q _ => ∃ cells : List Int, ds = [.fro (cells.map D.int)] ∧ cells.length ≤ 63 ∧ ∀ S', Q (.bl true) S'
theorem spScript_at {K : PySem.W.Frag} {H : Hp} {a : Addr} {ns : List Int} {E : XK} (hl : ns.length ≤ 63) (hS : SqL K H a (ns.map V.int)) : lSp K spScript [.ref a] H (fun v _ => v = .bl true) E :=
  ⟨H, fun _ => none, [.fro (ns.map D.int)], fun d _ => d = .bl true, X0, ⟨Same.refl H, (fun _ _ h => nomatch h), (fun _ _ h => nomatch h)⟩, ⟨_, _, rfl, ⟨a, _, rfl, hS, reps_ints⟩, rfl⟩, ⟨ns, rfl, hl, fun _ => rfl⟩,
    fun d S' v W' H' h _ _ r => by subst h; exact r, CXc.no⟩
end DL
set_option Elab.async false
set_option linter.all false
set_option maxRecDepth 100000
set_option maxHeartbeats 2000000
/-! The data layer, part k: enumerate of tuples. -/
namespace DL
open PySem PySem.Spec PyProof.Rows L2
abbrev itObj (a : Addr) : Obj := { cls := .type "tuple_iterator", data := .fields #[.ref a, .int 0 0] }
abbrev enObj (i : Addr) : Obj := { cls := .type "enumerate", data := .fields #[.none, .bool false, .ref i, rawInt 0, .none, .none] }
theorem enumT_meets (a : Addr) (xs : Array Value) (m : Nat) (od : Option Addr) (sl : Array (Option Value)) :
    Meets (Builtin.«enumerate.__new__» ⟨[.type "enumerate", .ref a], []⟩) (fun _ R s => s.heap.get? a = some { cls := .type "tuple", dict := od, data := .seq xs m, slots := sl } ∧
      R (.ok (.ret (.ref (s.heap.push (itObj a)).objs.size))) { s with heap := (s.heap.push (itObj a)).push (enObj s.heap.objs.size) }) :=
  .of_wp fun prog w A R s q => by
    obtain ⟨hp, gg, dr, tk, os⟩ := s
    obtain ⟨ha, q⟩ := q
    have hsub := sub_enumerate
    have hT : Heap.IsTuple (Shared.heap ⟨hp, gg, dr, tk, os⟩) a xs := ⟨_, ha, rfl, m, rfl⟩
    wp_walk using wpAny_loadPart' ha
    refine wpAny_stack_any fun st => wpAny_pure ?_
    split
    · rename_i c _ _ _ _ _
      cases (c == Value.type "enumerate")
      all_goals
        wp_walk using wpAny_loadPart' ha, wpAny_pyIter_tuple hT
        exact ⟨_, rfl, q⟩
    · wp_walk using wpAny_loadPart' ha, wpAny_pyIter_tuple hT
      exact ⟨_, rfl, q⟩
theorem call_enumT {prog : Program} {w : World} {A : Around} {E : Value → Shared → Prop} {s : Shared} {a : Addr} {xs : Array Value} {Q : Value → Shared → Prop} (hT : s.heap.IsTuple a xs)
    (q : ∀ h', IsEnum h' (s.heap.objs.size + 1) s.heap.objs.size 0 .none → h'.IsTupleIter s.heap.objs.size a 0 → (∀ b o, s.heap.get? b = some o → h'.get? b = some o) → Q (.ref (s.heap.objs.size + 1)) { s with heap := h' }) :
    wpAny (model prog w) A (call (.type "enumerate") [.ref a]) Q E s := by
  obtain ⟨⟨c, od, dt, sl⟩, ha, hc, m, hd⟩ := hT
  replace hc : c = .type "tuple" := hc
  replace hd : dt = .seq xs m := hd
  subst hc hd
  refine callType_new F.called_enumerate (by decide) (F.typeCall_enumerate_1 _) (F.newCall_enumerate_1 _) (fun obj => F.args_object_init_2 obj _) F.entry_enumerate_new (enumT_meets a xs m od sl) ⟨ha, ?_⟩
  have hz : (s.heap.push (itObj a)).objs.size = s.heap.objs.size + 1 := Heap.size_push ..
  show _ ∧ _
  rw [hz]
  have he : IsEnum ((s.heap.push (itObj a)).push (enObj s.heap.objs.size)) (s.heap.objs.size + 1) s.heap.objs.size 0 .none := by
    have z := Heap.get?_push_size (s.heap.push (itObj a)) (o := enObj s.heap.objs.size) rfl
    rw [hz] at z
    exact z
  exact ⟨⟨_, he, rfl⟩, q _ he ⟨_, Heap.get?_push_of_some _ (Heap.get?_push_size _ rfl), rfl, rfl⟩ fun b o x => Heap.get?_push_of_some _ (Heap.get?_push_of_some _ x)⟩
/-- the tuple at a, each item in a new pair -/
def IteT (K : PySem.W.Frag) (a : Addr) : It :=
  ⟨fun i H => ∃ (xs : List V) (x : V), SqT K H a xs ∧ xs[i]? = some x, fun i H v H' => ∃ T x, v = .ref T ∧ H T = none ∧ H' = upd H T (.tup [.int (i : Nat), x]) ∧ ∀ xs, SqT K H a xs → xs[i]? = some x, fun i H => ∃ xs : List V, SqT K H a xs ∧ xs.length = i⟩
theorem turn_enumT {P : Program} {w : World} {K : PySem.W.Frag} {elts : List Expr} {kk : Nat} {tpos : Pos} (a e it : Addr) :
    Turn P w K (.Tuple elts kk tpos) (IteT K a) [e, it] e (fun i h => (∃ old, IsEnum h e it ((i : Nat) : Int) old) ∧ h.IsTupleIter it a i ∧ e ≠ it ∧ a ≠ it ∧ e ≠ a) where
  mem := by simp
  obj := fun i h st b hb => by
    obtain ⟨⟨old, he⟩, ⟨o, ho, hc, hd⟩, _⟩ := st
    rcases (show b = e ∨ b = it by simpa using hb) with z | z
    · rw [z]; exact ⟨_, he, fun v q => nomatch q⟩
    · rw [z]; exact ⟨o, ho, fun v q => by rw [hd] at q; cases q⟩
  keep := fun i h h' st k => let ⟨⟨old, he⟩, hi, hne⟩ := st; ⟨⟨old, k e (by simp) _ he⟩, hi.at fun o q => k it (by simp) o q, hne⟩
  item := by
    intro X hP hw hK hc i pins s σ H E I hf st hg
    subst hP hw hK
    obtain ⟨⟨old, he⟩, hit, n1, n2, n3⟩ := st
    obtain ⟨xs, x, hq, hx⟩ := hg
    obtain ⟨its, rv, p, hz⟩ := I.tuple hq
    obtain ⟨u, hu, ru⟩ := rv.get hx
    have hel : e < s.heap.objs.size := Heap.lt_size he
    have hil : it < s.heap.objs.size := by obtain ⟨_, q, _⟩ := hit; exact Heap.lt_size q
    have hil2 : i < its.toArray.size := by
      have := lt_of_some hu
      simpa using this
    have hh : X.A.in1.handled = Option.none := I.ok.hd hc
    refine wpAny_pyNext_enum_itemD (Draws.tuple hh it a n2 its.toArray) he ⟨hit, (show s.heap.IsTuple a its.toArray from p)⟩ hil2 n1 (by simp [n1, n3]) fun x' h' tk hPx ho hst hT hsz hk => ?_
    have ex : x' = u := by
      have h1 : its[i]? = some x' := by simpa using hPx
      rw [hu] at h1
      exact (Option.some.inj h1).symm
    subst ex
    refine ⟨_, rfl, wpAny_letOwnedTupleGo_enum (s := { s with heap := h', toks := tk + 1 }) ho fun h'' he' sb => ?_⟩
    have hT2 : h''.get? s.heap.objs.size = some { cls := .type "tuple", data := .seq #[.int i tk, x'] } := (sb.2 _ (Nat.ne_of_gt hel)).trans hT
    have new : ObjOk X.prog X.w (upd H s.heap.objs.size (.tup [.int (i : Nat), x])) h'' s.heap.objs.size (.tup [.int (i : Nat), x]) :=
      ⟨by show 2 ≤ sizeLine; decide, [.int i tk, x'], .cons ⟨_, rfl⟩ (.cons ru .nil), ⟨_, hT2, rfl, _, rfl⟩⟩
    have I1 : Inv X pins σ (upd H s.heap.objs.size (.tup [.int (i : Nat), x])) { s with heap := h'', toks := tk + 1 } :=
      I.turnedNew (ch := [e, it]) (fun b ob hb q => (sb.2 b (fun z => hb (by simp [z]))).trans (hk b ob (fun z => hb (by simp [z])) (fun z => hb (by simp [z])) q)) hf (Nat.le_refl _) new
    refine ⟨.ref s.heap.objs.size, _, I1, rfl, ⟨_, x, rfl, I.hok.fresh (Nat.le_refl _), rfl, fun ys hy => by rw [I.tuple_inj hy hq]; exact hx⟩, ⟨⟨x', ?_⟩, hst.1.at fun o q => (sb.2 it (Ne.symm n1)).trans q, n1, n2, n3⟩, fun b hb => ?_⟩
    · have e1 : ((i + 1 : Nat) : Int) = (i : Int) + 1 := by omega
      rw [e1]; exact he'
    · have hb' : b < s.heap.objs.size := by
        rcases (show b = e ∨ b = it by simpa using hb) with z | z
        · rw [z]; exact hel
        · rw [z]; exact hil
      rw [upd_ne (Nat.ne_of_lt hb')]
      exact (hf b hb).1
  done := by
    intro X hP hw hK hc i pins s σ H E I hf st hg
    subst hP hw hK
    obtain ⟨⟨old, he⟩, hit, n1, n2, n3⟩ := st
    obtain ⟨xs, hq, hx⟩ := hg
    obtain ⟨its, rv, p, hz⟩ := I.tuple hq
    obtain ⟨f0, f1, f2, f3, f4, f5⟩ := hf it (by simp)
    have hl := rv.length
    have hh : X.A.in1.handled = Option.none := I.ok.hd hc
    have ei : i = its.toArray.size := by simp; omega
    subst ei
    exact wpAny_pyNext_enum_endD (Draws.tuple hh it a n2 its.toArray) he ⟨hit, (show s.heap.IsTuple a its.toArray from p)⟩ fun h' eb => ⟨rfl, I.turned (t' := s.toks) (fun b o hb q => eb b o hb q) f0 f1 f3 f4 f5⟩
  self := fun A i s Q E st h => let ⟨⟨_, he⟩, _⟩ := st; wpAny_pyIter_enum he h
end DL
set_option Elab.async false
set_option linter.all false
set_option maxRecDepth 100000
set_option maxHeartbeats 1000000
/-! The data layer, part l: enumerate, constants, isinstance of several, pop at a place, a list repeated, calls by keyword. -/
namespace DL
open PySem PySem.Spec PyProof.Rows L2
section
/-- pairs of a place and an item -/
def enumD : Nat → List D → List D
  | _, [] => []
  | j, x :: r => .tup [.int (j : Int), x] :: enumD (j + 1) r
theorem enumD_get : ∀ {j : Nat} {xs : List D} {i : Nat} {d : D}, (enumD j xs)[i]? = some d → ∃ x, xs[i]? = some x ∧ d = .tup [.int ((j + i : Nat) : Int), x]
  | _, [], _, _, h => by simp [enumD] at h
  | j, x :: r, 0, d, h => ⟨x, rfl, (Option.some.inj h).symm⟩
  | j, x :: r, i + 1, d, h => by
    obtain ⟨y, h1, h2⟩ := enumD_get (j := j + 1) (xs := r) (i := i) h
    exact ⟨y, h1, by rw [h2]; congr 3; omega⟩
theorem enumD_length : ∀ {j : Nat} {xs : List D}, (enumD j xs).length = xs.length
  | _, [] => rfl
  | j, x :: r => congrArg (· + 1) (enumD_length (j := j + 1) (xs := r))
def wEnum (w : WPe) : WPi := fun env S Q X => w env S (fun d S1 => some! (seqA S1 d) fun xs => Q (enumD 0 xs) (fun S' => seqA S' d = some xs) S1) X
def iEnA (K : PySem.W.Frag) (ta : TA) : TI := fun σ H R => ta σ H fun vs H1 => ∃ a, vs = [.ref a] ∧ (((∃ xs, SqL K H1 a xs) ∧ R (Ite K a) H1) ∨ ((∃ xs, SqT K H1 a xs) ∧ R (IteT K a) H1))
theorem pi_enA {X : Cx} {e : Expr} {ta : TA} {p pos tpos : Pos} {elts : List Expr} {kk : Nat} (hg : Gl X "enumerate") (hm : X.mg "enumerate" = none) (ha : PA X [e] ta) (hs : starEach [e] X.env = [(false, eval e X.env)] := by rfl) :
    PI X (.Tuple elts kk tpos) (.Call (.Name "enumerate" p) [e] [] pos) (iEnA X.K ta) := by
  refine ⟨fun pins s σ H R I h => ?_⟩
  refine Call_ (ld_blt I hg hm boot_enumerate (PyProof.Rows.callWith_type1 (thn (ha.run pos pins s σ H _ I h) fun us s1 ⟨vs, H1, I1, r1, a, ev, q1⟩ => ?_) hs rfl))
  subst ev
  cases r1 with
  | cons r rr =>
    cases rr
    cases r
    have fpk : ∀ b, b ∈ [s1.heap.objs.size + 1, s1.heap.objs.size] → FpOk X pins H1 b := fun b hb => by
      have hle : s1.heap.objs.size ≤ b := by
        rcases (show b = s1.heap.objs.size + 1 ∨ b = s1.heap.objs.size by simpa using hb) with z | z
        · rw [z]; exact Nat.le_add_right _ _
        · rw [z]; exact Nat.le_refl _
      exact I1.fpOk hle (I1.hok.fresh hle)
    rcases q1 with ⟨⟨xs, hq⟩, q⟩ | ⟨⟨xs, hq⟩, q⟩
    · obtain ⟨its, rv, pl, hz⟩ := I1.list hq
      refine call_enumerate_list pl.isList fun h' he hit hsz hk => wpAny_pyIter_enum he ?_
      exact ⟨s1.heap.objs.size + 1, [s1.heap.objs.size + 1, s1.heap.objs.size], _, _, H1, rfl, I1.kept (t' := s1.toks) hk, turn_enum a (s1.heap.objs.size + 1) s1.heap.objs.size, ⟨⟨.none, he⟩, hit, Nat.succ_ne_self _⟩, fpk, q⟩
    · obtain ⟨its, rv, pl, hz⟩ := I1.tuple hq
      have hT : s1.heap.IsTuple a its.toArray := pl
      have hal : a < s1.heap.objs.size := by
        obtain ⟨o, ho, _⟩ := hT
        exact Heap.lt_size ho
      refine call_enumT hT fun h' he hit hk => wpAny_pyIter_enum he ?_
      exact ⟨s1.heap.objs.size + 1, [s1.heap.objs.size + 1, s1.heap.objs.size], _, _, H1, rfl, I1.kept (t' := s1.toks) hk, turn_enumT a (s1.heap.objs.size + 1) s1.heap.objs.size, ⟨⟨.none, he⟩, hit, Nat.succ_ne_self _, Nat.ne_of_lt hal, (Nat.ne_of_lt (Nat.lt_succ_of_lt hal)).symm⟩, fpk, q⟩
end
section
variable {K : PySem.W.Frag}
theorem jok_enL {W0 : Hp} {S0 : Sto} {H0 : Hp} {d : D} {a : Addr} {xs : List D} (ok : Ok K W0 S0 H0) (r : Rep K W0 d (.ref a)) (hL : seqL S0 d = some xs) (hA : ∀ {S}, seqA S d = seqL S d) :
    (∃ vs, SqL K H0 a vs) ∧ JOk K (Ite K a) W0 (enumD 0 xs) (fun S' => seqA S' d = some xs) := by
  obtain ⟨b, ws, e1, e2, e3⟩ := seqL_rep ok r hL
  cases e1
  refine ⟨⟨ws, e2⟩, ⟨fun i W S H d' hd s1 ok1 g => ?_, fun W S H s1 ok1 g => ?_⟩⟩
  · rw [hA] at g
    obtain ⟨c, zs, e7, e8, e9⟩ := seqL_rep ok1 (r.mono s1) g
    cases e7
    obtain ⟨y, hy, rfl⟩ := enumD_get hd
    obtain ⟨u, hu, ru⟩ := e9.get hy
    refine ⟨⟨zs, u, e8, hu⟩, fun x H' ⟨T, x', e4, e5, e6, e10⟩ => ?_⟩
    subst e4 e6
    have e11 := e10 zs e8
    rw [hu] at e11
    cases e11
    have n := ok1.fresh e5
    exact ⟨_, ok1.stW e5, ok1.newW e5, T, _, rfl, SqT.of upd_same, _, _, rfl, by rw [Nat.zero_add]; rfl, _, _, rfl, ru.mono (same_new n.1), rfl⟩
  · rw [hA] at g
    obtain ⟨c, zs, e7, e8, e9⟩ := seqL_rep ok1 (r.mono s1) g
    cases e7
    rw [enumD_length]
    exact ⟨zs, e8, Nat.le_of_eq e9.length⟩
theorem jok_en {W0 : Hp} {S0 : Sto} {H0 : Hp} {d : D} {v : V} {xs : List D} (ok : Ok K W0 S0 H0) (r : Rep K W0 d v) (h : seqA S0 d = some xs) :
    ∃ a, v = .ref a ∧ (((∃ vs, SqL K H0 a vs) ∧ JOk K (Ite K a) W0 (enumD 0 xs) (fun S' => seqA S' d = some xs)) ∨ ((∃ vs, SqT K H0 a vs) ∧ JOk K (IteT K a) W0 (enumD 0 xs) (fun S' => seqA S' d = some xs))) := by
  obtain ⟨a, vs, rfl, hq, rv⟩ := seqA_rep ok r h
  refine ⟨a, rfl, ?_⟩
  cases d with
  | tup ys =>
    cases h
    obtain ⟨b, ws, e1, e2, e3⟩ := r
    cases e1
    refine .inr ⟨⟨ws, sqT_mono ok.vis e2⟩, ⟨fun i W S H d' hd s1 ok1 _ => ?_, fun W S H s1 ok1 _ => ?_⟩⟩
    · obtain ⟨y, hy, rfl⟩ := enumD_get hd
      obtain ⟨u, hu, ru⟩ := e3.get hy
      have hT := sqT_mono (s1.trans ok1.vis) e2
      refine ⟨⟨ws, u, hT, hu⟩, fun x H' ⟨T, x', e4, e5, e6, e10⟩ => ?_⟩
      subst e4 e6
      have e11 := e10 ws hT
      rw [hu] at e11
      cases e11
      have n := ok1.fresh e5
      exact ⟨_, ok1.stW e5, ok1.newW e5, T, _, rfl, SqT.of upd_same, _, _, rfl, by rw [Nat.zero_add]; rfl, _, _, rfl, (ru.mono s1).mono (same_new n.1), rfl⟩
    · rw [enumD_length]
      exact ⟨ws, sqT_mono (s1.trans ok1.vis) e2, e3.length⟩
  | lst ys => exact .inl (jok_enL ok r h rfl)
  | fro ys => exact .inl (jok_enL ok r h rfl)
  | ref b => exact .inl (jok_enL ok r h rfl)
  | _ => cases h
end
section
variable {X : Cx} {e : Expr} {w : WPe} {p pos tpos : Pos} {elts : List Expr} {kk : Nat}
theorem pdi_enum (hm : X.mg "enumerate" = none) (h : PD X e w) (hg : Gl X "enumerate" := by rfl) (hs : starEach [e] X.env = [(false, eval e X.env)] := by rfl) (hs2 : starEach [e] X.env = (false, eval e X.env) :: starEach [] X.env := by rfl) :
    PDi X (.Tuple elts kk tpos) (.Call (.Name "enumerate" p) [e] [] pos) (wEnum w) :=
  ⟨fun Wx tk => PI.imp (pi_enA hg hm (pa_cons (h.run Wx tk) pa_nil hs2) hs) fun σ H R ⟨W, env, S, Q0, X1, ok, sl, hw, cv, cx⟩ => ⟨W, env, S, _, X1, ok, sl, hw, fun d S1 v W1 H1 h1 s1 ok1 r1 => by
    obtain ⟨xs, e1, h1⟩ := some!_ex h1
    obtain ⟨a, rfl, ⟨q, j⟩ | ⟨q, j⟩⟩ := jok_en ok1 r1 e1
    · exact ⟨a, rfl, .inl ⟨q, cv _ _ S1 W1 H1 _ h1 s1 ok1 j⟩⟩
    · exact ⟨a, rfl, .inr ⟨q, cv _ _ S1 W1 H1 _ h1 s1 ok1 j⟩⟩, cx⟩⟩
/-- a constant of the module -/
theorem pd_glob {x : Str} {i : Int} (h : ∃ u, X.mg x = some u ∧ RelV (.int i) u) (hg : Gl X x := by rfl) (hd : (x == ("__debug__" : Str)) = false := by decide) : PD X (.Name x pos) (wC (.int i)) := by
  obtain ⟨u, hm, r⟩ := h
  exact pd_c (pe_glob hg hm r hd) fun _ => rfl
/-- xs.pop(i) -/
def oPopAt : OM := fun S d ds Q => mutL S d fun a xs => one ds fun e => asI e fun i => (-(2 ^ 63) ≤ i ∧ i < 2 ^ 63) ∧ some! (seqIndex? i xs.length) fun k => some! xs[k]? fun y => Q y (put S a (.lst (xs.eraseIdx k)))
theorem reps_erase {K : PySem.W.Frag} {W : Hp} : ∀ {xs : List D} {vs : List V} (k : Nat), Reps K W xs vs → Reps K W (xs.eraseIdx k) (vs.eraseIdx k)
  | [], _, _, h => by rw [show _ = [] from h]; rfl
  | _ :: _, _, 0, ⟨v, r, e1, e2, e3⟩ => by subst e1; exact e3
  | _ :: _, _, k + 1, ⟨v, r, e1, e2, e3⟩ => by
    subst e1
    exact ⟨v, _, rfl, e2, reps_erase k e3⟩
theorem md_popAt : MtR X "list.pop" (lM X.K oPopAt) := MtR.imp mt_popAt fun x vs H Q ⟨W, S, d, ds, Q0, ok, r, rs, ho, cv⟩ => by
  obtain ⟨a, xs, us, rfl, rfl, e1, e2, rv, h⟩ := mutL_rep ok r ho
  obtain ⟨y, rfl, h⟩ := one_ex h
  obtain ⟨i, rfl, hi, h⟩ := asI_ex h
  obtain ⟨k, ek, h⟩ := some!_ex h
  obtain ⟨z, ez, h⟩ := some!_ex h
  obtain ⟨t, rfl, rt⟩ := reps1 rs
  obtain ⟨u, e4, ru⟩ := rv.get ez
  exact ⟨a, us, i, k, u, rfl, by rw [show t = .int i from rt], e2, hi.1, hi.2, by rw [rv.length]; exact ek, e4, cv _ _ _ _ _ h (ok.stC e1) (ok.chg e1 ⟨_, rfl, reps_erase k rv⟩) ru⟩
/-! ### isinstance of several classes -/
def kitAnyB : String → List String → Option Bool
  | _, [] => some false
  | a, b :: bs => match kitB a b with
    | some true => some true
    | some false => kitAnyB a bs
    | none => none
theorem kit_any {K : PySem.W.Frag} {a : String} : ∀ {bs : List String} {r : Bool}, kitAnyB a bs = some r → PySem.W.kitAny K (.type a) (bs.map Value.type) = some r
  | [], r, h => by cases h; exact kitAny_nil
  | b :: bs, r, h => by
    have h' : (match kitB a b with | some true => some true | some false => kitAnyB a bs | none => none) = some r := h
    cases q : kitB a b with
    | none => rw [q] at h'; cases h'
    | some k =>
      rw [q] at h'
      cases k with
      | true => exact kitAny_cons (kit_ty q) (fun z => by cases z) fun _ => (Option.some.inj h').symm
      | false => exact kitAny_cons (kit_ty q) (fun _ => kit_any h') fun z => by cases z
def wIsiT (Ts : List String) (w : WPe) : WPe := fun env S Q X => w env S (fun d S1 => some! (tyN S1 d) fun n => some! (kitAnyB n Ts) fun b => Q (.bl b) S1) X
/-- the classes, one after the other -/
def tTys (Ts : List String) : TA := fun σ H Q => Q (Ts.map V.ty) H
theorem pa_tys0 {X : Cx} : PA X [] (tTys []) := pa_nil
theorem pa_tys {X : Cx} {e : Expr} {es : List Expr} {T : String} {Ts : List String} (h : PE X e (tC (.ty T))) (r : PA X es (tTys Ts)) (hs : starEach (e :: es) X.env = (false, eval e X.env) :: starEach es X.env := by rfl) : PA X (e :: es) (tTys (T :: Ts)) := pa_cons h r hs
theorem clsv_all : ∀ Ts : List String, Paired ClsV (Ts.map V.ty) (Ts.map Value.type)
  | [] => .nil
  | T :: Ts => .cons (.ty T) (clsv_all Ts)
theorem pd_isiT {X : Cx} {e : Expr} {w : WPe} {p p2 pos : Pos} {es : List Expr} {kk : Nat} {Ts : List String} (he : PD X e w) (ht : PA X es (tTys Ts)) (hm : X.mg "isinstance" = none) (hz : Ts.length ≤ sizeLine := by decide) (hg : Gl X "isinstance" := by rfl)
    (hs : starEach [e, .Tuple es kk p2] X.env = (false, eval e X.env) :: starEach [.Tuple es kk p2] X.env := by rfl) (hs2 : starEach [.Tuple es kk p2] X.env = [(false, eval (.Tuple es kk p2) X.env)] := by rfl) (hpl : (backTo pos (starEach [.Tuple es kk p2] X.env)).any (·.1) = false := by rfl) :
    PD X (.Call (.Name "isinstance" p) [e, .Tuple es kk p2] [] pos) (wIsiT Ts w) :=
  ⟨fun Wx tk => PE.imp (pe_callB call_isiT hg hm (by decide +kernel) (pa_cons (he.run Wx tk) (pa_cons (pe_tup ht) pa_nil hs2) hs) (by decide) (by decide) hs hpl) fun σ H Q ⟨W, env, S, Q0, X1, ok, sl, hw, cv, cx⟩ => ⟨W, env, S, _, X1, ok, sl, hw, fun d S1 v W1 H1 h1 s1 ok1 r1 => by
    obtain ⟨n, e1, h1⟩ := some!_ex h1
    obtain ⟨b, e2, h1⟩ := some!_ex h1
    refine ⟨by rw [List.length_map]; exact hz, fun q hq => ?_⟩
    have nq := ok1.fresh hq
    exact ⟨v, q, Ts.map V.ty, .type n, Ts.map Value.type, b, rfl, upd_same, clsv_all Ts, tyN_rep (ok1.newW (o := .tup (Ts.map V.ty)) hq) (r1.mono (same_new nq.1)) e1, kit_any e2, cv _ S1 _ _ _ h1 (s1.trans (ok1.stW hq)) (ok1.newW hq) rfl⟩, cx⟩⟩
end
/-! ### a list repeated -/
section
variable {X : Cx}
def oRep : O2 := fun S x y Q => match y with
  | .int k => some! (seqM S x) fun xs => (-(2 ^ 63) ≤ k ∧ k < 2 ^ 63 ∧ xs.length * k.toNat ≤ sizeLine) ∧ Q (.lst (List.replicate k.toNat xs).flatten) S
  | _ => False
theorem reps_rep {K : PySem.W.Frag} {W : Hp} {xs : List D} {vs : List V} (h : Reps K W xs vs) : ∀ n : Nat, Reps K W (List.replicate n xs).flatten (List.replicate n vs).flatten
  | 0 => rfl
  | n + 1 => by
    rw [List.replicate_succ, List.replicate_succ, List.flatten_cons, List.flatten_cons]
    exact h.append (reps_rep h n)
theorem opd_rep : OpR X (binaryOp .Mult) (lOp X.K oRep) := OpR.imp op_rep fun x y H Q ⟨W, S, a, b, Q0, ok, ra, rb, ho, cv⟩ => by
  cases b with
  | int k =>
    obtain ⟨xs, e1, hk, ho⟩ := some!_ex ho
    obtain ⟨l, vs, rfl, hl, rv⟩ := seqM_rep ok ra e1
    refine ⟨l, k, vs, rfl, rb, hl, hk.1, hk.2.1, by rw [rv.length]; exact hk.2.2, fun p hp => ?_⟩
    have n := ok.fresh hp
    exact cv _ S _ _ _ ho (ok.stW hp) (ok.newW hp) ⟨p, _, rfl, upd_same, (reps_rep rv _).mono (same_new n.1)⟩
  | _ => exact ho.elim
end
/-! ### calls by keyword -/
def pick {α : Type} (perm : List Nat) (l : List α) : List α := perm.filterMap fun i => l[i]?
/-- n arguments by place, m by name -/
def pickK (n m : Nat) (perm : List Nat) {α : Type} (us ws : List α) : List α := if us.length = n ∧ ws.length = m then pick perm (us ++ ws) else []
theorem paired_get {α β : Type} {R : α → β → Prop} : ∀ {xs : List α} {ys : List β}, Paired R xs ys → ∀ i : Nat, (∃ x y, xs[i]? = some x ∧ ys[i]? = some y ∧ R x y) ∨ (xs[i]? = none ∧ ys[i]? = none)
  | _, _, .nil, i => .inr ⟨by simp, by simp⟩
  | _, _, .cons h r, 0 => .inl ⟨_, _, rfl, rfl, h⟩
  | _, _, .cons h r, i + 1 => paired_get r i
theorem vals_pick {vs : List V} {us : List Value} (h : Vals vs us) : ∀ perm : List Nat, Vals (pick perm vs) (pick perm us)
  | [] => .nil
  | i :: r => by
    rcases paired_get h i with ⟨x, y, e1, e2, q⟩ | ⟨e1, e2⟩
    · show Vals (List.filterMap _ (i :: r)) (List.filterMap _ (i :: r))
      rw [List.filterMap_cons, List.filterMap_cons, e1, e2]
      exact .cons q (vals_pick h r)
    · show Vals (List.filterMap _ (i :: r)) (List.filterMap _ (i :: r))
      rw [List.filterMap_cons, List.filterMap_cons, e1, e2]
      exact vals_pick h r
theorem reps_pick {K : PySem.W.Frag} {W : Hp} {ds : List D} {vs : List V} (h : Reps K W ds vs) : ∀ perm : List Nat, Reps K W (pick perm ds) (pick perm vs)
  | [] => rfl
  | i :: r => by
    show Reps K W (List.filterMap _ (i :: r)) (List.filterMap _ (i :: r))
    rw [List.filterMap_cons, List.filterMap_cons]
    cases e : ds[i]? with
    | none =>
      have e2 : vs[i]? = none := by
        rw [List.getElem?_eq_none_iff] at e ⊢
        rw [h.length]; exact e
      rw [e2]
      exact reps_pick h r
    | some d =>
      obtain ⟨v, e2, rv⟩ := h.get e
      rw [e2]
      exact ⟨v, _, rfl, rv, reps_pick h r⟩
theorem reps_pickK {K : PySem.W.Frag} {W : Hp} {n m : Nat} {perm : List Nat} {ds es : List D} {vs zs : List V} (h1 : Reps K W ds vs) (h2 : Reps K W es zs) : Reps K W (pickK n m perm ds es) (pickK n m perm vs zs) := by
  unfold pickK
  rw [h1.length, h2.length]
  by_cases q : ds.length = n ∧ es.length = m
  · rw [if_pos q, if_pos q]; exact reps_pick (h1.append h2) perm
  · rw [if_neg q, if_neg q]; rfl
theorem kb_mk {K : PySem.W.Frag} {fd : FuncData} {ps ks : List Str} {n m : Nat} {perm : List Nat} (hps : ps ≠ []) (h : ∀ us ws : List Value, us.length = n → ws.length = m → bindArgs fd ⟨us, ks.zip ws⟩ = pure (ps.zip (pick perm (us ++ ws)))) :
    KBinds K fd ps ks (fun us ws => pickK n m perm us ws) (fun us ws => pickK n m perm us ws) where
  to := fun s us ws _ hl => by
    unfold pickK at hl ⊢
    by_cases q : us.length = n ∧ ws.length = m
    · rw [if_pos q]
      exact .of_eq (h us ws q.1 q.2)
    · rw [if_neg q] at hl
      exact absurd (List.eq_nil_of_length_eq_zero hl.symm) hps
  rel := fun {vs us zs ws} r1 r2 => by
    unfold pickK
    rw [r1.length, r2.length]
    by_cases q : us.length = n ∧ ws.length = m
    · rw [if_pos q, if_pos q]
      exact vals_pick (r1.append r2) perm
    · rw [if_neg q, if_neg q]
      exact .nil
def wCallK (spec : Ctr) (n m : Nat) (perm : List Nat) (wa wk : WPa) : WPe := fun env S Q X => wa env S (fun ds S1 => wk env S1 (fun es S2 => spec (pickK n m perm ds es) S2 Q X) X) X
structure PDk (X : Cx) (kws : List Keyword) (w : WPa) : Prop where
  run : ∀ Wx, Takes X Wx → PK X kws (lA X.K Wx w)
theorem PK.imp {X : Cx} {kws : List Keyword} {t t' : TA} (h : PK X kws t) (i : ∀ σ H Q, t' σ H Q → t σ H Q) : PK X kws t' := ⟨fun po pins s σ H Q I q => h.run po pins s σ H Q I (i σ H Q q)⟩
section
variable {X : Cx} {x : Str} {p pos kpos : Pos} {e : Expr} {es : List Expr} {kws : List Keyword} {wa wk r : WPa} {w : WPe} {nm : Option Str} {k n m : Nat} {perm : List Nat} {f : Addr} {fd : FuncData} {ps ks : List Str} {spec : Ctr}
theorem pdk_nil : PDk X [] wNil := ⟨fun Wx tk => PK.imp pk_nil fun σ H Q ⟨W, env, S, Q0, X1, ok, sl, hw, cv, cx⟩ => cv [] S [] W H hw Stp.refl ok rfl⟩
theorem pdk_cons (h : PD X e w) (hr : PDk X kws r) : PDk X (⟨nm, e, kpos⟩ :: kws) (wCons w r) :=
  ⟨fun Wx tk => PK.imp (pk_cons (h.run Wx tk) (hr.run Wx tk)) fun σ H Q ⟨W, env, S, Q0, X1, ok, sl, hw, cv, cx⟩ => ⟨W, env, S, _, X1, ok, sl, hw, fun d S1 v W1 H1 h1 s1 ok1 r1 =>
    ⟨W1, env, S1, _, X1, ok1, sl.mono s1.vis, h1, fun ds S2 vs W2 H2 h2 s2 ok2 r2 => cv _ S2 _ W2 H2 h2 (s1.trans s2) ok2 ⟨v, vs, rfl, r1.mono s2.vis, r2⟩, cx.mono s1⟩, cx⟩⟩
theorem run_fnKS {CX : CXT} {sp : Sp} {E : L2.St → XK} {g : List Value → List Value → List Value} {gV : List V → List V → List V} {pins : List (Addr × Obj)} {σ : L2.St} {H : Hp} {s : Shared} {Q : VK} {us ws : List Value} {vs zs : List V}
    (F : FnOk X.prog X.w X.K X.mg X.base CX k f fd ps sp) (hr : Room k X.A) (hb : KBinds X.K fd ps ks g gV) (hx : PassesAt CX X σ (E σ)) (I : L2.Inv X pins σ H s) (r1 : Vals vs us) (r2 : Vals zs ws) (h : sp (gV vs zs) H Q (E σ)) :
    wpAny (model X.prog X.w) X.A (call (.ref f) us (ks.zip ws)) (EP X pins σ Q) X.xe s := by
  have rr := hb.rel r1 r2
  have hl : (g us ws).length = ps.length := by rw [← rr.length]; exact F.len _ _ _ _ h
  refine wpAny_call (codeAny_mono (F.run X.A X.stack s H ⟨us, ks.zip ws⟩ (g us ws) (gV vs zs) Q (E σ) hr I.env0 (hb.to s us ws I.kIn hl) rr h) fun r s' hq => ?_)
  cases r with
  | error e => exact hx pins H s e s' I hq
  | ok fl =>
    cases fl with
    | ret u => exact I.after hq
    | next => exact hq.elim
    | brk => exact hq.elim
    | cont => exact hq.elim
/-- f(k = v, ..): by names alone -/
theorem pd_fnK0 (F : FnD X.prog X.w X.K X.mg X.base k f fd ps spec) (hm : X.mg x = some (.ref f)) (hk : PySem.W.keepIn X.K (.ref f) = true) (hb : KBinds X.K fd ps ks (fun us ws => pickK 0 m perm us ws) (fun us ws => pickK 0 m perm us ws)) (hr : Room k X.A) (hkw : PDk X kws wk)
    (hg : Gl X x := by rfl) (hdb : (x == ("__debug__" : Str)) = false := by decide) (hall : (backToKw pos (keywordEach kws X.env)).all (·.1.isSome) = true := by rfl) (hks : (backToKw pos (keywordEach kws X.env)).filterMap (·.1) = ks := by rfl)
    (hpl : ((backTo pos (starEach [] X.env)).any (·.1) || (backToKw pos (keywordEach kws X.env)).any (·.1.isNone)) = false := by rfl) : PD X (.Call (.Name x p) [] kws pos) (wCallK spec 0 m perm wNil wk) := by
  refine ⟨fun Wx tk => ⟨fun pins s σ H Q I h => ?_⟩⟩
  obtain ⟨W, env, S, Q0, X1, ok, sl, hw, cv, cx⟩ := h
  refine wpAny_Call_Name_kw (ld_glob I hg hm ?_ hdb)
  refine PySem.W.callWith_KW0 (h₀ := X.base) I.ok.mod.kin hk hall ?_ hpl
  have h2 : lA X.K Wx wk σ H fun zs H2 => lSp X.K spec (pickK 0 m perm [] zs) H2 Q fun c d H' => Wx c d σ H' := ⟨W, env, S, _, X1, ok, sl, hw, fun ds S1 vs W1 H1 h1 s1 ok1 r1 => by
    exact ⟨W1, S1, pickK 0 m perm [] ds, Q0, X1, ok1, reps_pickK (ds := []) (vs := []) rfl r1, h1, cv.mono s1, cx.mono s1⟩, cx⟩
  refine thn ((hkw.run Wx tk).run pos pins s σ H _ I h2) fun ws s2 ⟨zs, H2, I2, rz, q2⟩ => ⟨I2.kIn, ?_⟩
  rw [hks]
  exact run_fnKS F hr hb (passAt tk σ) I2 .nil rz q2
/-- f(e, .., k = v, ..) -/
theorem pd_fnK (F : FnD X.prog X.w X.K X.mg X.base k f fd ps spec) (hm : X.mg x = some (.ref f)) (hk : PySem.W.keepIn X.K (.ref f) = true) (hb : KBinds X.K fd ps ks (fun us ws => pickK n m perm us ws) (fun us ws => pickK n m perm us ws)) (hr : Room k X.A) (ha : PDa X (e :: es) wa) (hkw : PDk X kws wk)
    (hg : Gl X x := by rfl) (hdb : (x == ("__debug__" : Str)) = false := by decide) (hall : (backToKw pos (keywordEach kws X.env)).all (·.1.isSome) = true := by rfl) (hks : (backToKw pos (keywordEach kws X.env)).filterMap (·.1) = ks := by rfl)
    (he : starEach (e :: es) X.env = (false, eval e X.env) :: starEach es X.env := by rfl)
    (hpl : ((backTo pos (starEach (e :: es) X.env)).any (·.1) || (backToKw pos (keywordEach kws X.env)).any (·.1.isNone)) = false := by rfl) : PD X (.Call (.Name x p) (e :: es) kws pos) (wCallK spec n m perm wa wk) := by
  refine ⟨fun Wx tk => ⟨fun pins s σ H Q I h => ?_⟩⟩
  obtain ⟨W, env, S, Q0, X1, ok, sl, hw, cv, cx⟩ := h
  refine wpAny_Call_Name_kw (ld_glob I hg hm ?_ hdb)
  have h1 : lA X.K Wx wa σ H fun vs H1 => lA X.K Wx wk σ H1 fun zs H2 => lSp X.K spec (pickK n m perm vs zs) H2 Q fun c d H' => Wx c d σ H' := ⟨W, env, S, _, X1, ok, sl, hw, fun ds S1 vs W1 H1 h1 s1 ok1 r1 =>
    ⟨W1, env, S1, _, X1, ok1, sl.mono s1.vis, h1, fun es S2 zs W2 H2 h2 s2 ok2 r2 => by
      exact ⟨W2, S2, pickK n m perm ds es, Q0, X1, ok2, reps_pickK (r1.mono s2.vis) r2, h2, cv.mono (s1.trans s2), cx.mono (s1.trans s2)⟩, cx.mono s1⟩, cx⟩
  refine PySem.W.callWith_KW (h₀ := X.base) I.ok.mod.kin hk hall (thn ((ha.run Wx tk).run pos pins s σ H _ I h1) fun us s1 ⟨vs, H1, I1, r, q⟩ => ?_) hpl he
  refine thn ((hkw.run Wx tk).run pos pins s1 σ H1 _ I1 q) fun ws s2 ⟨zs, H2, I2, rz, q2⟩ => ⟨I2.kIn, ?_⟩
  rw [hks]
  exact run_fnKS F hr hb (passAt tk σ) I2 r rz q2
end
end DL
set_option Elab.async false
set_option linter.all false
set_option maxRecDepth 100000
set_option maxHeartbeats 1000000
/-! The data layer, part m: own exceptions with one field: made, raised, caught, asked. -/
namespace DL
open PySem PySem.Spec PyProof.Rows L2
/-! ### C(v): C's own __init__ is self.f = p -/
def spEx (K : PySem.W.Frag) (C : Addr) (f : Str) : Sp := fun vs H Q _ => ∃ (a : Addr) (v : V), vs = [.ref a, v] ∧ OexC K C ∧ PySem.W.findIn K (.ref C) f = some none ∧ H a = some (exo a C none) ∧
  ∀ dx, H dx = none → dx ≠ a → Q .non (upd (upd H dx (exd dx [(f, v)])) a (exo a C (some dx)))
section
variable {P : Program} {w : World} {K : PySem.W.Frag} {mg : Str → Option Value} {base : Heap} {qual : Str} {st : Stmt} {fI : Addr} {fd : FuncData} {f p : Str} {C : Addr}
theorem exInit_ok (F : Fun K "__init__" qual st fI fd) (S : FnScope ["self", p] ["self", p] (defScope st))
    (hb : ∀ (cdv : Value) (A : Around) (outer : List Env) (s : Shared) (H : Hp) (E : XK), PSs (cxOf (L2.CX P w) P w K mg base ["self", p] qual (defScope st) fI cdv A outer s H E) (defBody st) (tOst K f (tVar 0) (tVar 1))) :
    FnOk P w K mg base (L2.CX P w) 1 fI fd ["self", p] (spEx K C f) := by
  refine F.okX S (fun vs H Q E ⟨a, v, e, _⟩ => by rw [e]; rfl) (fun cdv A outer s H vs Q E hr ⟨a, v, e, T, hn, ha, q⟩ => ⟨_, hb cdv A outer s H E, ?_⟩)
  subst e
  exact ⟨v, rfl, .ref a, rfl, a, C, rfl, T, hn, .inl ⟨ha, fun dx h1 h2 => q dx h1 h2⟩⟩
end
/-- the class x at C, whose __init__ keeps one value as f -/
structure ExAt (K : PySem.W.Frag) (mg : Str → Option Value) (x : Str) (C : Addr) (f p : Str) (qual : Str) (st : Stmt) : Prop where
  ox : OexC K C
  nf : PySem.W.findIn K (.ref C) f = some none
  mg : mg x = some (.ref C)
  fn : ∃ fI fd, Fun K "__init__" qual st fI fd ∧ PySem.W.findIn K (.ref C) "__init__" = some (some (.ref fI)) ∧ PySem.W.typeIn K (.ref fI) = some (.type "function") ∧ Binds K fd ["self", p] []
/-- .. as it is used -/
def ExC (P : Program) (w : World) (K : PySem.W.Frag) (mg : Str → Option Value) (base : Heap) (x : Str) (C : Addr) (f : Str) : Prop :=
  OexC K C ∧ PySem.W.findIn K (.ref C) f = some none ∧ mg x = some (.ref C) ∧ ∃ fI fd ps, FnOk P w K mg base (L2.CX P w) 1 fI fd ps (spEx K C f) ∧ PySem.W.findIn K (.ref C) "__init__" = some (some (.ref fI)) ∧ PySem.W.typeIn K (.ref fI) = some (.type "function") ∧ Binds K fd ps []
theorem ExC.mk {P : Program} {w : World} {K : PySem.W.Frag} {mg : Str → Option Value} {base : Heap} {x f p qual : Str} {C : Addr} {st : Stmt} (E : ExAt K mg x C f p qual st) (S : FnScope ["self", p] ["self", p] (defScope st))
    (hb : ∀ (fI : Addr) (cdv : Value) (A : Around) (outer : List Env) (s : Shared) (H : Hp) (E : XK), PSs (cxOf (L2.CX P w) P w K mg base ["self", p] qual (defScope st) fI cdv A outer s H E) (defBody st) (tOst K f (tVar 0) (tVar 1))) : ExC P w K mg base x C f := by
  obtain ⟨fI, fd, F, i1, t1, b⟩ := E.fn
  exact ⟨E.ox, E.nf, E.mg, fI, fd, _, exInit_ok F S (hb fI), i1, t1, b⟩
/-- an expression that makes an exception -/
abbrev WPx := DE → Sto → XQ → XQ → Prop
def lX (K : PySem.W.Frag) (Wx : WX) (w : WPx) : L2.St → Hp → XK → Prop := fun σ H Q => ∃ W env S Q0 X0, Ok K W S H ∧ Sl K W env σ ∧ w env S Q0 X0 ∧ CXc K W S H Q0 Q ∧ CXc K W S H X0 (fun c d H' => Wx c d σ H')
structure PDx (X : Cx) (e : Expr) (w : WPx) : Prop where
  run : ∀ Wx, Takes X Wx → PMk X e (lX X.K Wx w)
def wMkE (C : Addr) (f : Str) (w : WPe) : WPx := fun env S Q X => w env S (fun d S1 => Q C [(f, d)] S1) X
theorem repf_one {K : PySem.W.Frag} {W : Hp} {f : Str} {d : D} {v : V} (r : Rep K W d v) : Repf K W [(f, d)] [(f, v)] := fun g x h => by
  rw [List.lookup_cons] at h ⊢
  cases q : (g == f) with
  | true =>
    rw [q] at h
    cases h
    exact ⟨v, rfl, r⟩
  | false =>
    rw [q] at h
    cases h
section
variable {X : Cx} {x f : Str} {C : Addr} {e : Expr} {w : WPe} {p pos : Pos}
theorem pdx_mk (T : ExC X.prog X.w X.K X.mg X.base x C f) (hr : Room 2 X.A) (he : PD X e w) (hg : Gl X x := by rfl) (hdb : (x == ("__debug__" : Str)) = false := by decide) (hs : starEach [e] X.env = (false, eval e X.env) :: starEach [] X.env := by rfl) (hpl : (backTo pos (starEach [] X.env)).any (·.1) = false := by rfl) :
    PDx X (.Call (.Name x p) [e] [] pos) (wMkE C f w) := by
  obtain ⟨T1, nf, hm, fI, fd, ps, F, i1, t1, b⟩ := T
  refine ⟨fun Wx tk pins s σ H Q I h => ?_⟩
  refine pmk_oex T1 i1 t1 F hr b .nil passL hg hm (pa_cons (he.run Wx tk) pa_nil hs) hdb hs hpl pins s σ H Q I ?_
  obtain ⟨W, env, S, Q0, X1, ok, sl, hw, cq, cx⟩ := h
  refine ⟨W, env, S, _, X1, ok, sl, hw, fun d S1 v W1 H1 h1 s1 ok1 r1 => ?_, cx⟩
  refine ⟨by show 1 ≤ 1000; decide, fun a ha => ⟨a, v, rfl, T1, nf, upd_same, fun dx hdx ne => ⟨rfl, dx, [(f, v)], upd_same, ?_, ?_, ?_⟩⟩⟩
  · rw [upd_ne ne, upd_same]
  · rw [upd_ne ne] at hdx; exact hdx
  · have hdx' : H1 dx = none := by rw [upd_ne ne] at hdx; exact hdx
    have e1 : upd (L2.del (upd (upd (upd H1 a (exo a C none)) dx (exd dx [(f, v)])) a (exo a C (some dx))) a) dx (.xd [(f, v)]) = upd H1 dx (.xd [(f, v)]) := by
      funext b
      by_cases q : b = dx
      · subst q; rw [upd_same, upd_same]
      · rw [upd_ne q, upd_ne q]
        by_cases q2 : b = a
        · subst q2
          rw [del_same, ha]
        · rw [del_ne q2, upd_ne q2, upd_ne q, upd_ne q2]
    rw [e1]
    have n := ok1.fresh hdx'
    exact cq C _ S1 dx _ _ _ h1 (s1.trans (ok1.stW hdx')) (ok1.newW hdx') upd_same (repf_one (r1.mono (same_new n.1)))
def wRaise (w : WPx) : WPs := fun env S q => w env S (xcQ q env) (xcQ q env)
theorem pds_raise {wx : WPx} {pos2 : Pos} {e : Expr} (hc : X.calm = true) (he : PDx X e wx) : PDs X (.Raise (some e) none pos2) (wRaise wx) :=
  ⟨fun Wx tk => PS.imp (ps_raise hc tk (he.run Wx tk)) fun D σ H ⟨W, env, S, q, ok, sl, hl, hw, cs⟩ => ⟨W, env, S, _, _, ok, sl, hw, CXc.of cs sl, CXc.of cs sl⟩⟩
end
/-! ### try .. except T as e -/
theorem sl_del {K : PySem.W.Frag} {W : Hp} {e : DE} {σ : L2.St} {i : Nat} (h : Sl K W e σ) : Sl K W (delV e i) (σ.set i none) := fun j d q => by
  obtain ⟨n, g⟩ := getV_delV q
  obtain ⟨v, a, r⟩ := h j d g
  exact ⟨v, by rw [List.getElem?_set_ne (Ne.symm n)]; exact a, r⟩
/-- .. where the slots' number is not told -/
def lSn (K : PySem.W.Frag) (Wx : WX) (n : Nat) (w : WPs) : TS := fun D σ H => ∃ W env S q, Ok K W S H ∧ (σ.length = n → Sl K W env σ) ∧ w env S q ∧ CS K Wx W S H q { D with nx := fun σ' H' => σ'.length = n → D.nx σ' H', bk := fun σ' H' => σ'.length = n → D.bk σ' H', ct := fun σ' H' => σ'.length = n → D.ct σ' H' }
theorem pss_n {X : Cx} {st : List Stmt} {K : PySem.W.Frag} {Wx : WX} {w : WPs} (h : PSs X st (lS K Wx X.N.length w)) : PSs X st (lSn K Wx X.N.length w) :=
  ⟨fun pins s σ H D I ⟨W, env, S, q, ok, sl, hw, cs⟩ => h.run pins s σ H D I ⟨W, env, S, q, ok, sl I.len, I.len, hw, cs⟩⟩
/-- the suite: of the exception's address, its dict's, its class -/
abbrev WPu := Addr → Addr → Addr → WPs
def wTry (K : PySem.W.Frag) (T : Addr) (i : Nat) (body : WPs) (suite : WPu) : WPs := fun env S q => body env S { q with xc := fun C fs e S1 => ∃ b, PySem.W.exmOne K (.ref C) (.ref T) = some b ∧
  (b = true → ∃ f x, fs = [(f, x)] ∧ ∀ a dd, suite a dd C (setV e i (.exc a dd C f x)) S1 { nx := fun e2 S2 => q.nx (delV e2 i) S2, rt := q.rt, bk := fun e2 S2 => q.bk (delV e2 i) S2, ct := fun e2 S2 => q.ct (delV e2 i) S2, xc := fun _ _ _ _ => False }) ∧
  (b = false → q.xc C fs e S1) }
section
variable {X : Cx} {x n : Str} {T : Addr} {i : Nat} {body suite : List Stmt} {b₀ : Stmt} {np pos pos' : Pos} {wb : WPs} {ws : WPu}
theorem pds_try (hs : X.stack = X.env :: X.outer) (hf : X.env.frame = some X.env.locals) (hN : X.N.Nodup) (hi : X.N[i]? = some n) (hln : X.env.kindOf n = some .local) (hm : X.mg x = some (.ref T)) (hg : Gl X x) (hdb : (x == ("__debug__" : Str)) = false)
    (hb : ∀ (pn : List (Addr × Obj)) (xe : Value → Shared → Prop), PassesOwn (model X.prog X.w) X.A X.env xe → PDss (X.tr pn xe) body wb)
    (hsu : ∀ (a dd C : Addr) (oe : Obj) (pn : List (Addr × Obj)), Zc (.ref C) (some dd) oe → (∃ vs, oe.data = .fields vs) → PDss (X.suite a ((a, oe) :: pn)) (b₀ :: suite) (ws a dd C)) :
    PDs X (.Try body [.ExceptHandler (some (.Name x np)) (some n) (b₀ :: suite) pos'] [] [] pos) (wTry X.K T i wb ws) := by
  refine ⟨fun Wx tk => ?_⟩
  refine PS.imp (L2.ps_try_as hs hf hN hi hln ⟨hg, hdb, .inl hm⟩ tk (tb := fun W => lS X.K W X.N.length wb) (ts := fun a cls d => match cls, d with
    | .ref C, some dd => lSn X.K (fun _ _ _ _ => False) X.N.length (ws a dd C)
    | _, _ => fun _ _ _ => False) (fun W pn xe tkW pass => (hb pn xe pass).run W tkW) fun a oe cls d pn hz hfl => ?_) ?_
  · cases cls with
    | ref C =>
      cases d with
      | some dd => exact pss_n (X := X.suite a ((a, oe) :: pn)) ((hsu a dd C oe pn hz hfl).run _ takes0)
      | none => exact ⟨fun pins s σ H D I h => h.elim⟩
    | _ => exact ⟨fun pins s σ H D I h => h.elim⟩
  · rintro D σ H ⟨W, env, S, q, ok, sl, hl, hw, cs⟩
    refine ⟨W, env, S, _, ok, sl, hl, hw, cs.nx, cs.rt, cs.bk, cs.ct, ?_⟩
    rintro C fs e S1 dd gs σ1 W1 H1 ⟨b, hb1, hy, hn⟩ s1 ok1 sl1 e1 r1
    refine ⟨b, hb1, fun h a ha => ?_, fun h => cs.xc C fs e S1 dd gs σ1 W1 H1 (hn h) s1 ok1 sl1 e1 r1⟩
    obtain ⟨f, y, rfl, hsuite⟩ := hy h
    obtain ⟨u, hu, ru⟩ := r1 f y (by rw [List.lookup_cons]; simp)
    have rex : Rep X.K W1 (.exc a dd C f y) (.ref a) := ⟨rfl, gs, u, e1, hu, ru⟩
    have sl2 : (σ1.set i (some (.ref a))).length = X.N.length → Sl X.K W1 (setV e i (.exc a dd C f y)) (σ1.set i (some (.ref a))) := fun hlen j d hj => by
      rcases getV_setV hj with ⟨z1, z2⟩ | ⟨z1, z2⟩
      · subst z1 z2
        exact ⟨_, List.getElem?_set_self (by rw [List.length_set] at hlen; rw [hlen]; exact lt_of_some hi), rex⟩
      · obtain ⟨v, hv, rv⟩ := sl1 j d z2
        exact ⟨v, by rw [List.getElem?_set_ne (Ne.symm z1)]; exact hv, rv⟩
    refine ⟨W1, _, S1, _, ok1, sl2, hsuite a dd, ?_, ?_, ?_, ?_, ?_⟩
    · exact fun e2 S2 σ2 W2 H2 hq st ok2 sl3 hl2 => cs.nx _ S2 _ W2 H2 hq (s1.trans st) ok2 (sl_del sl3) (by rw [List.length_set]; exact hl2)
    · exact fun d S2 v W2 H2 hq st ok2 rv => cs.rt d S2 v W2 H2 hq (s1.trans st) ok2 rv
    · exact fun e2 S2 σ2 W2 H2 hq st ok2 sl3 hl2 => cs.bk _ S2 _ W2 H2 hq (s1.trans st) ok2 (sl_del sl3) (by rw [List.length_set]; exact hl2)
    · exact fun e2 S2 σ2 W2 H2 hq st ok2 sl3 hl2 => cs.ct _ S2 _ W2 H2 hq (s1.trans st) ok2 (sl_del sl3) (by rw [List.length_set]; exact hl2)
    · exact fun C fs e2 S2 dd gs σ2 W2 H2 hq _ _ _ _ _ => hq.elim
/-! ### in the suite -/
/-- e.f -/
def wExF (K : PySem.W.Frag) (a dd C : Addr) (f : Str) (w : WPe) : WPe := fun env S Q X => (XfC K C ∧ PySem.W.findIn K (.ref C) f = some none) ∧ w env S (fun d S1 => match d with
  | .exc a' dd' C' g x => (a' = a ∧ dd' = dd ∧ C' = C ∧ g = f) ∧ Q x S1
  | _ => False) X
section
variable {X : Cx} {a dd C : Addr} {oe : Obj} {pn : List (Addr × Obj)} {e : Expr} {f : Str} {w : WPe} {pos : Pos}
theorem pd_exf (hz : Zc (.ref C) (some dd) oe) (hf : ∃ vs, oe.data = .fields vs) (he : PD (X.suite a ((a, oe) :: pn)) e w) (hb : attributeBase e f X.env (eval e X.env) = eval e X.env := by rfl) :
    PD (X.suite a ((a, oe) :: pn)) (.Attribute e f pos) (wExF X.K a dd C f w) :=
  ⟨fun Wx tk => ⟨fun pins s σ H Q I ⟨W, env, S, Q0, X1, ok, sl, ⟨⟨T, hno⟩, hw⟩, cv, cx⟩ => (pe_xf T hno hz hf (he.run Wx tk) hb).run pins s σ H Q I ⟨W, env, S, _, X1, ok, sl, hw, fun d S1 v W1 H1 h1 s1 ok1 r1 => by
    cases d with
    | exc a' dd' C' g x =>
      obtain ⟨⟨rfl, rfl, rfl, rfl⟩, h1⟩ := h1
      obtain ⟨e1, gs, u, e2, e3, ru⟩ := r1
      exact ⟨e1, rfl, dd', gs, u, rfl, ok1.vis _ _ e2, e3, cv x S1 u W1 H1 h1 s1 ok1 ru⟩
    | _ => exact h1.elim, cx⟩⟩⟩
/-- what the class of a caught exception must say, so that isinstance asks rightly -/
structure IsC (K : PySem.W.Frag) (C : Addr) : Prop where
  cl : (PySem.W.clsIn K C).isSome = true
  ga : PySem.W.findIn K (.ref C) "__getattribute__" = some (some (.builtin "BaseException.__getattribute__"))
  gt : PySem.W.findIn K (.ref C) "__getattr__" = some none
  su : PySem.W.subIn K (.ref C) (.type "BaseException") = some true
  ca : PySem.W.findIn K (.ref C) "__class__" = some (some (.builtin "object.__class__"))
  cg : PySem.W.specialIn K (.builtin "object.__class__") "__get__" = some (some (.builtin "getset_descriptor.__get__"))
  ct : PySem.W.takesIn K (.builtin "object.__class__") = some true
  mo : PySem.W.mroIn K C (.type "object") = some true
/-- isinstance(e, T), e the caught exception with the dict at dd -/
def rIsD (K : PySem.W.Frag) (C a dd : Addr) : List V → Hp → VK → Prop := fun xs H Q => ∃ (c : V) (u : Value) (b : Bool) (gs : List (Str × V)), xs = [.ref a, c] ∧ H dd = some (.xd gs) ∧ ClsV c u ∧ IsC K C ∧ PySem.W.kitOne K (.ref C) u = some b ∧ Q (.bl b) H
theorem inst_of {pins : List (Addr × Obj)} {σ : L2.St} {H : Hp} {s : Shared} {gs : List (Str × V)} (I : L2.Inv (X.suite a ((a, oe) :: pn)) pins σ H s) (hz : Zc (.ref C) (some dd) oe) (hf : ∃ vs, oe.data = .fields vs) (hd : H dd = some (.xd gs)) : ∃ od, PySem.W.InstAt s.heap a oe C (some od) := by
  obtain ⟨hget, _⟩ := I.pin (a, oe) (List.mem_append.mpr (.inl List.mem_cons_self))
  obtain ⟨vs, hv⟩ := hf
  have hx : ObjOk X.prog X.w H s.heap dd (.xd gs) := I.hok dd _ hd
  obtain ⟨mA, hns, hr⟩ := hx
  obtain ⟨od, ho, hl⟩ := lookIn_ns hns
  exact ⟨od, hget, hz.1, by unfold PySem.W.notCls; rw [hv] <;> rfl, by rw [hz.2]; exact ho⟩
theorem call_isD (hz : Zc (.ref C) (some dd) oe) (hf : ∃ vs, oe.data = .fields vs) : CallR (X.suite a ((a, oe) :: pn)) (.builtin "isinstance") (rIsD X.K C a dd) := by
  intro pins s σ H xs us Q I r h
  obtain ⟨c, u, b, gs, rfl, hd, k, T, e, q⟩ := h
  obtain ⟨u1, u2, rfl, r1, r2⟩ := vals2 r
  have e2 := k.eq r2
  subst e2
  cases (show u1 = Value.ref a from r1)
  obtain ⟨od, J⟩ := inst_of I hz hf hd
  exact PySem.W.kia_one (PySem.W.kitx_exc T.cl T.ga T.gt T.su T.ca T.cg T.ct T.mo) I.kIn J e (fun z => nomatch z) fun tk => ⟨.bl b, H, I.tok tk, rfl, q⟩
/-- isinstance(e, (T1, T2, ..)) -/
def rIsDT (K : PySem.W.Frag) (C a dd : Addr) : List V → Hp → VK → Prop := fun xs H Q => ∃ (tp : Addr) (cs : List V) (ws : List Value) (b : Bool) (gs : List (Str × V)), xs = [.ref a, .ref tp] ∧ H dd = some (.xd gs) ∧ H tp = some (.tup cs) ∧ Paired ClsV cs ws ∧ IsC K C ∧ PySem.W.kitAny K (.ref C) ws = some b ∧ Q (.bl b) H
theorem call_isDT (hz : Zc (.ref C) (some dd) oe) (hf : ∃ vs, oe.data = .fields vs) : CallR (X.suite a ((a, oe) :: pn)) (.builtin "isinstance") (rIsDT X.K C a dd) := by
  intro pins s σ H xs us Q I r h
  obtain ⟨tp, cs, ws, b, gs, rfl, hd, hT, k, T, e, q⟩ := h
  obtain ⟨u1, u2, rfl, r1, r2⟩ := vals2 r
  cases (show u1 = Value.ref a from r1)
  cases (show u2 = Value.ref tp from r2)
  obtain ⟨od, J⟩ := inst_of I hz hf hd
  obtain ⟨_, its, rv, o, h1, h2, n, h3⟩ := (show ObjOk X.prog X.w H s.heap tp (.tup cs) from I.hok tp _ hT)
  have e3 := ClsV.all k rv
  subst e3
  obtain ⟨oc, od2, dt, sl⟩ := o
  simp only at h2 h3
  subst h2 h3
  exact PySem.W.kia_tup (PySem.W.kitx_exc T.cl T.ga T.gt T.su T.ca T.cg T.ct T.mo) I.kIn J h1 e (fun z => nomatch z) fun tk => ⟨.bl b, H, I.tok tk, rfl, q⟩
end
end
def wIsE (K : PySem.W.Frag) (a dd C T : Addr) (w : WPe) : WPe := fun env S Q X => w env S (fun d S1 => match d with
  | .exc a' dd' C' _ _ => (a' = a ∧ dd' = dd ∧ C' = C ∧ IsC K C) ∧ some! (PySem.W.kitOne K (.ref C) (.ref T)) fun b => Q (.bl b) S1
  | _ => False) X
def wIsET (K : PySem.W.Frag) (a dd C : Addr) (Ts : List Addr) (w : WPe) : WPe := fun env S Q X => w env S (fun d S1 => match d with
  | .exc a' dd' C' _ _ => (a' = a ∧ dd' = dd ∧ C' = C ∧ IsC K C) ∧ some! (PySem.W.kitAny K (.ref C) (Ts.map Value.ref)) fun b => Q (.bl b) S1
  | _ => False) X
def tRefs (Ts : List Addr) : TA := fun σ H Q => Q (Ts.map V.ref) H
theorem pa_refs0 {X : Cx} : PA X [] (tRefs []) := pa_nil
theorem pe_cls {X : Cx} {x : Str} {T : Addr} {pos : Pos} (hm : X.mg x = some (.ref T)) (hg : Gl X x := by rfl) (hd : (x == ("__debug__" : Str)) = false := by decide) : PE X (.Name x pos) (tC (.ref T)) := pe_glob hg hm rfl hd
theorem pa_refs {X : Cx} {e : Expr} {es : List Expr} {T : Addr} {Ts : List Addr} (h : PE X e (tC (.ref T))) (r : PA X es (tRefs Ts)) (hs : starEach (e :: es) X.env = (false, eval e X.env) :: starEach es X.env := by rfl) : PA X (e :: es) (tRefs (T :: Ts)) := pa_cons h r hs
theorem clsv_refs : ∀ Ts : List Addr, Paired ClsV (Ts.map V.ref) (Ts.map Value.ref)
  | [] => .nil
  | T :: Ts => .cons (.own T) (clsv_refs Ts)
section
variable {X : Cx} {a dd C T : Addr} {Ts : List Addr} {oe : Obj} {pn : List (Addr × Obj)} {e e2 : Expr} {es : List Expr} {w : WPe} {p p2 pos : Pos} {kk : Nat}
theorem pd_isE (hz : Zc (.ref C) (some dd) oe) (hf : ∃ vs, oe.data = .fields vs) (he : PD (X.suite a ((a, oe) :: pn)) e w) (hc : PE (X.suite a ((a, oe) :: pn)) e2 (tC (.ref T))) (hm : X.mg "isinstance" = none) (hg : Gl (X.suite a ((a, oe) :: pn)) "isinstance" := by rfl)
    (hs : starEach [e, e2] X.env = (false, eval e X.env) :: starEach [e2] X.env := by rfl) (hs2 : starEach [e2] X.env = [(false, eval e2 X.env)] := by rfl) (hpl : (backTo pos (starEach [e2] X.env)).any (·.1) = false := by rfl) :
    PD (X.suite a ((a, oe) :: pn)) (.Call (.Name "isinstance" p) [e, e2] [] pos) (wIsE X.K a dd C T w) :=
  ⟨fun Wx tk => PE.imp (pe_callB (call_isD hz hf) hg hm (by decide +kernel) (pa_cons (he.run Wx tk) (pa_cons hc pa_nil hs2) hs) (by decide) (by decide) hs hpl) fun σ H Q ⟨W, env, S, Q0, X1, ok, sl, hw, cv, cx⟩ => ⟨W, env, S, _, X1, ok, sl, hw, fun d S1 v W1 H1 h1 s1 ok1 r1 => by
    cases d with
    | exc a' dd' C' g x =>
      obtain ⟨⟨rfl, rfl, rfl, ic⟩, h1⟩ := h1
      obtain ⟨b, e5, h1⟩ := some!_ex h1
      obtain ⟨e1, gs, u, e2, e3, ru⟩ := r1
      subst e1
      exact ⟨.ref T, .ref T, b, gs, rfl, ok1.vis _ _ e2, .own T, ic, e5, cv _ S1 _ W1 H1 h1 s1 ok1 rfl⟩
    | _ => exact h1.elim, cx⟩⟩
theorem pd_isET (hz : Zc (.ref C) (some dd) oe) (hf : ∃ vs, oe.data = .fields vs) (he : PD (X.suite a ((a, oe) :: pn)) e w) (ht : PA (X.suite a ((a, oe) :: pn)) es (tRefs Ts)) (hm : X.mg "isinstance" = none) (hzl : Ts.length ≤ sizeLine) (hg : Gl (X.suite a ((a, oe) :: pn)) "isinstance" := by rfl)
    (hs : starEach [e, .Tuple es kk p2] X.env = (false, eval e X.env) :: starEach [.Tuple es kk p2] X.env := by rfl) (hs2 : starEach [.Tuple es kk p2] X.env = [(false, eval (.Tuple es kk p2) X.env)] := by rfl) (hpl : (backTo pos (starEach [.Tuple es kk p2] X.env)).any (·.1) = false := by rfl) :
    PD (X.suite a ((a, oe) :: pn)) (.Call (.Name "isinstance" p) [e, .Tuple es kk p2] [] pos) (wIsET X.K a dd C Ts w) :=
  ⟨fun Wx tk => PE.imp (pe_callB (call_isDT hz hf) hg hm (by decide +kernel) (pa_cons (he.run Wx tk) (pa_cons (pe_tup ht) pa_nil hs2) hs) (by decide) (by decide) hs hpl) fun σ H Q ⟨W, env, S, Q0, X1, ok, sl, hw, cv, cx⟩ => ⟨W, env, S, _, X1, ok, sl, hw, fun d S1 v W1 H1 h1 s1 ok1 r1 => by
    cases d with
    | exc a' dd' C' g x =>
      obtain ⟨⟨rfl, rfl, rfl, ic⟩, h1⟩ := h1
      obtain ⟨b, e5, h1⟩ := some!_ex h1
      obtain ⟨e1, gs, u, e2, e3, ru⟩ := r1
      subst e1
      refine ⟨by rw [List.length_map]; exact hzl, fun q hq => ?_⟩
      exact ⟨q, _, _, b, gs, rfl, (ok1.newW hq).vis _ _ (same_new (ok1.fresh hq).1 _ _ e2), upd_same, clsv_refs Ts, ic, e5, cv _ S1 _ _ _ h1 (s1.trans (ok1.stW hq)) (ok1.newW (o := .tup (Ts.map V.ref)) hq) rfl⟩
    | _ => exact h1.elim, cx⟩⟩
end
end DL
set_option Elab.async false
set_option linter.all false
set_option maxRecDepth 100000
set_option maxHeartbeats 1000000
/-! The data layer, part n: contracts of defs called by keyword. -/
namespace DL
open PySem PySem.Spec PyProof.Rows L2
def DefAtK (K : PySem.W.Frag) (mg : Str → Option Value) (x qual : Str) (st : Stmt) (ps ks : List Str) (n m : Nat) (perm : List Nat) : Prop := ∃ f fd, Fun K x qual st f fd ∧ mg x = some (.ref f) ∧ KBinds K fd ps ks (fun us ws => pickK n m perm us ws) (fun us ws => pickK n m perm us ws)
def FnCK (P : Program) (w : World) (K : PySem.W.Frag) (mg : Str → Option Value) (base : Heap) (k : Nat) (x : Str) (ps ks : List Str) (n m : Nat) (perm : List Nat) (spec : Ctr) : Prop :=
  ∃ f fd, FnD P w K mg base k f fd ps spec ∧ mg x = some (.ref f) ∧ PySem.W.keepIn K (.ref f) = true ∧ KBinds K fd ps ks (fun us ws => pickK n m perm us ws) (fun us ws => pickK n m perm us ws)
theorem FnCK.mk {P : Program} {w : World} {K : PySem.W.Frag} {mg : Str → Option Value} {base : Heap} {x qual : Str} {st : Stmt} {N ps ks : List Str} {k n m : Nat} {perm : List Nat} {spec : Ctr} {ws : WPs} (D : DefAtK K mg x qual st ps ks n m perm) (S : FnScope N ps (defScope st)) (hle : ps.length ≤ N.length)
    (len : ∀ ds S Q E, spec ds S Q E → ds.length = ps.length)
    (hd : ∀ (f : Addr) (cdv : Value) (A : Around) (outer : List Env) (s : Shared) (H : Hp) (E : XK), Room k (A.deeper (envOfC qual (defScope st) s.heap.objs.size f cdv)) → PDss (cxOf (L2.CX P w) P w K mg base N qual (defScope st) f cdv A outer s H E) (defBody st) ws)
    (hr : ∀ ds S Q X1, spec ds S Q X1 → ws (startD N ds) S (endQ Q X1)) : FnCK P w K mg base (k + 1) x ps ks n m perm spec := by
  obtain ⟨f, fd, F, hm, hb⟩ := D
  exact ⟨f, fd, fnd_mk F S hle len hd hr, hm, F.kp, hb⟩
section
variable {X : Cx} {x : Str} {p pos : Pos} {e : Expr} {es : List Expr} {kws : List Keyword} {wa wk : WPa} {k n m : Nat} {perm : List Nat} {ps ks : List Str} {spec : Ctr}
theorem pd_fcK0 (G : FnCK X.prog X.w X.K X.mg X.base k x ps ks 0 m perm spec) (hr : Room k X.A) (hkw : PDk X kws wk)
    (hg : Gl X x := by rfl) (hdb : (x == ("__debug__" : Str)) = false := by decide) (hall : (backToKw pos (keywordEach kws X.env)).all (·.1.isSome) = true := by rfl) (hks : (backToKw pos (keywordEach kws X.env)).filterMap (·.1) = ks := by rfl)
    (hpl : ((backTo pos (starEach [] X.env)).any (·.1) || (backToKw pos (keywordEach kws X.env)).any (·.1.isNone)) = false := by rfl) : PD X (.Call (.Name x p) [] kws pos) (wCallK spec 0 m perm wNil wk) := by
  obtain ⟨f, fd, F, hm, hk, hb⟩ := G
  exact pd_fnK0 F hm hk hb hr hkw hg hdb hall hks hpl
theorem pd_fcK (G : FnCK X.prog X.w X.K X.mg X.base k x ps ks n m perm spec) (hr : Room k X.A) (ha : PDa X (e :: es) wa) (hkw : PDk X kws wk)
    (hg : Gl X x := by rfl) (hdb : (x == ("__debug__" : Str)) = false := by decide) (hall : (backToKw pos (keywordEach kws X.env)).all (·.1.isSome) = true := by rfl) (hks : (backToKw pos (keywordEach kws X.env)).filterMap (·.1) = ks := by rfl)
    (he : starEach (e :: es) X.env = (false, eval e X.env) :: starEach es X.env := by rfl)
    (hpl : ((backTo pos (starEach (e :: es) X.env)).any (·.1) || (backToKw pos (keywordEach kws X.env)).any (·.1.isNone)) = false := by rfl) : PD X (.Call (.Name x p) (e :: es) kws pos) (wCallK spec n m perm wa wk) := by
  obtain ⟨f, fd, F, hm, hk, hb⟩ := G
  exact pd_fnK F hm hk hb hr ha hkw hg hdb hall hks he hpl
end
end DL
set_option Elab.async false
set_option linter.all false
set_option maxRecDepth 100000
set_option maxHeartbeats 1000000
/-! The data layer, part o: what later laws want. -/
namespace DL
open PySem PySem.Spec PyProof.Rows L2
/-- + of lists, made to change -/
def oAddM : O2 := fun S x y Q => some! (seqM S x) fun xs => some! (seqM S y) fun ys => xs.length + ys.length ≤ sizeLine ∧ ∀ p, S p = none → Q (.ref p) (put S p (.lst (xs ++ ys)))
theorem opd_addM {X : Cx} : OpR X (binaryOp .Add) (lOp X.K oAddM) := fun pins s σ H x y v u Q I rx ry h => by
  obtain ⟨W, S, a, b, Q0, ok, ra, rb, ho, cv⟩ := h
  obtain ⟨xs, e1, z⟩ := some!_ex ho
  obtain ⟨ys, e2, hz, z⟩ := some!_ex z
  obtain ⟨p, vs, rfl, hp, r1⟩ := seqM_rep ok ra e1
  obtain ⟨q, ws, rfl, hq, r2⟩ := seqM_rep ok rb e2
  refine op_cat pins s σ H _ _ v u Q I rx ry ⟨p, q, vs, ws, rfl, rfl, hp, hq, by rw [r1.length, r2.length]; exact hz, fun o no => ?_⟩
  have n := ok.fresh no
  exact cv _ _ _ _ _ (z o n.2) (ok.stS no) (ok.newS no ⟨_, rfl, r1.append r2⟩) rfl
/-! ### own exception classes: what the written part tells -/
theorem kitc_of {K : PySem.W.Frag} {C S : Addr} {b : Bool} (h2 : PySem.W.isClsIn K S = true) (h3 : PySem.W.typeIn K (.ref S) = some (.type "type")) (h4 : PySem.W.subIn K (.ref C) (.ref S) = some b) : PySem.W.kitCls K (.ref C) (.ref S) = some b := by
  have e2 : ((PySem.W.clsIn K S).isSome && PySem.W.typeIn K (.ref S) == some (.type "type")) = true := by
    have h2' : (PySem.W.clsIn K S).isSome = true := h2
    rw [h2', h3] <;> rfl
  show (if ((PySem.W.clsIn K S).isSome && PySem.W.typeIn K (.ref S) == some (.type "type")) = true then PySem.W.subIn K (.ref C) (.ref S) else none) = some b
  rw [if_pos e2]
  exact h4
theorem exm_of {K : PySem.W.Frag} {C S : Addr} {b : Bool} (h1 : PySem.W.subIn K (.ref S) (.type "BaseException") = some true) (h2 : PySem.W.isClsIn K S = true) (h3 : PySem.W.typeIn K (.ref S) = some (.type "type")) (h4 : PySem.W.subIn K (.ref C) (.ref S) = some b) : PySem.W.exmOne K (.ref C) (.ref S) = some b := by
  have e1 : (PySem.W.subIn K (.ref S) (.type "BaseException") == some true) = true := by rw [h1] <;> rfl
  show (if (PySem.W.subIn K (.ref S) (.type "BaseException") == some true) = true then PySem.W.kitCls K (.ref C) (.ref S) else none) = some b
  rw [if_pos e1]
  exact kitc_of h2 h3 h4
theorem kit_self {K : PySem.W.Frag} {C : Addr} : PySem.W.kitOne K (.ref C) (.ref C) = some true := by
  unfold PySem.W.kitOne
  rw [if_pos (by simp)]
theorem kit_of {K : PySem.W.Frag} {C S : Addr} {b : Bool} (hne : C ≠ S) (h2 : PySem.W.isClsIn K S = true) (h3 : PySem.W.typeIn K (.ref S) = some (.type "type")) (h4 : PySem.W.subIn K (.ref C) (.ref S) = some b) : PySem.W.kitOne K (.ref C) (.ref S) = some b := by
  unfold PySem.W.kitOne
  rw [if_neg fun z => hne (Value.ref.inj (beq_iff_eq.mp z))]
  exact kitc_of h2 h3 h4
theorem kitn_nil {K : PySem.W.Frag} {t : Value} : PySem.W.kitAny K t [] = some false := rfl
theorem kitn_cons {K : PySem.W.Frag} {t c : Value} {r : List Value} {b : Bool} (h1 : PySem.W.kitOne K t c = some false) (h2 : PySem.W.kitAny K t r = some b) : PySem.W.kitAny K t (c :: r) = some b := by
  show (match PySem.W.kitOne K t c with | some true => some true | some false => PySem.W.kitAny K t r | none => none) = some b
  rw [h1]; exact h2
theorem kitn_here {K : PySem.W.Frag} {t c : Value} {r : List Value} (h1 : PySem.W.kitOne K t c = some true) : PySem.W.kitAny K t (c :: r) = some true := by
  show (match PySem.W.kitOne K t c with | some true => some true | some false => PySem.W.kitAny K t r | none => none) = some true
  rw [h1]
end DL
set_option Elab.async false
set_option linter.all false
set_option maxRecDepth 100000
set_option maxHeartbeats 1000000
/-! The data layer, part p: dicts whose keys are tuples (of ints, bools, None and of such tuples). -/
namespace DL
open PySem PySem.Spec PyProof.Rows L2
mutual
theorem khash_eq (w : World) : ∀ {d : D} {k : NestedKey}, nkD d = some k → k.hash w = khash k
  | .non, k, h => by cases h; rfl
  | .bl _, k, h => by cases h; rfl
  | .int _, k, h => by cases h; rfl
  | .tup xs, k, h => by
    have h' : (nksD xs).map NestedKey.tup = some k := h
    obtain ⟨ks, e1, e2⟩ := Option.map_eq_some_iff.mp h'
    subst e2
    show reduceHash (Builtin.Tuple.tupleHashOf (NestedKey.hashes w ks)) = reduceHash (Builtin.Tuple.tupleHashOf (khashes ks))
    rw [khashes_eq w e1]
  | .str _, _, h => by cases h
  | .ref _, _, h => by cases h
  | .lst _, _, h => by cases h
  | .fro _, _, h => by cases h
  | .obj _ _ _, _, h => by cases h
  | .exc _ _ _ _ _, _, h => by cases h
theorem khashes_eq (w : World) : ∀ {ds : List D} {ks : List NestedKey}, nksD ds = some ks → NestedKey.hashes w ks = khashes ks
  | [], ks, h => by cases h; rfl
  | d :: r, ks, h => by
    have h' : ((nkD d).bind fun k => (nksD r).map (k :: ·)) = some ks := h
    obtain ⟨k, e1, e2⟩ := Option.bind_eq_some_iff.mp h'
    obtain ⟨ks', e3, e4⟩ := Option.map_eq_some_iff.mp e2
    subst e4
    show NestedKey.hash w k :: NestedKey.hashes w ks' = khash k :: khashes ks'
    rw [khash_eq w e1, khashes_eq w e3]
end
section
variable {X : Cx} {pins : List (Addr × Obj)} {σ : L2.St} {H W : Hp} {s : Shared}
mutual
theorem nest_of (I : L2.Inv X pins σ H s) (e : Same W H) : ∀ {d : D} {v : V} {u : Value} {k : NestedKey}, Rep X.K W d v → RelV v u → nkD d = some k → NestedIs s.heap k u
  | .non, v, u, k, r, ru, h => by
    cases h
    rw [show v = V.non from r] at ru
    rw [show u = Value.none from ru]; exact .none
  | .bl b, v, u, k, r, ru, h => by
    cases h
    rw [show v = V.bl b from r] at ru
    rw [show u = Value.bool b from ru]; exact .bool rfl
  | .int i, v, u, k, r, ru, h => by
    cases h
    rw [show v = V.int i from r] at ru
    obtain ⟨t, ht⟩ := (show ∃ t, u = Value.int i t from ru)
    rw [ht]; exact .int i t
  | .tup xs, v, u, k, r, ru, h => by
    have h' : (nksD xs).map NestedKey.tup = some k := h
    obtain ⟨ks, e1, e2⟩ := Option.map_eq_some_iff.mp h'
    subst e2
    obtain ⟨a, vs, rfl, hq, rv⟩ := r
    obtain rfl : u = Value.ref a := ru
    obtain ⟨its, rvs, ⟨o, ho, hc, n, hd⟩, hz⟩ := I.tuple (sqT_mono e hq)
    exact .tup ho hc hd (nests_of I e rv rvs e1)
  | .str _, _, _, _, _, _, h => by cases h
  | .ref _, _, _, _, _, _, h => by cases h
  | .lst _, _, _, _, _, _, h => by cases h
  | .fro _, _, _, _, _, _, h => by cases h
  | .obj _ _ _, _, _, _, _, _, h => by cases h
  | .exc _ _ _ _ _, _, _, _, _, _, h => by cases h
theorem nests_of (I : L2.Inv X pins σ H s) (e : Same W H) : ∀ {ds : List D} {vs : List V} {us : List Value} {ks : List NestedKey}, Reps X.K W ds vs → Vals vs us → nksD ds = some ks → NestedAll s.heap ks us
  | [], vs, us, ks, r, rv, h => by
    cases h
    rw [show vs = [] from r] at rv
    cases rv
    exact .nil
  | d :: ds, vs, us, ks, ⟨v, r, e1, e2, e3⟩, rv, h => by
    subst e1
    cases rv with
    | cons r1 r2 =>
      have h' : ((nkD d).bind fun k => (nksD ds).map (k :: ·)) = some ks := h
      obtain ⟨k, g1, g2⟩ := Option.bind_eq_some_iff.mp h'
      obtain ⟨ks', g3, g4⟩ := Option.map_eq_some_iff.mp g2
      subst g4
      exact .cons (nest_of I e e2 r1 g1) (nests_of I e e3 r2 g3)
end
theorem DN.length {K : PySem.W.Frag} : ∀ {kvs : List (D × D)} {xs : List (NestedKey × Addr × Value)}, DN K W kvs xs → xs.length = kvs.length
  | [], xs, h => by rw [show xs = [] from h]; rfl
  | _ :: _, _, ⟨k, b, u, v, r', e1, _, _, _, e6⟩ => by rw [e1, List.length_cons, List.length_cons, DN.length e6]
theorem DN.mem {K : PySem.W.Frag} : ∀ {kvs : List (D × D)} {xs : List (NestedKey × Addr × Value)}, DN K W kvs xs → ∀ x, x ∈ xs → ∃ kd, (nkD kd = some x.1 ∧ x.1.depth ≤ 8) ∧ Rep K W kd (.ref x.2.1)
  | [], xs, h, x, hx => by rw [show xs = [] from h] at hx; cases hx
  | p :: _, _, ⟨k, b, u, v, r', e1, e2, e3, _, e6⟩, x, hx => by
    subst e1
    cases hx with
    | head => exact ⟨p.1, e2, e3⟩
    | tail _ hx => exact DN.mem e6 x hx
/-- the dict's object, as the kit's rules want it -/
theorem dict_at {S : Sto} {a : Addr} {kvs : List (D × D)} (I : L2.Inv X pins σ H s) (ok : Ok X.K W S H) (hS : S a = some (.dN a kvs)) :
    ∃ xs, H a = some (.ext (dnP a xs)) ∧ DN X.K W kvs xs ∧ (kvs.length ≤ sizeLine ∧ (a == sysModules) = false ∧ (xs.map (·.1)).Nodup) ∧ s.heap.DictOfH (nestedKind X.prog X.w) a xs := by
  obtain ⟨o, h1, xs, h2, h3, h4⟩ := ok.sto _ _ hS
  subst h2
  obtain ⟨⟨ob, es, ep, g1, g2, g3, g4⟩, _, _⟩ := (show ObjOk X.prog X.w H s.heap a (.ext (dnP a xs)) from I.hok a _ h1)
  refine ⟨xs, h1, h4, h3, ob, es, ep, g1, g2, g3, ?_, fun x hx => ?_, h3.2.2⟩
  · rw [g4]
    refine List.map_congr_left fun x hx => ?_
    obtain ⟨kd, ⟨q1, _⟩, _⟩ := DN.mem h4 x hx
    show (⟨khash x.1, .ref x.2.1, x.2.2⟩ : DictEntry) = ⟨x.1.hash X.w, .ref x.2.1, x.2.2⟩
    rw [khash_eq X.w q1]
  · obtain ⟨kd, ⟨q1, q2⟩, q3⟩ := DN.mem h4 x hx
    exact ⟨nest_of I ok.vis q3 rfl q1, q2⟩
/-- what the dict holds at a key -/
def fndN (kvs : List (D × D)) (k : NestedKey) : Option D := match kvs with
  | [] => none
  | p :: r => if nkD p.1 = some k then some p.2 else fndN r k
def putN (kvs : List (D × D)) (k : NestedKey) (i d : D) : List (D × D) := if (fndN kvs k).isSome = true then kvs.map fun p => if nkD p.1 = some k then (p.1, d) else p else kvs ++ [(i, d)]
theorem at_cons {x : NestedKey × Addr × Value} {xs : List (NestedKey × Addr × Value)} {k : NestedKey} : atKey (x :: xs) k = if x.1 = k then some x.2 else atKey xs k := by
  unfold atKey
  rw [List.find?_cons]
  by_cases e : x.1 = k
  · rw [decide_eq_true e, if_pos e]; rfl
  · rw [decide_eq_false e, if_neg e]
theorem DN.find {K : PySem.W.Frag} {k : NestedKey} : ∀ {kvs : List (D × D)} {xs : List (NestedKey × Addr × Value)}, DN K W kvs xs → (fndN kvs k = none ∧ atKey xs k = none) ∨ ∃ d b u v, fndN kvs k = some d ∧ atKey xs k = some (b, u) ∧ Rep K W d v ∧ RelV v u
  | [], xs, h => by rw [show xs = [] from h]; exact .inl ⟨rfl, rfl⟩
  | p :: r, _, ⟨k', b, u, v, r', e1, ⟨e2, _⟩, e3, ⟨e4, e5⟩, e6⟩ => by
    subst e1
    rw [at_cons]
    by_cases e : k' = k
    · subst e
      exact .inr ⟨p.2, b, u, v, by unfold fndN; rw [if_pos e2], if_pos rfl, e4, e5⟩
    · rw [if_neg e]
      have : fndN (p :: r) k = fndN r k := by
        show (if nkD p.1 = some k then some p.2 else fndN r k) = _
        rw [if_neg (by rw [e2]; exact fun z => e (Option.some.inj z))]
      rw [this]
      exact DN.find e6
/-- a key -/
def keyD (d : D) : Option NestedKey := match d with
  | .tup xs => (nkD (.tup xs)).bind fun k => if k.depth ≤ 8 then some k else none
  | _ => none
theorem keyD_ex {d : D} {k : NestedKey} (h : keyD d = some k) : (nkD d = some k ∧ k.depth ≤ 8) ∧ ∃ xs, d = .tup xs := by
  cases d with
  | tup xs =>
    have h' : ((nkD (.tup xs)).bind fun k => if k.depth ≤ 8 then some k else none) = some k := h
    obtain ⟨k', e1, e2⟩ := Option.bind_eq_some_iff.mp h'
    by_cases q : k'.depth ≤ 8
    · rw [if_pos q] at e2; cases e2; exact ⟨⟨e1, q⟩, _, rfl⟩
    · rw [if_neg q] at e2; cases e2
  | _ => cases h
def dnAt (S : Sto) (y : D) (k : Addr → List (D × D) → Prop) : Prop := match y with
  | .ref a => match S a with
    | some (.dN a' kvs) => a' = a ∧ k a kvs
    | _ => False
  | _ => False
theorem dnAt_ex {S : Sto} {y : D} {k : Addr → List (D × D) → Prop} (h : dnAt S y k) : ∃ a kvs, y = .ref a ∧ S a = some (.dN a kvs) ∧ k a kvs := by
  cases y with
  | ref a =>
    have h' : (match S a with | some (.dN a' kvs) => a' = a ∧ k a kvs | _ => False) := h
    cases q : S a with
    | none => rw [q] at h'; exact h'.elim
    | some m =>
      rw [q] at h'
      cases m with
      | dN a' kvs => obtain ⟨rfl, h'⟩ := h'; exact ⟨_, kvs, rfl, q, h'⟩
      | _ => exact h'.elim
  | _ => exact h.elim
theorem dnAt_mk {S : Sto} {a : Addr} {kvs : List (D × D)} {k : Addr → List (D × D) → Prop} (h : S a = some (.dN a kvs)) (q : k a kvs) : dnAt S (.ref a) k := by
  show (match S a with | some (.dN a' kvs) => a' = a ∧ k a kvs | _ => False)
  rw [h]
  exact ⟨rfl, q⟩
def oInN (neg : Bool) : O2 := fun S x y Q => dnAt S y fun _ kvs => some! (keyD x) fun k => Q (.bl (if neg = true then !(fndN kvs k).isSome else (fndN kvs k).isSome)) S
theorem room_in1 {A : Around} (hu : A.units + 64 < cLine) : (nestedKind X.prog X.w).room A.in1 := by
  show A.in1.units + 8 < cLine
  have : A.in1.units ≤ A.units + 1 := by first | exact Nat.le_refl _ | (unfold Around.in1; split <;> simp) | (show _ ≤ _; simp [Around.in1, Around.units])
  omega
theorem DN.some_eq {K : PySem.W.Frag} {k : NestedKey} {kvs : List (D × D)} {xs : List (NestedKey × Addr × Value)} (h : DN K W kvs xs) : (fndN kvs k).isSome = (atKey xs k).isSome := by
  rcases h.find (k := k) with ⟨e1, e2⟩ | ⟨d, b, u, v, e1, e2, _⟩ <;> rw [e1, e2] <;> rfl
end
theorem opd_inN {X : Cx} (hu : X.A.units + 64 < cLine) : OpR X (compareOp .In) (lOp X.K (oInN false)) := fun pins s σ H x y v u Q I rx ry h => by
  obtain ⟨W, S, a, b, Q0, ok, ra, rb, ho, cv⟩ := h
  obtain ⟨p, kvs, rfl, hS, ho⟩ := dnAt_ex ho
  obtain ⟨k, hk, hq0⟩ := some!_ex ho
  obtain ⟨⟨k1, k2⟩, xs, rfl⟩ := keyD_ex hk
  obtain ⟨es, h1, dn, ⟨z1, z2, z3⟩, dd⟩ := dict_at I ok hS
  obtain ⟨q, vs, rfl, hq, rv⟩ := id ra
  obtain rfl : v = Value.ref q := rx
  rw [show y = V.ref p from rb] at ry
  obtain rfl : u = Value.ref p := ry
  refine wpAny_in_heap (room_in1 hu) ⟨nest_of I ok.vis ra rfl k1, k2⟩ z2 dd ?_
  rw [← dn.some_eq]
  exact ⟨.bl (fndN kvs k).isSome, H, I.tok _, rfl, cv (.bl (fndN kvs k).isSome) S _ W H (by simpa using hq0) Stp.refl ok rfl⟩
theorem opd_notInN {X : Cx} (hu : X.A.units + 64 < cLine) : OpR X (compareOp .NotIn) (lOp X.K (oInN true)) := fun pins s σ H x y v u Q I rx ry h => by
  obtain ⟨W, S, a, b, Q0, ok, ra, rb, ho, cv⟩ := h
  obtain ⟨p, kvs, rfl, hS, ho⟩ := dnAt_ex ho
  obtain ⟨k, hk, hq0⟩ := some!_ex ho
  obtain ⟨⟨k1, k2⟩, xs, rfl⟩ := keyD_ex hk
  obtain ⟨es, h1, dn, ⟨z1, z2, z3⟩, dd⟩ := dict_at I ok hS
  obtain ⟨q, vs, rfl, hq, rv⟩ := id ra
  obtain rfl : v = Value.ref q := rx
  rw [show y = V.ref p from rb] at ry
  obtain rfl : u = Value.ref p := ry
  refine wpAny_notIn_heap (room_in1 hu) ⟨nest_of I ok.vis ra rfl k1, k2⟩ z2 dd ?_
  rw [← dn.some_eq]
  exact ⟨.bl (!(fndN kvs k).isSome), H, I.tok _, rfl, cv (.bl (!(fndN kvs k).isSome)) S _ W H (by simpa using hq0) Stp.refl ok rfl⟩
end DL
set_option Elab.async false
set_option linter.all false
set_option maxRecDepth 100000
set_option maxHeartbeats 1000000
/-! The data layer, part q: dicts with tuple keys: written, made, read. -/
namespace DL
open PySem PySem.Spec PyProof.Rows L2
section
variable {X : Cx} {pins : List (Addr × Obj)} {σ : L2.St} {H W : Hp} {s : Shared}
theorem DN.snoc {K : PySem.W.Frag} {i d : D} {k : NestedKey} {b : Addr} {u : Value} {v : V} (hk : nkD i = some k ∧ k.depth ≤ 8) (ri : Rep K W i (.ref b)) (rd : Rep K W d v ∧ RelV v u) : ∀ {kvs : List (D × D)} {xs : List (NestedKey × Addr × Value)}, DN K W kvs xs → DN K W (kvs ++ [(i, d)]) (xs ++ [(k, b, u)])
  | [], xs, h => by rw [show xs = [] from h]; exact ⟨k, b, u, v, [], rfl, hk, ri, rd, rfl⟩
  | p :: r, _, ⟨k', b', u', v', r', e1, e2, e3, e4, e6⟩ => by
    subst e1
    exact ⟨k', b', u', v', _, rfl, e2, e3, e4, DN.snoc hk ri rd e6⟩
theorem DN.upd {K : PySem.W.Frag} {d : D} {k : NestedKey} {u : Value} {v : V} (rd : Rep K W d v ∧ RelV v u) : ∀ {kvs : List (D × D)} {xs : List (NestedKey × Addr × Value)}, DN K W kvs xs →
    DN K W (kvs.map fun p => if nkD p.1 = some k then (p.1, d) else p) (xs.map (putAt k u))
  | [], xs, h => by rw [show xs = [] from h]; rfl
  | p :: r, _, ⟨k', b', u', v', r', e1, e2, e3, e4, e6⟩ => by
    subst e1
    rw [List.map_cons, List.map_cons]
    by_cases e : k' = k
    · subst e
      rw [if_pos e2.1]
      refine ⟨k', b', u, v, _, ?_, e2, e3, rd, DN.upd rd e6⟩
      rw [show putAt k' u (k', b', u') = (k', b', u) from if_pos rfl]
    · rw [if_neg (by rw [e2.1]; exact fun z => e (Option.some.inj z))]
      refine ⟨k', b', u', v', _, ?_, e2, e3, e4, DN.upd rd e6⟩
      rw [show putAt k u (k', b', u') = (k', b', u') from if_neg e]
theorem DN.put {K : PySem.W.Frag} {i d : D} {k : NestedKey} {b : Addr} {u : Value} {v : V} {kvs : List (D × D)} {xs : List (NestedKey × Addr × Value)} (h : DN K W kvs xs) (hk : nkD i = some k ∧ k.depth ≤ 8) (ri : Rep K W i (.ref b)) (rd : Rep K W d v ∧ RelV v u) :
    DN K W (putN kvs k i d) (storedH xs k b u) := by
  unfold putN storedH
  rw [h.some_eq (k := k)]
  by_cases e : (atKey xs k).isSome = true
  · rw [if_pos e, if_pos e]; exact h.upd rd
  · rw [if_neg e, if_neg e]; exact h.snoc hk ri rd
theorem putN_len {kvs : List (D × D)} {k : NestedKey} {i d : D} : (putN kvs k i d).length ≤ kvs.length + 1 := by
  unfold putN
  split
  · rw [List.length_map]; omega
  · rw [List.length_append]; exact Nat.le_refl _
/-- the object of a dict, told by its entries -/
theorem dn_obj {P : Program} {w : World} {H' : Hp} {h' : Heap} {a : Addr} {kvs : List (D × D)} {xs : List (NestedKey × Addr × Value)} (dn : DN X.K W kvs xs) (dd : h'.DictOfH (nestedKind P w) a xs) : ObjOk P w H' h' a (.ext (dnP a xs)) := by
  obtain ⟨o, es, ep, h1, h2, h3, h4, _, _⟩ := dd
  refine ⟨⟨o, es, ep, h1, h2, h3, ?_⟩, ⟨o, h1⟩, fun k1 k2 ⟨o', es', ep', g1, g2⟩ e => ⟨o', es', ep', e _ g1, g2⟩⟩
  rw [h4]
  refine List.map_congr_left fun x hx => ?_
  obtain ⟨kd, ⟨q1, _⟩, _⟩ := DN.mem dn x hx
  show (⟨x.1.hash w, .ref x.2.1, x.2.2⟩ : DictEntry) = ⟨khash x.1, .ref x.2.1, x.2.2⟩
  rw [khash_eq w q1]
/-- o[i] = e for a dict with tuple keys -/
def setN (S : Sto) (o i d : D) (k : Sto → Prop) : Prop := dnAt S o fun a kvs => some! (keyD i) fun key => kvs.length < sizeLine ∧ k (DL.put S a (.dN a (putN kvs key i d)))
def wSetN (wo wi we : WPe) : WPs := fun env S q => we env S (fun d S1 => wo env S1 (fun o S2 => wi env S2 (fun i S3 => setN S3 o i d fun S4 => q.nx env S4) (xcQ q env)) (xcQ q env)) (xcQ q env)
def lSetN (K : PySem.W.Frag) : TSet := fun o i v H Q => ∃ W S od id vd k, Ok K W S H ∧ Rep K W od o ∧ Rep K W id i ∧ Rep K W vd v ∧ setN S od id vd k ∧ ∀ S' H', k S' → Stp W S H W S' H' → Ok K W S' H' → Q H'
theorem set_N (hu : X.A.units + 64 < cLine) : PSet X (lSetN X.K) := by
  intro pins s σ H o i v ov iv u Q I ro ri rv ⟨W, S, od, id_, vd, k, ok, r1, r2, r3, hs, hq⟩
  obtain ⟨a, kvs, rfl, hS, hs⟩ := dnAt_ex hs
  obtain ⟨key, hk, hz, hk2⟩ := some!_ex hs
  obtain ⟨⟨k1, k2⟩, xs0, rfl⟩ := keyD_ex hk
  rw [show o = V.ref a from r1] at ro
  obtain rfl : ov = Value.ref a := ro
  obtain ⟨b, vs, rfl, hq0, rv0⟩ := id r2
  obtain rfl : iv = Value.ref b := ri
  obtain ⟨xs, h1, dn, ⟨z1, z2, z3⟩, dd⟩ := dict_at I ok hS
  have hl := dn.length
  have hlN : (putN kvs key (.tup xs0) vd).length ≤ kvs.length + 1 := putN_len
  refine wpAny_setItem_heap (hsz := by omega) (room_in1 hu) ⟨nest_of I ok.vis r2 rfl k1, k2⟩ dd fun h' dd' hsb => ?_
  have dn' := dn.put ⟨k1, k2⟩ r2 ⟨r3, rv⟩
  have he : ∃ q, h'.get? a = some q := let ⟨q, _, _, hq, _⟩ := dd'; ⟨q, hq⟩
  refine ⟨L2.upd H a (.ext (dnP a (storedH xs key b u))), d_write I (by rw [h1]; exact True.intro) hsb he (dn_obj dn' dd'), hq _ _ hk2 (ok.stC hS) (ok.chg hS ⟨_, rfl, ⟨by omega, z2, ?_⟩, dn'⟩)⟩
  obtain ⟨_, _, _, _, _, _, _, _, nd⟩ := dd'
  exact nd
theorem pds_setN {X : Cx} {o ip e : Expr} {wo wi we : WPe} {pos p2 : Pos} (hu : X.A.units + 64 < cLine) (ho : PD X o wo) (hi : PD X ip wi) (he : PD X e we) (hs : swapsWithSole [.Subscript o ip p2] e pos.line X.env = pure false := by rfl) (hw : swappedStores [.Subscript o ip p2] e X.env = pure none := by rfl)
    (h1 : (assignEach [.Subscript o ip p2] X.env).map (·.2) = [assign (.Subscript o ip p2) X.env] := by rfl)
    (ha : ∀ v, assign (.Subscript o ip p2) X.env v = (do
      let ov ← holding [v] (eval o X.env)
      let iv ← holding [v, ov] (eval ip X.env)
      standAt p2
      holding [v, ov, iv] (setItem ov iv v)
      release [v, ov, iv] []) := by intro _; rfl) : PDs X (.Assign [.Subscript o ip p2] e pos) (wSetN wo wi we) :=
  ⟨fun Wx tk => PS.imp (ps_asg (he.run Wx tk) (pg_sub (ho.run Wx tk) (hi.run Wx tk) (set_N hu) ha) hs hw h1) fun D σ H ⟨W, env, S, q, ok, sl, hl, hw, cs⟩ => ⟨W, env, S, _, _, ok, sl, hw, fun d S1 v W1 H1 h1 s1 ok1 r1 =>
    ⟨W1, env, S1, _, _, ok1, sl.mono s1.vis, h1, fun o1 S2 u W2 H2 h2 s2 ok2 r2 => ⟨W2, env, S2, _, _, ok2, sl.mono (s1.trans s2).vis, h2, fun i1 S3 t W3 H3 h3 s3 ok3 r3 =>
      ⟨W3, S3, o1, i1, d, _, ok3, r2.mono s3.vis, r3, r1.mono (s2.trans s3).vis, h3, fun S4 H4 h4 st4 ok4 => cs.nx _ S4 _ W3 _ h4 (s1.trans (s2.trans (s3.trans st4))) ok4 (sl.mono (s1.trans (s2.trans s3)).vis) hl⟩, CXc.of (cs.mono (s1.trans s2)) (sl.mono (s1.trans s2).vis)⟩, CXc.of (cs.mono s1) (sl.mono s1.vis)⟩, CXc.of cs sl⟩⟩
end
/-- {k: v} -/
def wDict1 (wk wv : WPe) : WPe := fun env S Q X => wk env S (fun kd S1 => wv env S1 (fun vd S2 => some! (keyD kd) fun _ => ∀ p, S2 p = none → Q (.ref p) (DL.put S2 p (.dN p [(kd, vd)]))) X) X
theorem Stp.grow {W : Hp} {S : Sto} {H H1 : Hp} (h : ∀ a o, H a = some o → H1 a = some o) : Stp W S H W S H1 := ⟨Same.refl W, fun a o e h1 h2 => ⟨h a o e, h1, h2⟩⟩
theorem pd_dict1 {X : Cx} {ek ev : Expr} {pos : Pos} {wk wv : WPe} (hu : X.A.units + 64 < cLine) (hk : PD X ek wk) (hv : PD X ev wv) : PD X (.Dict [some ek] [ev] pos) (wDict1 wk wv) := by
  refine ⟨fun Wx tk => ⟨fun pins s σ H Q I h => ?_⟩⟩
  obtain ⟨W, env, S, Q0, X1, ok, sl, hw, cv, cx⟩ := h
  refine wpAny_Dict_any rfl rfl (by simp) (by show 1 ≤ 15; omega) ?_
  have hp : H s.heap.objs.size = none := I.hok.fresh (Nat.le_refl _)
  have hnm : (s.heap.objs.size == sysModules) = false := beq_eq_false_iff_ne.mpr (Ne.symm (Nat.ne_of_lt I.big))
  have new0 : ∀ H', ObjOk X.prog X.w H' (s.heap.push { cls := .type "dict", data := .dict #[] }) s.heap.objs.size (.ext (dnP s.heap.objs.size [])) := fun H' =>
    ⟨⟨_, #[], 0, Heap.get?_push_size _ rfl, ⟨rfl, rfl, rfl⟩, rfl, rfl⟩, ⟨_, Heap.get?_push_size _ rfl⟩, fun k1 k2 ⟨o', es', ep', g1, g2⟩ e => ⟨o', es', ep', e _ g1, g2⟩⟩
  have I1 := I.laid (a := s.heap.objs.size) (o := .ext (dnP s.heap.objs.size [])) (t' := s.toks) (fun _ _ q => Heap.get?_push_of_some _ q) (Nat.le_refl _) (new0 _)
  generalize s.heap.objs.size = p at hp hnm I1
  obtain ⟨hW, hS⟩ := ok.fresh hp
  have ok1 := ok.junk (o := .ext (dnP p [])) hp
  have st1 := ok.stJ (o := .ext (dnP p [])) hp
  show wpAny _ _ (evalPairs [(eval ek X.env, do let x ← eval ev X.env; standAt pos; pure x)]) _ _ _
  refine evalPairs_cons ?_
  refine thn ((hk.run Wx tk).run pins _ σ _ _ I1 ⟨W, env, S, _, X1, ok1, sl, hw, fun kd S2 v2 W2 H2 h2 s2 ok2 r2 => (⟨W2, S2, kd, h2, s2, ok2, r2⟩ : ∃ W2 S2 kd, (fun kd S1 => wv env S1 (fun vd S2 => some! (keyD kd) fun _ => ∀ p, S2 p = none → Q0 (.ref p) (DL.put S2 p (.dN p [(kd, vd)]))) X1) kd S2 ∧ Stp W S (L2.upd H p (.ext (dnP p []))) W2 S2 H2 ∧ Ok X.K W2 S2 H2 ∧ Rep X.K W2 kd v2), cx.mono st1⟩) ?_
  rintro uk s2 ⟨vk, H2, I2, rk, W2, S2, kd, h2, st2, ok2, r2⟩
  refine wpAny_bind (thn ((hv.run Wx tk).run pins _ σ _ _ I2 ⟨W2, env, S2, _, X1, ok2, sl.mono st2.vis, h2, fun vd S3 v3 W3 H3 h3 s3 ok3 r3 => (⟨W3, S3, vd, h3, s3, ok3, r3⟩ : ∃ W3 S3 vd, (fun vd S2 => some! (keyD kd) fun _ => ∀ p, S2 p = none → Q0 (.ref p) (DL.put S2 p (.dN p [(kd, vd)]))) vd S3 ∧ Stp W2 S2 H2 W3 S3 H3 ∧ Ok X.K W3 S3 H3 ∧ Rep X.K W3 vd v3), cx.mono (st1.trans st2)⟩) ?_)
  rintro uv s3 ⟨vv, H3, I3, rv, W3, S3, vd, h3, st3, ok3, r3⟩
  refine wpAny_bind (wpAny_standAt (wpAny_pure ?_))
  refine evalPairs_nil ?_
  obtain ⟨key, hkey, hq⟩ := some!_ex h3
  obtain ⟨⟨k1, k2⟩, xs0, rfl⟩ := keyD_ex hkey
  have r2' := r2.mono st3.vis
  obtain ⟨b, vs, rfl, hq0, rv0⟩ := id r2'
  obtain rfl : uk = Value.ref b := rk
  have stA := (st2.trans st3)
  obtain ⟨e1, e2, e3⟩ := stA.frm p _ upd_same hW hS
  obtain ⟨⟨ob, es, ep, g1, g2, g3, g4⟩, _, _⟩ := (show ObjOk X.prog X.w H3 s3.heap p (.ext (dnP p [])) from I3.hok p _ e1)
  have dd : s3.heap.DictOfH (nestedKind X.prog X.w) p [] := ⟨ob, es, ep, g1, g2, g3, g4, (fun x hx => by cases hx), List.nodup_nil⟩
  show wpAny _ _ (storeAll p [(Value.ref b, uv)]) _ _ _
  unfold storeAll
  rw [List.forIn_cons]
  refine wpAny_bind (wpAny_bind (wpAny_dictSet_heap (knd := nestedKind X.prog X.w) (hsz := Nat.zero_le _) (show X.A.units + 8 < cLine by omega) ⟨nest_of I3 ok3.vis r2' rfl k1, k2⟩ dd fun h' dd' hsb => wpAny_pure ?_))
  dsimp only
  rw [List.forIn_nil]
  refine wpAny_pure ?_
  have dn' : DN X.K W3 [(.tup xs0, vd)] (storedH [] key b uv) := ⟨key, b, uv, vv, [], rfl, ⟨k1, k2⟩, r2', ⟨r3, rv⟩, rfl⟩
  have he : ∃ q, h'.get? p = some q := let ⟨q, _, _, hq, _⟩ := dd'; ⟨q, hq⟩
  have I4 := d_write (t' := s3.toks + (nestedKind X.prog X.w).draws key) I3 (by rw [e1]; exact True.intro) hsb he (dn_obj dn' dd')
  obtain ⟨_, _, _, _, _, _, _, _, nd⟩ := dd'
  have stB : Stp W S H W3 S3 H3 := st1.trans stA
  have ok4 := (ok3.out (o := .ext (dnP p (storedH [] key b uv))) e2 e3).own (m := .dN p [(.tup xs0, vd)]) e2 upd_same ⟨_, rfl, ⟨by show 1 ≤ sizeLine; decide, hnm, nd⟩, dn'⟩
  exact ⟨.ref p, _, I4, rfl, cv _ _ _ _ _ (hq p e3) ((stB.own hp).out hp) ok4 rfl⟩
/-- a bool in a list or tuple of bools -/
def oInB : O2 := fun S x y Q => match x with
  | .bl k => some! (seqA S y) fun xs => some! (toBls xs) fun bs => Q (.bl (bs.any fun b => b == k)) S
  | _ => False
def oNotInB : O2 := fun S x y Q => match x with
  | .bl k => some! (seqA S y) fun xs => some! (toBls xs) fun bs => Q (.bl (!(bs.any fun b => b == k))) S
  | _ => False
theorem inV_bl {k : Bool} : ∀ {bs : List Bool}, inV (.bl k) (bs.map V.bl) = (bs.any fun b => b == k) ∧ (bs.map V.bl).all flatV = true
  | [] => ⟨rfl, rfl⟩
  | b :: r => by
    obtain ⟨h1, h2⟩ := inV_bl (k := k) (bs := r)
    refine ⟨?_, h2⟩
    show ((b == k) || inV (.bl k) (r.map V.bl)) = ((b == k) || r.any fun b => b == k)
    rw [h1]
theorem opd_inB {X : Cx} : OpR X (compareOp .In) (lOp X.K oInB) := OpR.imp op_in_seq fun x y H Q ⟨W, S, a, b, Q0, ok, ra, rb, ho, cv⟩ => by
  cases a with
  | bl k =>
    obtain ⟨xs, e1, ho⟩ := some!_ex ho
    obtain ⟨bs, e2, ho⟩ := some!_ex ho
    obtain ⟨p, vs, rfl, hq, r1⟩ := seqA_rep ok rb e1
    have e3 := toBls_rep e2 r1
    subst e3
    have e4 : x = V.bl k := ra
    subst e4
    refine ⟨p, _, rfl, hq, rfl, (inV_bl (k := k)).2, ?_⟩
    rw [inV_bl.1]
    exact cv _ S _ W H ho Stp.refl ok rfl
  | _ => exact ho.elim
theorem opd_notInB {X : Cx} : OpR X (compareOp .NotIn) (lOp X.K oNotInB) := OpR.imp op_notIn_seq fun x y H Q ⟨W, S, a, b, Q0, ok, ra, rb, ho, cv⟩ => by
  cases a with
  | bl k =>
    obtain ⟨xs, e1, ho⟩ := some!_ex ho
    obtain ⟨bs, e2, ho⟩ := some!_ex ho
    obtain ⟨p, vs, rfl, hq, r1⟩ := seqA_rep ok rb e1
    have e3 := toBls_rep e2 r1
    subst e3
    have e4 : x = V.bl k := ra
    subst e4
    refine ⟨p, _, rfl, hq, rfl, (inV_bl (k := k)).2, ?_⟩
    rw [inV_bl.1]
    exact cv _ S _ W H ho Stp.refl ok rfl
  | _ => exact ho.elim
/-- d[k] -/
def oIxN : O2 := fun S x y Q => dnAt S x fun _ kvs => some! (keyD y) fun k => some! (fndN kvs k) fun d => Q d S
end DL
set_option Elab.async false
set_option linter.all false
set_option maxRecDepth 100000
set_option maxHeartbeats 4000000
namespace K41
open PySem PySem.Spec PyProof.Rows L2 DL
/-- the error's classes, and what the written part says of them -/
structure Cl where
  K : PySem.W.Frag
  Bucket : Addr
  ServeError : Addr
  InvalidNumber : Addr
  InvalidRow : Addr
  InvalidLot : Addr
  TooMany : Addr
  Undefined : Addr
  exN : PySem.W.exmOne K (.ref InvalidNumber) (.ref ServeError) = some true
  anyN : PySem.W.kitAny K (.ref InvalidNumber) [.ref InvalidRow, .ref InvalidLot, .ref TooMany, .ref Undefined] = some false
  nn : PySem.W.kitOne K (.ref InvalidNumber) (.ref InvalidNumber) = some true
  isN : IsC K InvalidNumber
  xfN : XfC K InvalidNumber ∧ PySem.W.findIn K (.ref InvalidNumber) "number" = some none
/-! ### values -/
/-- a value whose class is known -/
def Kn (S : Sto) (d : D) : Prop := ∃ n, tyN S d = some n
def isInt (d : D) : Bool := match d with
  | .int _ => true
  | _ => false
def inR (l m : Int) (d : D) : Bool := match d with
  | .int v => decide (l ≤ v ∧ v ≤ m)
  | _ => false
/-- an ask (tick, many) that can follow the tick least -/
def askOf (S : Sto) (least : Int) (d : D) : Option (Int × Int) := match seqA S d with
  | some [.int a, .int b] => if (least ≤ a ∧ a ≤ 1000000) ∧ (1 ≤ b ∧ b ≤ 1000) then some (a, b) else none
  | _ => none
/-- the asks, or the first wrong place -/
def askAll (S : Sto) : Int → Nat → List D → (List (Int × Int)) ⊕ Nat
  | _, _, [] => .inl []
  | least, j, d :: r => match askOf S least d with
    | none => .inr j
    | some (a, b) => match askAll S a (j + 1) r with
      | .inl l => .inl ((a, b) :: l)
      | .inr p => .inr p
/-- what checked_asks tells of a value: more than 40, or no row: the place 0 -/
def asksOf (S : Sto) (d : D) : (List (Int × Int)) ⊕ Nat := match seqA S d with
  | some xs => if xs.length ≤ 40 then askAll S 0 0 xs else .inr 0
  | none => .inr 0
/-- items whose classes are known, and their items -/
def KnAsks (S : Sto) (d : D) : Prop := Kn S d ∧ ∀ xs, seqA S d = some xs → ∀ x, x ∈ xs → Kn S x ∧ ∀ ys, seqA S x = some ys → ∀ y, y ∈ ys → Kn S y
/-- the ends of the asks, letter by letter at a speed -/
def endStep (speed : Int) (st : Int × Int × List Int) (ask : Int × Int) : Int × Int × List Int :=
  let tick := if st.1 < ask.1 then ask.1 else st.1
  let served := (if st.1 < ask.1 then 0 else st.2.1) + ask.2
  let tick2 := tick + (served - 1) / speed
  (tick2, (served - 1) % speed + 1, st.2.2 ++ [tick2])
def endsF (speed : Int) (asks : List (Int × Int)) : List Int := (asks.foldl (endStep speed) (0, 0, [])).2.2
def dPair (p : Int × Int) : D := .tup [.int p.1, .int p.2]
def sp_is_integer (c : Cl) : Ctr := fun ds S Q _ => ∃ d, ds = [d] ∧ Kn S d ∧ Q (.bl (isInt d)) S
def sp_is_from_to (c : Cl) : Ctr := fun ds S Q _ => ∃ d l m, ds = [d, .int l, .int m] ∧ Kn S d ∧ Q (.bl (inR l m d)) S
def sp_is_row (c : Cl) : Ctr := fun ds S Q _ => ∃ d, ds = [d] ∧ Kn S d ∧ Q (.bl (seqA S d).isSome) S
def sp_check_number (c : Cl) : Ctr := fun ds S Q E => ∃ d l m, ds = [d, .int l, .int m] ∧ Kn S d ∧ (inR l m d = true → Q .non S) ∧ (inR l m d = false → E c.InvalidNumber [("number", d)] S)
def lenR (S : Sto) (l m : Int) (d : D) : Bool := match seqA S d with
  | some xs => decide (l ≤ (xs.length : Int) ∧ (xs.length : Int) ≤ m)
  | none => false
def sp_check_length (c : Cl) : Ctr := fun ds S Q E => ∃ d l m, ds = [d, .int l, .int m] ∧ Kn S d ∧ (lenR S l m d = true → Q .non S) ∧ (lenR S l m d = false → E c.InvalidRow [("place", .int 0)] S)
def sp_is_ask (c : Cl) : Ctr := fun ds S Q _ => ∃ d l, ds = [d, .int l] ∧ (Kn S d ∧ ∀ ys, seqA S d = some ys → ∀ y, y ∈ ys → Kn S y) ∧ Q (.bl (askOf S l d).isSome) S
/-- what stands stands on -/
def Ext (S S' : Sto) : Prop := ∀ a m, S a = some m → S' a = some m
def sp_checked_asks (c : Cl) : Ctr := fun ds S Q E => ∃ d, ds = [d] ∧ KnAsks S d ∧ (∀ l, asksOf S d = .inl l → Q (.lst (l.map dPair)) S) ∧ (∀ p, asksOf S d = .inr p → ∀ S', Ext S S' → E c.InvalidRow [("place", .int (p : Nat))] S')
def sp_queue_ends (c : Cl) : Ctr := fun ds S Q E => ∃ d v, ds = [d, v] ∧ KnAsks S d ∧ Kn S v ∧ (∀ p, asksOf S d = .inr p → ∀ S', Ext S S' → E c.InvalidRow [("place", .int (p : Nat))] S') ∧
  (∀ l, asksOf S d = .inl l → (inR 1 100 v = false → E c.InvalidNumber [("number", v)] S) ∧ (∀ s, v = .int s → inR 1 100 v = true → Q (dT (endsF s l)) S))
/-! ### the pool of draws -/
structure Pool where
  seed : Int
  n : Int
  great : List Int
  m : Int
def PoolOk (N : Int) (h : Pool) : Prop := (0 ≤ h.seed ∧ h.seed < 2147483648) ∧ (0 ≤ h.n ∧ h.n ≤ N) ∧ h.great.length ≤ 63 ∧ (0 ≤ h.m ∧ h.m ≤ 60)
def poolMO (g : Addr) (h : Pool) : MO := .lst [.int h.seed, .int h.n, .ref g, .int h.m]
/-- the store with the pool h at p, its great cells at g -/
def inPool (S : Sto) (p g : Addr) (h : Pool) : Sto := put (put S p (poolMO g h)) g (.lst (h.great.map D.int))
def IsPool (S : Sto) (p g : Addr) (N : Int) : Prop := p ≠ g ∧ ∃ h, PoolOk N h ∧ S p = some (poolMO g h) ∧ S g = some (.lst (h.great.map D.int))
def sp__law_pool (c : Cl) : Ctr := fun ds S Q _ => ∃ cells : List Int, ds = [.fro (cells.map D.int)] ∧ cells.length ≤ 63 ∧ ∀ p g h, p ≠ g → S p = none → S g = none → PoolOk 0 h → Q (.ref p) (inPool S p g h)
def sp__law_draw (c : Cl) : Ctr := fun ds S Q _ => ∃ p g N n, ds = [.ref p, .int n] ∧ IsPool S p g N ∧ N ≤ 1000000 ∧ (0 < n ∧ n ≤ 10000000) ∧ ∀ r, 0 ≤ r → r < n → ∀ h, PoolOk (N + 1) h → Q (.int r) (inPool S p g h)
/-! ### trees in the store -/
mutual
/-- d, its lists looked up, is the tree t -/
def Tr (S : Sto) (d : D) : D → Prop
  | .lst ts => ∃ xs, seqM S d = some xs ∧ Trs S xs ts
  | .tup ts => ∃ xs, d = .tup xs ∧ Trs S xs ts
  | .non => d = .non
  | .bl b => d = .bl b
  | .int i => d = .int i
  | .str x => d = .str x
  | _ => False
def Trs (S : Sto) (ds : List D) : List D → Prop
  | [] => ds = []
  | t :: ts => ∃ x r, ds = x :: r ∧ Tr S x t ∧ Trs S r ts
end
/-- a tree of a depth, not too wide -/
def fits : Nat → D → Prop
  | _, .non => True
  | _, .bl _ => True
  | _, .int _ => True
  | _, .str x => (PyData.str x).canLay0 = true
  | n + 1, .lst xs => xs.length ≤ 1000 ∧ ∀ x, x ∈ xs → fits n x
  | n + 1, .tup xs => xs.length ≤ 1000 ∧ ∀ x, x ∈ xs → fits n x
  | _, _ => False
def sp__law_like_n (c : Cl) (n : Nat) : Ctr := fun ds S Q _ => match n with
  | 0 => False
  | n + 1 => ∃ a b t, ds = [a, b] ∧ Tr S a t ∧ Tr S b t ∧ fits n t ∧ Q (.bl true) S
def sp__law_like (c : Cl) : Ctr := fun ds S Q _ => ∃ a b t, ds = [a, b] ∧ Tr S a t ∧ Tr S b t ∧ fits 5 t ∧ Q (.bl true) S
-- d, its lists all in the store, is the tree; the addresses of its lists
mutual
def TrF (S : Sto) (d : D) : D → List Addr → Prop
  | .lst ts, fp => ∃ a xs r, d = .ref a ∧ S a = some (.lst xs) ∧ fp = a :: r ∧ TrsF S xs ts r
  | .tup ts, fp => ∃ xs, d = .tup xs ∧ TrsF S xs ts fp
  | .non, fp => d = .non ∧ fp = []
  | .bl b, fp => d = .bl b ∧ fp = []
  | .int i, fp => d = .int i ∧ fp = []
  | .str x, fp => d = .str x ∧ fp = []
  | _, _ => False
def TrsF (S : Sto) (ds : List D) : List D → List Addr → Prop
  | [], fp => ds = [] ∧ fp = []
  | t :: ts, fp => ∃ x r f1 f2, ds = x :: r ∧ fp = f1 ++ f2 ∧ TrF S x t f1 ∧ TrsF S r ts f2
end
def sp__law_copy_n (c : Cl) (n : Nat) : Ctr := fun ds S Q _ => match n with
  | 0 => False
  | n + 1 => ∃ d t, ds = [d] ∧ Tr S d t ∧ fits n t ∧ ∀ S' d' fp, Ext S S' → TrF S' d' t fp → fp.Nodup → (∀ a, a ∈ fp → S a = none) → Q d' S'
def sp__law_copy (c : Cl) : Ctr := fun ds S Q _ => ∃ d t, ds = [d] ∧ Tr S d t ∧ fits 5 t ∧ ∀ S' d' fp, Ext S S' → TrF S' d' t fp → fp.Nodup → (∀ a, a ∈ fp → S a = none) → Q d' S'
/-- what stands, but the pool, stands on -/
def Ext2 (p g : Addr) (S S' : Sto) : Prop := ∀ a m, a ≠ p → a ≠ g → S a = some m → S' a = some m
/-- a tree that no draw changes -/
def TrP (p g : Addr) (S : Sto) (d t : D) : Prop := ∀ S', Ext2 p g S S' → Tr S' d t
def noS : Sto := fun _ => none
def dPairL (p : Int × Int) : D := .lst [.int p.1, .int p.2]
/-- asks as the law makes them -/
def AsksG (l : List (Int × Int)) : Prop := l.length ≤ 40 ∧ (∀ p, p ∈ l → 0 ≤ p.1 ∧ p.1 ≤ 1000000 ∧ 1 ≤ p.2 ∧ p.2 ≤ 1000) ∧ l.Pairwise fun a b => a.1 ≤ b.1
/-- a wrong number -/
def BadV (top : Int) (v : D) : Prop := (∀ S, Tr S v v) ∧ (∀ n, fits (n + 1) v) ∧ inR 1 top v = false
def sp__law_bad (c : Cl) : Ctr := fun ds S Q _ => ∃ p g N top, ds = [.ref p, .int top] ∧ (top = 100 ∨ top = 1000) ∧ IsPool S p g N ∧ N ≤ 950000 ∧ ∀ v, BadV top v → ∀ h, PoolOk (N + 1) h → Q v (inPool S p g h)
/-! ### buckets -/
def N_Bucket : List Str := ["room", "each", "tokens", "tick"]
/-- the tokens that come between two ticks -/
def tb (each a b : Int) : Int := b / each - a / each
/-- tokens, tick, what was let by: one ask more -/
def bStep (room each : Int) (st : Int × Int × List Bool) (ask : Int × Int) : Int × Int × List Bool :=
  let t := min room (st.1 + tb each st.2.1 ask.1)
  (if ask.2 ≤ t then t - ask.2 else t, ask.1, st.2.2 ++ [decide (ask.2 ≤ t)])
def bRun (room each : Int) (l : List (Int × Int)) : Int × Int × List Bool := l.foldl (bStep room each) (room, 0, [])
def letsF (room each : Int) (l : List (Int × Int)) : List Bool := (bRun room each l).2.2
def lastF (l : List (Int × Int)) : Int := match l.getLast? with
  | some p => p.1
  | none => 0
def atF (room each : Int) (l : List (Int × Int)) (t : Int) : Int := min room ((bRun room each l).1 + tb each (bRun room each l).2.1 t)
def dB (bs : List Bool) : D := .tup (bs.map D.bl)
def buMO (c : Cl) (room each tokens tick : Int) : MO := .ins c.Bucket N_Bucket [some (.int room), some (.int each), some (.int tokens), some (.int tick)]
def sp_check_bucket (c : Cl) : Ctr := fun ds S Q E => ∃ r e, ds = [r, e] ∧ Kn S r ∧ Kn S e ∧ (inR 1 1000 r = false → E c.InvalidNumber [("number", r)] S) ∧ (inR 1 1000 r = true → inR 1 100 e = false → E c.InvalidNumber [("number", e)] S) ∧
  (inR 1 1000 r = true → inR 1 100 e = true → Q .non S)
def sp_tokens_between (c : Cl) : Ctr := fun ds S Q _ => ∃ each a b, ds = [.int each, .int a, .int b] ∧ (1 ≤ each ∧ each ≤ 100) ∧ Q (.int (tb each a b)) S
def sp_Bucket_init (c : Cl) : Ctr := fun ds S Q _ => ∃ a room each, ds = [.ref a, .int room, .int each] ∧ S a = some (.ins c.Bucket N_Bucket (noneV N_Bucket)) ∧ Q .non (put S a (buMO c room each room 0))
def sp_Bucket_go_to (c : Cl) : Ctr := fun ds S Q _ => ∃ a r e tk ti t, ds = [.ref a, .int t] ∧ S a = some (buMO c r e tk ti) ∧ (1 ≤ e ∧ e ≤ 100) ∧ Q .non (put S a (buMO c r e (min r (tk + tb e ti t)) t))
def sp_Bucket_take (c : Cl) : Ctr := fun ds S Q _ => ∃ a r e tk ti m, ds = [.ref a, .int m] ∧ S a = some (buMO c r e tk ti) ∧ Q (.bl (decide (m ≤ tk))) (put S a (buMO c r e (if m ≤ tk then tk - m else tk) ti))
/-- the first thing that is wrong with a bucket and asks -/
structure Wrong (c : Cl) (S : Sto) (r e d : D) (E : XQ) : Prop where
  room : inR 1 1000 r = false → E c.InvalidNumber [("number", r)] S
  each : inR 1 1000 r = true → inR 1 100 e = false → E c.InvalidNumber [("number", e)] S
  asks : inR 1 1000 r = true → inR 1 100 e = true → ∀ p, asksOf S d = .inr p → ∀ S', Ext S S' → E c.InvalidRow [("place", .int (p : Nat))] S'
def sp_let_by (c : Cl) : Ctr := fun ds S Q E => ∃ r e d, ds = [r, e, d] ∧ Kn S r ∧ Kn S e ∧ KnAsks S d ∧ Wrong c S r e d E ∧
  (∀ l room each, r = .int room → e = .int each → (1 ≤ room ∧ room ≤ 1000) → (1 ≤ each ∧ each ≤ 100) → asksOf S d = .inl l → ∀ S', Ext S S' → Q (dB (letsF room each l)) S')
/-- a bucket's numbers and asks as the law holds them -/
def BuOk (room each : Int) (l : List (Int × Int)) : Prop := (0 ≤ room ∧ room ≤ 50000) ∧ (1 ≤ each ∧ each ≤ 100) ∧ AsksG l
def sp__law_build (c : Cl) : Ctr := fun ds S Q _ => ∃ p g N room each many limit, ds = [.ref p, .int room, .int each, .int many, .int limit] ∧ (1 ≤ room ∧ room ≤ 1000) ∧ (1 ≤ each ∧ each ≤ 100) ∧ (0 ≤ many ∧ many ≤ 40) ∧ (20 ≤ limit ∧ limit ≤ 1000000) ∧ IsPool S p g N ∧ N ≤ 900000 ∧
  ∀ l h, AsksG l → (l.length : Int) = many → PoolOk (N + 300) h → (∀ p, p ∈ l → p.1 ≤ limit) → Q (.lst (l.map dPairL)) (inPool S p g h)
def PairsT (t : D) (l : List (Int × Int)) : Prop := t = .lst (l.map dPairL) ∨ t = .tup (l.map dPair)
/-- from one ask on: the total, the greatest lack so far -/
def inF (each b0 : Int) (st : Int × Int) (p : Int × Int) : Int × Int := (st.1 + p.2, max st.2 (st.1 + p.2 - tb each b0 p.1))
def nbGo (each : Int) : Int → List (Int × Int) → Int
  | most, [] => most
  | most, p :: r => nbGo each ((p :: r).foldl (inF each p.1) (0, most)).2 r
def nbF (each : Int) (l : List (Int × Int)) : Int := nbGo each 0 l
def sp_least_room (c : Cl) : Ctr := fun ds S Q E => ∃ e d, ds = [e, d] ∧ Kn S e ∧ KnAsks S d ∧ (inR 1 100 e = false → E c.InvalidNumber [("number", e)] S) ∧ (inR 1 100 e = true → ∀ p, asksOf S d = .inr p → ∀ S', Ext S S' → E c.InvalidRow [("place", .int (p : Nat))] S') ∧
  (∀ l each, e = .int each → (1 ≤ each ∧ each ≤ 100) → asksOf S d = .inl l → Q (.int (nbF each l)) S)
/-- asks however held -/
def PAt (S : Sto) (d : D) (l : List (Int × Int)) : Prop := ∃ xs, seqA S d = some xs ∧ xs.length = l.length ∧ ∀ (k : Nat) p, l[k]? = some p → ∃ x, xs[k]? = some x ∧ seqA S x = some [.int p.1, .int p.2]
def sp__law_ticks (c : Cl) : Ctr := fun ds S Q _ => ∃ room each d l u, ds = [.int room, .int each, d, .int u] ∧ PAt S d l ∧ BuOk room each l ∧ (lastF l ≤ u ∧ u ≤ 1000000) ∧ Q (.lst [dB (letsF room each l), .int (atF room each l u)]) S
def sp__law_leaps (c : Cl) : Ctr := fun ds S Q _ => ∃ room each d l u, ds = [.int room, .int each, d, .int u] ∧ PAt S d l ∧ BuOk room each l ∧ Q (.lst [dB (letsF room each l), .int (atF room each l u)]) S
def sp__law_whole_ticks (c : Cl) : Ctr := fun ds S Q _ => ∃ d l s, ds = [d, .int s] ∧ PAt S d l ∧ AsksG l ∧ (1 ≤ s ∧ s ≤ 100) ∧ Q (dT (endsF s l)) S
def sp__law_neighbors (c : Cl) : Ctr := fun ds S Q _ => ∃ each d l, ds = [.int each, d] ∧ PAt S d l ∧ (1 ≤ each ∧ each ≤ 100) ∧ AsksG l ∧ Q (.int (nbF each l)) S
/-- the longest delay -/
def delF (room s : Int) : Int := (room + s - 1) / s - 1
def Rm (room each s : Int) : Prop := (1 ≤ room ∧ room ≤ 1000) ∧ (1 ≤ each ∧ each ≤ 100) ∧ (1 ≤ s ∧ s ≤ 100)
def sp_longest_delay (c : Cl) : Ctr := fun ds S Q E => ∃ r e s, ds = [r, e, s] ∧ Kn S r ∧ Kn S e ∧ Kn S s ∧ (inR 1 1000 r = false → E c.InvalidNumber [("number", r)] S) ∧ (inR 1 1000 r = true → inR 1 100 e = false → E c.InvalidNumber [("number", e)] S) ∧
  (inR 1 1000 r = true → inR 1 100 e = true → inR 1 100 s = false → E c.InvalidNumber [("number", s)] S) ∧ (∀ room each sp, r = .int room → e = .int each → s = .int sp → Rm room each sp → Q (.int (delF room sp)) S)
def sp__law_waits (c : Cl) : Ctr := fun ds S Q _ => ∃ room each s, ds = [.int room, .int each, .int s] ∧ Rm room each s ∧ ∀ S', Ext S S' → Q (.int (delF room s)) S'
def sp__law_due (c : Cl) : Ctr := fun ds S Q _ => ∃ room each s, ds = [.int room, .int each, .int s] ∧ Rm room each s ∧ ∀ S', Ext S S' → Q (.int (delF room s)) S'
def tellOf (r e s : D) : D := if inR 1 1000 r = true then (if inR 1 100 e = true then (if inR 1 100 s = true then .lst [.str "none"] else .lst [.str "number", s]) else .lst [.str "number", e]) else .lst [.str "number", r]
def sp__law_refused (c : Cl) : Ctr := fun ds S Q _ => ∃ r e s, ds = [r, e, s] ∧ Kn S r ∧ Kn S e ∧ Kn S s ∧ Q (tellOf r e s) S
def sp__law_refusals (c : Cl) : Ctr := fun ds S Q _ => ∃ p g N room each s, ds = [.ref p, .int room, .int each, .int s] ∧ Rm room each s ∧ IsPool S p g N ∧ N ≤ 900000 ∧ ∀ S', Ext2 p g S S' → IsPool S' p g (N + 50) → Q (.bl true) S'
def sp__law_lets (c : Cl) : Ctr := fun ds S Q _ => ∃ room each d l, ds = [.int room, .int each, d] ∧ (1 ≤ room ∧ room ≤ 1000) ∧ (1 ≤ each ∧ each ≤ 100) ∧ AsksG l ∧ Tr S d (.lst (l.map dPairL)) ∧ ∀ S', Ext S S' → Q (dB (letsF room each l)) S'
def sp__law_behind (c : Cl) : Ctr := fun ds S Q _ => ∃ room each s d l, ds = [.int room, .int each, .int s, d, .int (delF room s)] ∧ Rm room each s ∧ AsksG l ∧ (letsF room each l).all id = true ∧ Tr S d (.lst (l.map dPairL)) ∧ ∀ S', Ext S S' → Q (.bl true) S'
def sp__law_burst (c : Cl) : Ctr := fun ds S Q _ => ∃ p g N room each s d l, ds = [.ref p, .int room, .int each, .int s, d, .int (delF room s)] ∧ Rm room each s ∧ AsksG l ∧ l.length ≤ 38 ∧ lastF l ≤ 500000 ∧ (letsF room each l).all id = true ∧ TrP p g S d (.lst (l.map dPairL)) ∧ IsPool S p g N ∧ N ≤ 900000 ∧
  ∀ S', Ext2 p g S S' → IsPool S' p g (N + 10) → Q (.bl true) S'
def sp_law (c : Cl) : Ctr := fun ds S Q _ => ∃ cells : List Int, ds = [.fro (cells.map D.int)] ∧ cells.length ≤ 63 ∧ ∀ S', Q (.bl true) S'
end K41
set_option Elab.async false
set_option linter.all false
set_option maxRecDepth 100000
set_option maxHeartbeats 4000000
namespace K41
open PySem PySem.Spec PyProof.Rows L2 DL
def N_is_integer_ : List Str := ["value"]
/-- is_integer: slots 0 value, -/
def w_is_integer (c : Cl) : WPs := (wRet (wAndV (wIsi "int" (wVar 0)) (wNotV (wIsi "bool" (wVar 0)))))
def N_is_from_to_ : List Str := ["value", "least", "most"]
/-- is_from_to: slots 0 value, 1 least, 2 most, -/
def w_is_from_to (c : Cl) : WPs := (wRet (wAndV (wCall (sp_is_integer c) (wCons (wVar 0) wNil)) (wChain oLe oLe (wVar 1) (wVar 0) (wVar 2))))
def N_is_row_ : List Str := ["value"]
/-- is_row: slots 0 value, -/
def w_is_row (c : Cl) : WPs := (wRet (wIsiT ["tuple", "list"] (wVar 0)))
def N_check_number_ : List Str := ["value", "least", "most"]
/-- check_number: slots 0 value, 1 least, 2 most, -/
def w_check_number (c : Cl) : WPs := (wIf (wNot (wTest (wCall (sp_is_from_to c) (wCons (wVar 0) (wCons (wVar 1) (wCons (wVar 2) wNil)))))) (wRaise (wMkE c.InvalidNumber "number" (wVar 0))) wNext)
def N_check_length_ : List Str := ["value", "least", "most"]
/-- check_length: slots 0 value, 1 least, 2 most, -/
def w_check_length (c : Cl) : WPs := (wIf (wOr (wNot (wTest (wCall (sp_is_row c) (wCons (wVar 0) wNil)))) (wNot (wTest (wChain oLe oLe (wVar 1) (wCB oLen (wCons (wVar 0) wNil)) (wVar 2))))) (wRaise (wMkE c.InvalidRow "place" (wC (.int 0)))) wNext)
def N_is_ask_ : List Str := ["value", "least"]
/-- is_ask: slots 0 value, 1 least, -/
def w_is_ask (c : Cl) : WPs := (wSeq (wIf (wOr (wNot (wTest (wCall (sp_is_row c) (wCons (wVar 0) wNil)))) (wTest (wBin oNe (wCB oLen (wCons (wVar 0) wNil)) (wC (.int 2))))) (wRet (wC (.bl false))) wNext)
  (wRet (wAndV (wCall (sp_is_from_to c) (wCons (wBin oIx (wVar 0) (wC (.int 0))) (wCons (wVar 1) (wCons (wC (.int (1000000))) wNil)))) (wCall (sp_is_from_to c) (wCons (wBin oIx (wVar 0) (wC (.int 1))) (wCons (wC (.int 1)) (wCons (wC (.int (1000))) wNil)))))))
def N_checked_asks_ : List Str := ["asks", "least", "found", "place", "ask"]
/-- checked_asks: slots 0 asks, 1 least, 2 found, 3 place, 4 ask, -/
def w_checked_asks (c : Cl) : WPs := (wSeq (wDrop (wCall (sp_check_length c) (wCons (wVar 0) (wCons (wC (.int 0)) (wCons (wC (.int (40))) wNil)))))
  (wSeq (wSet 1 (wC (.int 0)))
  (wSeq (wSet 2 (wLstM wNil))
  (wSeq (wFor (wEnum (wVar 0)) (gT [(gN 3), (gN 4)]) (wSeq (wIf (wNot (wTest (wCall (sp_is_ask c) (wCons (wVar 4) (wCons (wVar 1) wNil))))) (wRaise (wMkE c.InvalidRow "place" (wVar 3))) wNext)
  (wSeq (wSet 1 (wBin oIx (wVar 4) (wC (.int 0))))
  (wDrop (wMt oAppend (wVar 2) (wCons (wCB oTuple (wCons (wVar 4) wNil)) wNil))))))
  (wRet (wFrz (wVar 2)))))))
def N_check_bucket_ : List Str := ["room", "each"]
/-- check_bucket: slots 0 room, 1 each, -/
def w_check_bucket (c : Cl) : WPs := (wSeq (wDrop (wCall (sp_check_number c) (wCons (wVar 0) (wCons (wC (.int 1)) (wCons (wC (.int (1000))) wNil)))))
  (wDrop (wCall (sp_check_number c) (wCons (wVar 1) (wCons (wC (.int 1)) (wCons (wC (.int (100))) wNil))))))
def N_tokens_between_ : List Str := ["each", "tick", "later"]
/-- tokens_between: slots 0 each, 1 tick, 2 later, -/
def w_tokens_between (c : Cl) : WPs := (wRet (wBin oSub (wBin oDiv (wVar 2) (wVar 0)) (wBin oDiv (wVar 1) (wVar 0))))
def N_Bucket_init_ : List Str := ["self", "room", "each"]
/-- Bucket.__init__: slots 0 self, 1 room, 2 each, -/
def w_Bucket_init (c : Cl) : WPs := (wSeq (wSetF c.Bucket N_Bucket 0 (wVar 0) (wVar 1))
  (wSeq (wSetF c.Bucket N_Bucket 1 (wVar 0) (wVar 2))
  (wSeq (wSetF c.Bucket N_Bucket 2 (wVar 0) (wVar 1))
  (wSetF c.Bucket N_Bucket 3 (wVar 0) (wC (.int 0))))))
def N_Bucket_go_to_ : List Str := ["self", "tick"]
/-- Bucket.go_to: slots 0 self, 1 tick, -/
def w_Bucket_go_to (c : Cl) : WPs := (wSeq (wSetF c.Bucket N_Bucket 2 (wVar 0) (wCB oMin2 (wCons (wFld c.Bucket N_Bucket 0 (wVar 0)) (wCons (wBin oAdd (wFld c.Bucket N_Bucket 2 (wVar 0)) (wCall (sp_tokens_between c) (wCons (wFld c.Bucket N_Bucket 1 (wVar 0)) (wCons (wFld c.Bucket N_Bucket 3 (wVar 0)) (wCons (wVar 1) wNil))))) wNil))))
  (wSetF c.Bucket N_Bucket 3 (wVar 0) (wVar 1)))
def N_Bucket_take_ : List Str := ["self", "many"]
/-- Bucket.take: slots 0 self, 1 many, -/
def w_Bucket_take (c : Cl) : WPs := (wSeq (wIf (wTest (wBin oGt (wVar 1) (wFld c.Bucket N_Bucket 2 (wVar 0)))) (wRet (wC (.bl false))) wNext)
  (wSeq (wAugF c.Bucket N_Bucket 2 oSub (wVar 0) (wVar 1))
  (wRet (wC (.bl true)))))
def N_let_by_ : List Str := ["room", "each", "asks", "bucket", "found", "tick", "many"]
/-- let_by: slots 0 room, 1 each, 2 asks, 3 bucket, 4 found, 5 tick, 6 many, -/
def w_let_by (c : Cl) : WPs := (wSeq (wDrop (wCall (sp_check_bucket c) (wCons (wVar 0) (wCons (wVar 1) wNil))))
  (wSeq (wSet 3 (wMake c.Bucket N_Bucket (sp_Bucket_init c) (wCons (wVar 0) (wCons (wVar 1) wNil))))
  (wSeq (wSet 4 (wLstM wNil))
  (wSeq (wFor (wIt (wCall (sp_checked_asks c) (wCons (wVar 2) wNil))) (gT [(gN 5), (gN 6)]) (wSeq (wDrop (wMeth c.Bucket N_Bucket (sp_Bucket_go_to c) (wVar 3) (wCons (wVar 5) wNil)))
  (wDrop (wMt oAppend (wVar 4) (wCons (wMeth c.Bucket N_Bucket (sp_Bucket_take c) (wVar 3) (wCons (wVar 6) wNil)) wNil)))))
  (wRet (wCB oTuple (wCons (wFrz (wVar 4)) wNil)))))))
def N_least_room_ : List Str := ["each", "asks", "row", "most", "first", "total", "tick", "many"]
/-- least_room: slots 0 each, 1 asks, 2 row, 3 most, 4 first, 5 total, 6 tick, 7 many, -/
def w_least_room (c : Cl) : WPs := (wSeq (wDrop (wCall (sp_check_number c) (wCons (wVar 0) (wCons (wC (.int 1)) (wCons (wC (.int (100))) wNil)))))
  (wSeq (wSet 2 (wCall (sp_checked_asks c) (wCons (wVar 1) wNil)))
  (wSeq (wSet 3 (wC (.int 0)))
  (wSeq (wFor (wRg1 (wCB oLen (wCons (wVar 2) wNil))) (gN 4) (wSeq (wSet 5 (wC (.int 0)))
  (wFor (wIt (wSl (wVar 2) (wP (wVar 4)) wNoP)) (gT [(gN 6), (gN 7)]) (wSeq (wAug 5 (oI0 fun i j => .int (i + j)) (wVar 7))
  (wSet 3 (wCB oMax2 (wCons (wVar 3) (wCons (wBin oSub (wVar 5) (wCall (sp_tokens_between c) (wCons (wVar 0) (wCons (wBin oIx (wBin oIx (wVar 2) (wVar 4)) (wC (.int 0))) (wCons (wVar 6) wNil))))) wNil))))))))
  (wRet (wVar 3))))))
def N_queue_ends_ : List Str := ["asks", "speed", "row", "tick", "served", "found", "begin", "many"]
/-- queue_ends: slots 0 asks, 1 speed, 2 row, 3 tick, 4 served, 5 found, 6 begin, 7 many, -/
def w_queue_ends (c : Cl) : WPs := (wSeq (wSet 2 (wCall (sp_checked_asks c) (wCons (wVar 0) wNil)))
  (wSeq (wDrop (wCall (sp_check_number c) (wCons (wVar 1) (wCons (wC (.int 1)) (wCons (wC (.int (100))) wNil)))))
  (wSeq (wSet 3 (wC (.int 0)))
  (wSeq (wSet 4 (wC (.int 0)))
  (wSeq (wSet 5 (wLstM wNil))
  (wSeq (wFor (wIt (wVar 2)) (gT [(gN 6), (gN 7)]) (wSeq (wIf (wTest (wBin oGt (wVar 6) (wVar 3))) (wSeq (wSet 3 (wVar 6))
  (wSet 4 (wC (.int 0)))) wNext)
  (wSeq (wAug 4 (oI0 fun i j => .int (i + j)) (wVar 7))
  (wSeq (wAug 3 (oI0 fun i j => .int (i + j)) (wBin oDiv (wBin oSub (wVar 4) (wC (.int 1))) (wVar 1)))
  (wSeq (wSet 4 (wBin oAdd (wBin oMod (wBin oSub (wVar 4) (wC (.int 1))) (wVar 1)) (wC (.int 1))))
  (wDrop (wMt oAppend (wVar 5) (wCons (wVar 3) wNil))))))))
  (wRet (wCB oTuple (wCons (wFrz (wVar 5)) wNil)))))))))
def N_longest_delay_ : List Str := ["room", "each", "speed"]
/-- longest_delay: slots 0 room, 1 each, 2 speed, -/
def w_longest_delay (c : Cl) : WPs := (wSeq (wDrop (wCall (sp_check_bucket c) (wCons (wVar 0) (wCons (wVar 1) wNil))))
  (wSeq (wDrop (wCall (sp_check_number c) (wCons (wVar 2) (wCons (wC (.int 1)) (wCons (wC (.int (100))) wNil)))))
  (wRet (wBin oSub (wBin oDiv (wBin oSub (wBin oAdd (wVar 0) (wVar 2)) (wC (.int 1))) (wVar 2)) (wC (.int 1))))))
def N__law_pool_ : List Str := ["script", "seed", "great", "k", "cell"]
/-- _law_pool: slots 0 script, 1 seed, 2 great, 3 k, 4 cell, -/
def w__law_pool (c : Cl) : WPs := (wSeq (wSet 1 (wC (.int 7)))
  (wSeq (wSet 2 (wLstM wNil))
  (wSeq (wFor (wRg1 (wCB oMin2 (wCons (wCB oLen (wCons (wVar 0) wNil)) (wCons (wC (.int 63)) wNil)))) (gN 3) (wSeq (wSet 4 (wCB oInt (wCons (wBin oIx (wVar 0) (wVar 3)) wNil)))
  (wSeq (wIf (wTest (wBin oGe (wVar 4) (wBin oPow (wC (.int 10)) (wC (.int 18))))) (wDrop (wMt oAppend (wVar 2) (wCons (wVar 4) wNil))) wNext)
  (wSet 1 (wBin oMod (wCB oInt (wCons (wBin oAdd (wBin oAdd (wBin oMul (wVar 1) (wVar 1)) (wBin oMod (wCB oInt (wCons (wVar 4) wNil)) (wC (.int 1000000007)))) (wBin oMul (wC (.int 31)) (wVar 3))) wNil)) (wC (.int 2147483647)))))))
  (wRet (wLstM (wCons (wVar 1) (wCons (wC (.int 0)) (wCons (wVar 2) (wCons (wC (.int 0)) wNil)))))))))
def N__law_draw_ : List Str := ["pool", "many", "great", "told", "seed"]
/-- _law_draw: slots 0 pool, 1 many, 2 great, 3 told, 4 seed, -/
def w__law_draw (c : Cl) : WPs := (wSeq (wSetI (wVar 0) (wC (.int 1)) (wBin oAdd (wBin oIx (wVar 0) (wC (.int 1))) (wC (.int 1))))
  (wSeq (wSet 2 (wBin oIx (wVar 0) (wC (.int 2))))
  (wSeq (wIf (wTest (wBin oGt (wCB oLen (wCons (wVar 2) wNil)) (wC (.int 0)))) (wSeq (wSet 3 (wBin oMod (wCB oInt (wCons (wBin oIx (wVar 2) (wC (.int 0))) wNil)) (wVar 1)))
  (wSeq (wSetI (wVar 2) (wC (.int 0)) (wBin oDiv (wBin oIx (wVar 2) (wC (.int 0))) (wVar 1)))
  (wSeq (wSetI (wVar 0) (wC (.int 3)) (wBin oAdd (wBin oIx (wVar 0) (wC (.int 3))) (wC (.int 1))))
  (wSeq (wIf (wOr (wTest (wBin oEq (wBin oIx (wVar 2) (wC (.int 0))) (wC (.int 0)))) (wTest (wBin oGe (wBin oIx (wVar 0) (wC (.int 3))) (wC (.int 60))))) (wSeq (wDrop (wMt oPopAt (wVar 2) (wCons (wC (.int 0)) wNil)))
  (wSetI (wVar 0) (wC (.int 3)) (wC (.int 0)))) wNext)
  (wRet (wVar 3)))))) wNext)
  (wSeq (wSet 4 (wBin oMod (wCB oInt (wCons (wBin oAdd (wBin oMul (wBin oIx (wVar 0) (wC (.int 0))) (wBin oIx (wVar 0) (wC (.int 0)))) (wBin oMul (wC (.int 40503)) (wBin oIx (wVar 0) (wC (.int 1))))) wNil)) (wC (.int 2147483647))))
  (wSeq (wSetI (wVar 0) (wC (.int 0)) (wBin oMod (wCB oInt (wCons (wBin oAdd (wBin oMul (wVar 4) (wVar 4)) (wBin oIx (wVar 0) (wC (.int 1)))) wNil)) (wC (.int 2147483629))))
  (wRet (wBin oMod (wCB oInt (wCons (wBin oDiv (wBin oIx (wVar 0) (wC (.int 0))) (wC (.int 7))) wNil)) (wVar 1))))))))
def N__law_like_ : List Str := ["told", "due", "k"]
/-- _law_like: slots 0 told, 1 due, 2 k, -/
def w__law_like (c : Cl) (n : Nat) : WPs := (wSeq (wIf (wTest (wIsiT ["tuple", "list"] (wVar 1))) (wSeq (wIf (wOr (wTest (wBin oNe (wIsi "tuple" (wVar 1)) (wIsi "tuple" (wVar 0)))) (wTest (wBin oNe (wIsi "list" (wVar 1)) (wIsi "list" (wVar 0))))) (wRet (wC (.bl false))) wNext)
  (wSeq (wIf (wTest (wBin oNe (wCB oLen (wCons (wVar 0) wNil)) (wCB oLen (wCons (wVar 1) wNil)))) (wRet (wC (.bl false))) wNext)
  (wSeq (wFor (wRg1 (wCB oLen (wCons (wVar 1) wNil))) (gN 2) (wIf (wNot (wTest (wCall (sp__law_like_n c n) (wCons (wBin oIx (wVar 0) (wVar 2)) (wCons (wBin oIx (wVar 1) (wVar 2)) wNil))))) (wRet (wC (.bl false))) wNext))
  (wRet (wC (.bl true)))))) wNext)
  (wSeq (wIf (wTest (wBin oIsN (wVar 1) (wC .non))) (wRet (wBin oIsN (wVar 0) (wC .non))) wNext)
  (wSeq (wIf (wTest (wIsi "bool" (wVar 1))) (wRet (wAndV (wIsi "bool" (wVar 0)) (wBin oEq (wVar 0) (wVar 1)))) wNext)
  (wSeq (wIf (wTest (wIsi "int" (wVar 1))) (wRet (wAndV (wIsi "int" (wVar 0)) (wAndV (wNotV (wIsi "bool" (wVar 0))) (wBin oEq (wVar 0) (wVar 1))))) wNext)
  (wRet (wAndV (wIsi "str" (wVar 1)) (wAndV (wIsi "str" (wVar 0)) (wBin oEq (wVar 0) (wVar 1)))))))))
def N__law_copy_ : List Str := ["value", "part"]
/-- _law_copy: slots 0 value, 1 part, -/
def w__law_copy (c : Cl) (n : Nat) : WPs := (wSeq (wIf (wTest (wIsi "list" (wVar 0))) (wRet (wLcM (wIt (wVar 0)) (gN 1) wYes (wCall (sp__law_copy_n c n) (wCons (wVar 1) wNil)) [1])) wNext)
  (wSeq (wIf (wTest (wIsi "tuple" (wVar 0))) (wRet (wCB oTuple (wCons (wLc (wIt (wVar 0)) (gN 1) wYes (wCall (sp__law_copy_n c n) (wCons (wVar 1) wNil)) [1]) wNil))) wNext)
  (wRet (wVar 0))))
def N__law_ticks_ : List Str := ["room", "each", "asks", "until", "tokens", "told", "tick", "k"]
/-- _law_ticks: slots 0 room, 1 each, 2 asks, 3 until, 4 tokens, 5 told, 6 tick, 7 k, -/
def w__law_ticks (c : Cl) : WPs := (wSeq (wSet 4 (wVar 0))
  (wSeq (wSet 5 (wLstM wNil))
  (wSeq (wFor (wRg1 (wBin oAdd (wVar 3) (wC (.int 1)))) (gN 6) (wSeq (wIf (wAnd (wTest (wBin oGt (wVar 6) (wC (.int 0)))) (wAnd (wTest (wBin oEq (wBin oMod (wCB oInt (wCons (wVar 6) wNil)) (wVar 1)) (wC (.int 0)))) (wTest (wBin oLt (wVar 4) (wVar 0))))) (wSet 4 (wBin oAdd (wVar 4) (wC (.int 1)))) wNext)
  (wFor (wRg2 (wCB oLen (wCons (wVar 5) wNil)) (wCB oLen (wCons (wVar 2) wNil))) (gN 7) (wSeq (wIf (wTest (wBin oGt (wBin oIx (wBin oIx (wVar 2) (wVar 7)) (wC (.int 0))) (wVar 6))) wBreak wNext)
  (wSeq (wDrop (wMt oAppend (wVar 5) (wCons (wBin oLe (wBin oIx (wBin oIx (wVar 2) (wVar 7)) (wC (.int 1))) (wVar 4)) wNil)))
  (wIf (wTest (wBin oLe (wBin oIx (wBin oIx (wVar 2) (wVar 7)) (wC (.int 1))) (wVar 4))) (wSet 4 (wBin oSub (wVar 4) (wBin oIx (wBin oIx (wVar 2) (wVar 7)) (wC (.int 1))))) wNext))))))
  (wRet (wLst (wCons (wCB oTuple (wCons (wFrz (wVar 5)) wNil)) (wCons (wVar 4) wNil)))))))
def N__law_leaps_ : List Str := ["room", "each", "asks", "until", "tokens", "last", "told", "row"]
/-- _law_leaps: slots 0 room, 1 each, 2 asks, 3 until, 4 tokens, 5 last, 6 told, 7 row, -/
def w__law_leaps (c : Cl) : WPs := (wSeq (wSet 4 (wVar 0))
  (wSeq (wSet 5 (wC (.int 0)))
  (wSeq (wSet 6 (wLstM wNil))
  (wSeq (wFor (wIt (wVar 2)) (gN 7) (wSeq (wSet 4 (wCB oMin2 (wCons (wCB oInt (wCons (wVar 0) wNil)) (wCons (wBin oSub (wBin oAdd (wVar 4) (wBin oDiv (wBin oIx (wVar 7) (wC (.int 0))) (wVar 1))) (wBin oDiv (wVar 5) (wVar 1))) wNil))))
  (wSeq (wSet 5 (wBin oIx (wVar 7) (wC (.int 0))))
  (wSeq (wDrop (wMt oAppend (wVar 6) (wCons (wBin oLe (wBin oIx (wVar 7) (wC (.int 1))) (wVar 4)) wNil)))
  (wIf (wTest (wBin oLe (wBin oIx (wVar 7) (wC (.int 1))) (wVar 4))) (wSet 4 (wBin oSub (wVar 4) (wBin oIx (wVar 7) (wC (.int 1))))) wNext)))))
  (wRet (wLst (wCons (wCB oTuple (wCons (wFrz (wVar 6)) wNil)) (wCons (wCB oMin2 (wCons (wCB oInt (wCons (wVar 0) wNil)) (wCons (wBin oSub (wBin oAdd (wVar 4) (wBin oDiv (wVar 3) (wVar 1))) (wBin oDiv (wVar 5) (wVar 1))) wNil))) wNil))))))))
def N__law_build_ : List Str := ["pool", "room", "each", "many", "limit", "asks", "tick", "tokens", "k", "kind", "step", "later", "size"]
/-- _law_build: slots 0 pool, 1 room, 2 each, 3 many, 4 limit, 5 asks, 6 tick, 7 tokens, 8 k, 9 kind, 10 step, 11 later, 12 size, -/
def w__law_build (c : Cl) : WPs := (wSeq (wSet 5 (wLstM wNil))
  (wSeq (wSet 6 (wC (.int 0)))
  (wSeq (wSet 7 (wVar 1))
  (wSeq (wFor (wRg1 (wVar 3)) (gN 8) (wSeq (wSet 9 (wCall (sp__law_draw c) (wCons (wVar 0) (wCons (wC (.int 7)) wNil))))
  (wSeq (wSet 10 (wBin oIx (wLst (wCons (wC (.int 0)) (wCons (wC (.int 0)) (wCons (wBin oSub (wVar 2) (wBin oMod (wCB oInt (wCons (wVar 6) wNil)) (wVar 2))) (wCons (wBin oSub (wBin oSub (wVar 2) (wBin oMod (wCB oInt (wCons (wVar 6) wNil)) (wVar 2))) (wC (.int 1))) (wCons (wC (.int 1)) (wCons (wC (.int 0)) (wCons (wC (.int 0)) wNil)))))))) (wVar 9)))
  (wSeq (wIf (wTest (wBin oEq (wVar 9) (wC (.int 5)))) (wSet 10 (wCall (sp__law_draw c) (wCons (wVar 0) (wCons (wBin oAdd (wBin oMul (wC (.int 3)) (wVar 2)) (wC (.int 1))) wNil)))) wNext)
  (wSeq (wIf (wTest (wBin oEq (wVar 9) (wC (.int 6)))) (wSet 10 (wCall (sp__law_draw c) (wCons (wVar 0) (wCons (wBin oDiv (wVar 4) (wC (.int 4))) wNil)))) wNext)
  (wSeq (wSet 11 (wCB oMin2 (wCons (wCB oInt (wCons (wBin oAdd (wVar 6) (wVar 10)) wNil)) (wCons (wVar 4) wNil))))
  (wSeq (wSet 7 (wCB oMin2 (wCons (wCB oInt (wCons (wVar 1) wNil)) (wCons (wBin oSub (wBin oAdd (wVar 7) (wBin oDiv (wVar 11) (wVar 2))) (wBin oDiv (wVar 6) (wVar 2))) wNil))))
  (wSeq (wSet 6 (wVar 11))
  (wSeq (wSet 12 (wBin oIx (wLst (wCons (wVar 7) (wCons (wBin oAdd (wVar 7) (wC (.int 1))) (wCons (wBin oSub (wVar 7) (wC (.int 1))) (wCons (wC (.int 1)) (wCons (wBin oAdd (wC (.int 1)) (wCall (sp__law_draw c) (wCons (wVar 0) (wCons (wBin oAdd (wVar 1) (wC (.int 1))) wNil)))) (wCons (wC (.int 2)) wNil))))))) (wCall (sp__law_draw c) (wCons (wVar 0) (wCons (wC (.int 6)) wNil)))))
  (wSeq (wSet 12 (wCB oMax2 (wCons (wC (.int 1)) (wCons (wCB oMin2 (wCons (wC (.int 1000)) (wCons (wVar 12) wNil))) wNil))))
  (wSeq (wIf (wTest (wBin oLe (wVar 12) (wVar 7))) (wSet 7 (wBin oSub (wVar 7) (wVar 12))) wNext)
  (wDrop (wMt oAppend (wVar 5) (wCons (wLst (wCons (wVar 6) (wCons (wVar 12) wNil))) wNil))))))))))))))
  (wRet (wFrz (wVar 5)))))))
def N__law_whole_ticks_ : List Str := ["asks", "speed", "ends", "tick", "left", "row", "need", "more"]
/-- _law_whole_ticks: slots 0 asks, 1 speed, 2 ends, 3 tick, 4 left, 5 row, 6 need, 7 more, -/
def w__law_whole_ticks (c : Cl) : WPs := (wSeq (wSet 2 (wLstM wNil))
  (wSeq (wSet 3 (wC (.int 0)))
  (wSeq (wSet 4 (wVar 1))
  (wSeq (wFor (wIt (wVar 0)) (gN 5) (wSeq (wIf (wTest (wBin oGt (wBin oIx (wVar 5) (wC (.int 0))) (wVar 3))) (wSeq (wSet 3 (wBin oIx (wVar 5) (wC (.int 0))))
  (wSet 4 (wVar 1))) wNext)
  (wSeq (wSet 6 (wBin oIx (wVar 5) (wC (.int 1))))
  (wSeq (wIf (wTest (wBin oLe (wVar 6) (wVar 4))) (wSet 4 (wBin oSub (wVar 4) (wVar 6))) (wSeq (wSet 7 (wBin oDiv (wBin oSub (wBin oAdd (wBin oSub (wVar 6) (wVar 4)) (wVar 1)) (wC (.int 1))) (wVar 1)))
  (wSeq (wSet 4 (wBin oSub (wBin oAdd (wVar 4) (wBin oMul (wVar 7) (wVar 1))) (wVar 6)))
  (wSet 3 (wBin oAdd (wVar 3) (wVar 7))))))
  (wDrop (wMt oAppend (wVar 2) (wCons (wVar 3) wNil)))))))
  (wRet (wCB oTuple (wCons (wFrz (wVar 2)) wNil)))))))
def N__law_neighbors_ : List Str := ["each", "asks", "best", "i", "whole", "j"]
/-- _law_neighbors: slots 0 each, 1 asks, 2 best, 3 i, 4 whole, 5 j, -/
def w__law_neighbors (c : Cl) : WPs := (wSeq (wSet 2 (wC (.int 0)))
  (wSeq (wFor (wRg1 (wCB oLen (wCons (wVar 1) wNil))) (gN 3) (wSeq (wSet 4 (wC (.int 0)))
  (wFor (wRg2 (wVar 3) (wCB oLen (wCons (wVar 1) wNil))) (gN 5) (wSeq (wSet 4 (wBin oAdd (wVar 4) (wBin oIx (wBin oIx (wVar 1) (wVar 5)) (wC (.int 1)))))
  (wSet 2 (wCB oMax2 (wCons (wCB oInt (wCons (wVar 2) wNil)) (wCons (wBin oSub (wVar 4) (wBin oSub (wBin oDiv (wBin oIx (wBin oIx (wVar 1) (wVar 5)) (wC (.int 0))) (wVar 0)) (wBin oDiv (wBin oIx (wBin oIx (wVar 1) (wVar 3)) (wC (.int 0))) (wVar 0)))) wNil))))))))
  (wRet (wVar 2))))
def N__law_bad_ : List Str := ["pool", "top"]
/-- _law_bad: slots 0 pool, 1 top, -/
def w__law_bad (c : Cl) : WPs := (wRet (wBin oIx (wLst (wCons (wC (.int 0)) (wCons (wBin oAdd (wVar 1) (wC (.int 1))) (wCons (wUn oNeg (wC (.int 1))) (wCons (wC .non) (wCons (wC (.bl true)) (wCons (wC (.str "5")) (wCons (wTup (wCons (wC (.int 1)) wNil)) (wCons (wBin oPow (wC (.int 10)) (wC (.int 50))) (wCons (wC (.bl false)) (wCons (wBin oSub (wC (.int 0)) (wVar 1)) wNil))))))))))) (wCall (sp__law_draw c) (wCons (wVar 0) (wCons (wC (.int 10)) wNil)))))
def N__law_waits_ : List Str := ["room", "each", "speed", "states", "seen", "worst", "at", "state", "taken", "waiting", "phase", "tokens", "fresh"]
/-- _law_waits: slots 0 room, 1 each, 2 speed, 3 states, 4 seen, 5 worst, 6 at, 7 state, 8 taken, 9 waiting, 10 phase, 11 tokens, 12 fresh, -/
def w__law_waits (c : Cl) : WPs := (wSeq (wSet 3 (wLstM (wCons (wTup (wCons (wC (.int 0)) (wCons (wVar 0) (wCons (wC (.int 0)) wNil)))) wNil)))
  (wSeq (wSet 4 (wDict1 (wBin oIx (wVar 3) (wC (.int 0))) (wC (.bl true))))
  (wSeq (wSet 5 (wC (.int 0)))
  (wSeq (wFor (wRg1 (wC (.int 2000))) (gN 6) (wSeq (wIf (wTest (wBin oGe (wVar 6) (wCB oLen (wCons (wVar 3) wNil)))) wBreak wNext)
  (wSeq (wSet 7 (wBin oIx (wVar 3) (wVar 6)))
  (wFor (wRg1 (wBin oAdd (wBin oIx (wVar 7) (wC (.int 1))) (wC (.int 1)))) (gN 8) (wSeq (wSet 9 (wBin oAdd (wBin oIx (wVar 7) (wC (.int 2))) (wVar 8)))
  (wSeq (wIf (wTest (wBin oGt (wVar 8) (wC (.int 0)))) (wSet 5 (wCB oMax2 (wCons (wCB oInt (wCons (wVar 5) wNil)) (wCons (wBin oSub (wBin oDiv (wBin oSub (wBin oAdd (wVar 9) (wVar 2)) (wC (.int 1))) (wVar 2)) (wC (.int 1))) wNil)))) wNext)
  (wSeq (wSet 10 (wBin oAdd (wBin oIx (wVar 7) (wC (.int 0))) (wC (.int 1))))
  (wSeq (wSet 11 (wBin oSub (wBin oIx (wVar 7) (wC (.int 1))) (wVar 8)))
  (wSeq (wIf (wTest (wBin oEq (wVar 10) (wVar 1))) (wSeq (wSet 10 (wC (.int 0)))
  (wSet 11 (wCB oMin2 (wCons (wCB oInt (wCons (wVar 0) wNil)) (wCons (wBin oAdd (wVar 11) (wC (.int 1))) wNil))))) wNext)
  (wSeq (wSet 12 (wTup (wCons (wVar 10) (wCons (wVar 11) (wCons (wCB oMax2 (wCons (wC (.int 0)) (wCons (wBin oSub (wVar 9) (wVar 2)) wNil))) wNil)))))
  (wIf (wTest (wBin (oInN true) (wVar 12) (wVar 4))) (wSeq (wSetN (wVar 4) (wVar 12) (wC (.bl true)))
  (wDrop (wMt oAppend (wVar 3) (wCons (wVar 12) wNil)))) wNext)))))))))))
  (wRet (wVar 5))))))
def N__law_due_ : List Str := ["room", "each", "speed"]
/-- _law_due: slots 0 room, 1 each, 2 speed, -/
def w__law_due (c : Cl) : WPs := (wSeq (wIf (wAnd (wTest (wBin oLe (wVar 0) (wC (.int 6)))) (wAnd (wTest (wBin oLe (wVar 1) (wC (.int 4)))) (wTest (wBin oLe (wVar 2) (wC (.int 3)))))) (wRet (wCall (sp__law_waits c) (wCons (wVar 0) (wCons (wVar 1) (wCons (wVar 2) wNil))))) wNext)
  (wRet (wBin oSub (wBin oDiv (wBin oSub (wBin oAdd (wVar 0) (wVar 2)) (wC (.int 1))) (wVar 2)) (wC (.int 1)))))
def N__law_refused_ : List Str := ["room", "each", "speed", "e"]
/-- _law_refused: slots 0 room, 1 each, 2 speed, 3 e, -/
def w__law_refused (c : Cl) : WPs := (wSeq (wTry c.K c.ServeError 3 (wDrop (wCall (sp_longest_delay c) (wCons (wVar 0) (wCons (wVar 1) (wCons (wVar 2) wNil))))) (fun a dd C => (wSeq (wIf (wAnd (wTest (wIsE c.K a dd C c.InvalidNumber (wVar 3))) (wNot (wTest (wIsET c.K a dd C [c.InvalidRow, c.InvalidLot, c.TooMany, c.Undefined] (wVar 3))))) (wRet (wLst (wCons (wC (.str "number")) (wCons (wExF c.K a dd C "number" (wVar 3)) wNil)))) wNext)
  (wRet (wLst (wCons (wC (.str "another")) wNil))))))
  (wRet (wLst (wCons (wC (.str "none")) wNil))))
def N__law_refusals_ : List Str := ["pool", "room", "each", "speed", "k", "first", "second", "third"]
/-- _law_refusals: slots 0 pool, 1 room, 2 each, 3 speed, 4 k, 5 first, 6 second, 7 third, -/
def w__law_refusals (c : Cl) : WPs := (wSeq (wFor (wRg1 (wC (.int 2))) (gN 4) (wSeq (wSet 5 (wCall (sp__law_bad c) (wCons (wVar 0) (wCons (wC (.int 1000)) wNil))))
  (wSeq (wSet 6 (wCall (sp__law_bad c) (wCons (wVar 0) (wCons (wC (.int 100)) wNil))))
  (wSeq (wSet 7 (wCall (sp__law_bad c) (wCons (wVar 0) (wCons (wC (.int 100)) wNil))))
  (wSeq (wIf (wNot (wTest (wCall (sp__law_like c) (wCons (wCall (sp__law_refused c) (wCons (wVar 5) (wCons (wVar 6) (wCons (wVar 7) wNil)))) (wCons (wLst (wCons (wC (.str "number")) (wCons (wVar 5) wNil))) wNil))))) (wRet (wC (.bl false))) wNext)
  (wSeq (wIf (wNot (wTest (wCall (sp__law_like c) (wCons (wCall (sp__law_refused c) (wCons (wVar 5) (wCons (wVar 2) (wCons (wBin oIx (wLst (wCons (wVar 3) (wCons (wVar 7) wNil))) (wVar 4)) wNil)))) (wCons (wLst (wCons (wC (.str "number")) (wCons (wVar 5) wNil))) wNil))))) (wRet (wC (.bl false))) wNext)
  (wSeq (wIf (wNot (wTest (wCall (sp__law_like c) (wCons (wCall (sp__law_refused c) (wCons (wVar 1) (wCons (wVar 6) (wCons (wBin oIx (wLst (wCons (wVar 7) (wCons (wVar 3) wNil))) (wVar 4)) wNil)))) (wCons (wLst (wCons (wC (.str "number")) (wCons (wVar 6) wNil))) wNil))))) (wRet (wC (.bl false))) wNext)
  (wIf (wNot (wTest (wCall (sp__law_like c) (wCons (wCall (sp__law_refused c) (wCons (wVar 1) (wCons (wVar 2) (wCons (wVar 7) wNil)))) (wCons (wLst (wCons (wC (.str "number")) (wCons (wVar 7) wNil))) wNil))))) (wRet (wC (.bl false))) wNext))))))))
  (wRet (wC (.bl true))))
def N__law_lets_ : List Str := ["room", "each", "asks", "due", "hand"]
/-- _law_lets: slots 0 room, 1 each, 2 asks, 3 due, 4 hand, -/
def w__law_lets (c : Cl) : WPs := (wSeq (wSet 3 (wBin oIx (wCall (sp__law_leaps c) (wCons (wVar 0) (wCons (wVar 1) (wCons (wVar 2) (wCons (wBin oPow (wC (.int 10)) (wC (.int 6))) wNil))))) (wC (.int 0))))
  (wSeq (wIf (wAnd (wTest (wBin oGt (wCB oLen (wCons (wVar 2) wNil)) (wC (.int 0)))) (wTest (wBin oLe (wBin oIx (wBin oIx (wVar 2) (wUn oNeg (wC (.int 1)))) (wC (.int 0))) (wC (.int 80))))) (wSet 3 (wBin oIx (wCall (sp__law_ticks c) (wCons (wVar 0) (wCons (wVar 1) (wCons (wVar 2) (wCons (wBin oIx (wBin oIx (wVar 2) (wUn oNeg (wC (.int 1)))) (wC (.int 0))) wNil))))) (wC (.int 0)))) wNext)
  (wSeq (wSet 4 (wCall (sp__law_copy c) (wCons (wVar 2) wNil)))
  (wSeq (wIf (wOr (wNot (wTest (wCall (sp__law_like c) (wCons (wCall (sp_let_by c) (wCons (wVar 0) (wCons (wVar 1) (wCons (wVar 4) wNil)))) (wCons (wVar 3) wNil))))) (wNot (wTest (wCall (sp__law_like c) (wCons (wVar 4) (wCons (wVar 2) wNil)))))) (wRet (wC .non)) wNext)
  (wRet (wVar 3))))))
def N__law_behind_ : List Str := ["room", "each", "speed", "asks", "longest", "ends", "k", "hand", "least"]
/-- _law_behind: slots 0 room, 1 each, 2 speed, 3 asks, 4 longest, 5 ends, 6 k, 7 hand, 8 least, -/
def w__law_behind (c : Cl) : WPs := (wSeq (wSet 5 (wCall (sp__law_whole_ticks c) (wCons (wVar 3) (wCons (wVar 2) wNil))))
  (wSeq (wFor (wRg1 (wCB oLen (wCons (wVar 3) wNil))) (gN 6) (wIf (wTest (wBin oGt (wBin oSub (wBin oIx (wVar 5) (wVar 6)) (wBin oIx (wBin oIx (wVar 3) (wVar 6)) (wC (.int 0)))) (wVar 4))) (wRet (wC (.bl false))) wNext))
  (wSeq (wSet 7 (wCall (sp__law_copy c) (wCons (wVar 3) wNil)))
  (wSeq (wIf (wOr (wNot (wTest (wCall (sp__law_like c) (wCons (wCall (sp_queue_ends c) (wCons (wVar 7) (wCons (wVar 2) wNil))) (wCons (wVar 5) wNil))))) (wNot (wTest (wCall (sp__law_like c) (wCons (wVar 7) (wCons (wVar 3) wNil)))))) (wRet (wC (.bl false))) wNext)
  (wSeq (wSet 8 (wCall (sp__law_neighbors c) (wCons (wVar 1) (wCons (wVar 3) wNil))))
  (wRet (wAndV (wBin oLe (wVar 8) (wVar 0)) (wCall (sp__law_like c) (wCons (wCall (sp_least_room c) (wCons (wVar 1) (wCons (wVar 7) wNil))) (wCons (wVar 8) wNil))))))))))
def N__law_burst_ : List Str := ["pool", "room", "each", "speed", "kept", "longest", "letters", "at", "part", "asks", "lets", "row"]
/-- _law_burst: slots 0 pool, 1 room, 2 each, 3 speed, 4 kept, 5 longest, 6 letters, 7 at, 8 part, 9 asks, 10 lets, 11 row, -/
def w__law_burst (c : Cl) : WPs := (wSeq (wSet 6 (wCB oSum (wCons (wLc (wIt (wVar 4)) (gN 11) wYes (wBin oIx (wVar 11) (wC (.int 1))) [11]) wNil)))
  (wSeq (wSet 7 (wBin oAdd (wBin oMul (wVar 2) (wBin oAdd (wVar 1) (wC (.int 1)))) (wVar 6)))
  (wSeq (wIf (wTest (wBin oGt (wCB oLen (wCons (wVar 4) wNil)) (wC (.int 0)))) (wSet 7 (wBin oAdd (wVar 7) (wBin oIx (wBin oIx (wVar 4) (wUn oNeg (wC (.int 1)))) (wC (.int 0))))) wNext)
  (wSeq (wSet 8 (wCall (sp__law_draw c) (wCons (wVar 0) (wCons (wVar 1) wNil))))
  (wSeq (wSet 9 (wCall (sp__law_copy c) (wCons (wVar 4) wNil)))
  (wSeq (wIf (wTest (wBin oGt (wVar 8) (wC (.int 0)))) (wDrop (wMt oAppend (wVar 9) (wCons (wLst (wCons (wVar 7) (wCons (wVar 8) wNil))) wNil))) wNext)
  (wSeq (wDrop (wMt oAppend (wVar 9) (wCons (wLst (wCons (wVar 7) (wCons (wBin oSub (wVar 1) (wVar 8)) wNil))) wNil)))
  (wSeq (wSet 10 (wCall (sp__law_lets c) (wCons (wVar 1) (wCons (wVar 2) (wCons (wVar 9) wNil)))))
  (wSeq (wIf (wOr (wTest (wBin oIsN (wVar 10) (wC .non))) (wTest (wBin oInB (wC (.bl false)) (wVar 10)))) (wRet (wC (.bl false))) wNext)
  (wSeq (wIf (wTest (wBin oNe (wBin oSub (wBin oIx (wCall (sp__law_whole_ticks c) (wCons (wVar 9) (wCons (wVar 3) wNil))) (wUn oNeg (wC (.int 1)))) (wVar 7)) (wVar 5))) (wRet (wC (.bl false))) wNext)
  (wSeq (wIf (wNot (wTest (wCall (sp__law_behind c) (wCons (wVar 1) (wCons (wVar 2) (wCons (wVar 3) (wCons (wVar 9) (wCons (wVar 5) wNil)))))))) (wRet (wC (.bl false))) wNext)
  (wSeq (wIf (wTest (wBin oLt (wVar 1) (wC (.int 1000)))) (wSeq (wSet 10 (wCall (sp__law_lets c) (wCons (wVar 1) (wCons (wVar 2) (wCons (wBin oAdd (wVar 4) (wLst (wCons (wLst (wCons (wVar 7) (wCons (wBin oAdd (wVar 1) (wC (.int 1))) wNil))) wNil))) wNil)))))
  (wIf (wOr (wTest (wBin oIsN (wVar 10) (wC .non))) (wTest (wBin oIx (wVar 10) (wUn oNeg (wC (.int 1)))))) (wRet (wC (.bl false))) wNext)) wNext)
  (wRet (wC (.bl true)))))))))))))))
def N_law_ : List Str := ["script", "pool", "room", "each", "speed", "longest", "many", "asks", "lets", "kept", "k", "alone", "other"]
/-- law: slots 0 script, 1 pool, 2 room, 3 each, 4 speed, 5 longest, 6 many, 7 asks, 8 lets, 9 kept, 10 k, 11 alone, 12 other, -/
def w_law (c : Cl) : WPs := (wSeq (wSet 1 (wCall (sp__law_pool c) (wCons (wVar 0) wNil)))
  (wSeq (wSet 2 (wBin oIx (wLst (wCons (wC (.int 1)) (wCons (wBin oAdd (wC (.int 1)) (wCall (sp__law_draw c) (wCons (wVar 1) (wCons (wC (.int 6)) wNil)))) (wCons (wBin oAdd (wC (.int 1)) (wCall (sp__law_draw c) (wCons (wVar 1) (wCons (wC (.int 40)) wNil)))) (wCons (wBin oAdd (wC (.int 1)) (wCall (sp__law_draw c) (wCons (wVar 1) (wCons (wC (.int 1000)) wNil)))) (wCons (wC (.int 1000)) wNil)))))) (wCall (sp__law_draw c) (wCons (wVar 1) (wCons (wC (.int 5)) wNil)))))
  (wSeq (wSet 3 (wBin oIx (wLst (wCons (wC (.int 1)) (wCons (wBin oAdd (wC (.int 1)) (wCall (sp__law_draw c) (wCons (wVar 1) (wCons (wC (.int 4)) wNil)))) (wCons (wBin oAdd (wC (.int 1)) (wCall (sp__law_draw c) (wCons (wVar 1) (wCons (wC (.int 20)) wNil)))) (wCons (wBin oAdd (wC (.int 1)) (wCall (sp__law_draw c) (wCons (wVar 1) (wCons (wC (.int 100)) wNil)))) (wCons (wC (.int 100)) wNil)))))) (wCall (sp__law_draw c) (wCons (wVar 1) (wCons (wC (.int 5)) wNil)))))
  (wSeq (wSet 4 (wBin oIx (wLst (wCons (wC (.int 1)) (wCons (wBin oAdd (wC (.int 1)) (wCall (sp__law_draw c) (wCons (wVar 1) (wCons (wC (.int 3)) wNil)))) (wCons (wBin oAdd (wC (.int 1)) (wCall (sp__law_draw c) (wCons (wVar 1) (wCons (wC (.int 100)) wNil)))) (wCons (wC (.int 100)) wNil))))) (wCall (sp__law_draw c) (wCons (wVar 1) (wCons (wC (.int 4)) wNil)))))
  (wSeq (wIf (wTest (wBin oEq (wCall (sp__law_draw c) (wCons (wVar 1) (wCons (wC (.int 3)) wNil))) (wC (.int 0)))) (wSeq (wSet 2 (wBin oAdd (wC (.int 1)) (wCall (sp__law_draw c) (wCons (wVar 1) (wCons (wC (.int 6)) wNil)))))
  (wSeq (wSet 3 (wBin oAdd (wC (.int 1)) (wCall (sp__law_draw c) (wCons (wVar 1) (wCons (wC (.int 4)) wNil)))))
  (wSet 4 (wBin oAdd (wC (.int 1)) (wCall (sp__law_draw c) (wCons (wVar 1) (wCons (wC (.int 3)) wNil))))))) wNext)
  (wSeq (wSet 5 (wCall (sp__law_due c) (wCons (wVar 2) (wCons (wVar 3) (wCons (wVar 4) wNil)))))
  (wSeq (wIf (wOr (wTest (wBin oNe (wVar 5) (wBin oSub (wBin oDiv (wBin oSub (wBin oAdd (wVar 2) (wVar 4)) (wC (.int 1))) (wVar 4)) (wC (.int 1))))) (wNot (wTest (wCall (sp__law_like c) (wCons (wCall (sp_longest_delay c) (wCons (wVar 2) (wCons (wVar 3) (wCons (wVar 4) wNil)))) (wCons (wVar 5) wNil)))))) (wRet (wC (.bl false))) wNext)
  (wSeq (wIf (wNot (wTest (wCall (sp__law_refusals c) (wCons (wVar 1) (wCons (wVar 2) (wCons (wVar 3) (wCons (wVar 4) wNil))))))) (wRet (wC (.bl false))) wNext)
  (wSeq (wSet 6 (wCall (sp__law_draw c) (wCons (wVar 1) (wCons (wC (.int 13)) wNil))))
  (wSeq (wIf (wTest (wBin oEq (wCall (sp__law_draw c) (wCons (wVar 1) (wCons (wC (.int 7)) wNil))) (wC (.int 0)))) (wSet 6 (wC (.int 38))) wNext)
  (wSeq (wSet 7 (wCall (sp__law_build c) (wCons (wVar 1) (wCons (wVar 2) (wCons (wVar 3) (wCons (wVar 6) (wCons (wBin oIx (wLst (wCons (wC (.int 80)) (wCons (wC (.int 2000)) (wCons (wC (.int 500000)) wNil)))) (wCall (sp__law_draw c) (wCons (wVar 1) (wCons (wC (.int 3)) wNil)))) wNil)))))))
  (wSeq (wSet 8 (wCall (sp__law_lets c) (wCons (wVar 2) (wCons (wVar 3) (wCons (wVar 7) wNil)))))
  (wSeq (wIf (wTest (wBin oIsN (wVar 8) (wC .non))) (wRet (wC (.bl false))) wNext)
  (wSeq (wSet 9 (wLstM wNil))
  (wSeq (wFor (wRg1 (wCB oLen (wCons (wVar 7) wNil))) (gN 10) (wIf (wTest (wBin oIx (wVar 8) (wVar 10))) (wDrop (wMt oAppend (wVar 9) (wCons (wBin oIx (wVar 7) (wVar 10)) wNil))) wNext))
  (wSeq (wSet 11 (wCall (sp__law_lets c) (wCons (wVar 2) (wCons (wVar 3) (wCons (wVar 9) wNil)))))
  (wSeq (wIf (wOr (wTest (wBin oIsN (wVar 11) (wC .non))) (wTest (wBin oInB (wC (.bl false)) (wVar 11)))) (wRet (wC (.bl false))) wNext)
  (wSeq (wIf (wNot (wTest (wCall (sp__law_behind c) (wCons (wVar 2) (wCons (wVar 3) (wCons (wVar 4) (wCons (wVar 9) (wCons (wVar 5) wNil)))))))) (wRet (wC (.bl false))) wNext)
  (wSeq (wIf (wNot (wTest (wCall (sp__law_burst c) (wCons (wVar 1) (wCons (wVar 2) (wCons (wVar 3) (wCons (wVar 4) (wCons (wVar 9) (wCons (wVar 5) wNil))))))))) (wRet (wC (.bl false))) wNext)
  (wSeq (wSet 12 (wCB oMin2 (wCons (wC (.int 1000)) (wCons (wBin oAdd (wVar 2) (wC (.int 1))) wNil))))
  (wSeq (wIf (wNot (wTest (wCall (sp__law_like c) (wCons (wCallK (sp_longest_delay c) 0 3 [2, 1, 0] wNil (wCons (wVar 4) (wCons (wVar 3) (wCons (wVar 12) wNil)))) (wCons (wBin oSub (wBin oDiv (wBin oSub (wBin oAdd (wVar 12) (wVar 4)) (wC (.int 1))) (wVar 4)) (wC (.int 1))) wNil))))) (wRet (wC (.bl false))) wNext)
  (wSeq (wIf (wNot (wTest (wCall (sp__law_like c) (wCons (wCall (sp_longest_delay c) (wCons (wCB oMin2 (wCons (wCB oInt (wCons (wVar 2) wNil)) (wCons (wVar 4) wNil))) (wCons (wVar 3) (wCons (wVar 4) wNil)))) (wCons (wC (.int 0)) wNil))))) (wRet (wC (.bl false))) wNext)
  (wRet (wCall (sp__law_like c) (wCons (wCall (sp_longest_delay c) (wCons (wVar 2) (wCons (wBin oAdd (wBin oMod (wCB oInt (wCons (wVar 3) wNil)) (wC (.int 100))) (wC (.int 1))) (wCons (wVar 4) wNil)))) (wCons (wVar 5) wNil))))))))))))))))))))))))))
end K41
set_option Elab.async false
set_option linter.all false
set_option maxRecDepth 100000
set_option maxHeartbeats 1000000
namespace K41
open PySem PySem.Spec PyProof.Rows L2 DL
local macro_rules | `(tactic| walk_at "r") => `(tactic| try simp only [wSeq, wNext, wSet, wC, wFor, wIt, wRg1, wRg2, wVar, wIf, wAnd, wOr, wNot, wTest, wChain, wBin, wCB, wCons, wNil, wSl, wP, wNoP, wRet, wRetN, wDrop, wCall, wTup, wLst, wLstM, wUn, wIfE, wAndV, wOrV, wNotV, wIsi, wYes, wSetI, wSetF, wFld, wAugF, wMt, wMeth, wLc, wLcM, wBreak, xcQ, fldD, setD, setIx, mutL, isIns, put_same, put_put, oAppend, oExtend,
  getV, setV, some!, one, two, asI, oLen, oLt, oLe, oGt, oGe, oI0, oI, oSub, oMul, oMod, oDiv, oPow, oAdd, oCatL, oEq, oNe, oIsN, oNotN, oIx, oSl, oTuple, oList, oMax2, oMin2, oInt, gN, seqA, seqL, seqM, dT, dL, List.length_map, decide_eq_true_eq, shD_int, shD_bl, shD_lst, shD_tup, eqD_int, eqD_bl, eqD_lst, eqD_tup, cutD_int, true_and, and_true, if_true, if_false, Bool.false_eq_true, Bool.true_eq_false, eq_self_iff_true,
  List.set_cons_zero, List.set_cons_succ, Bool.not_true, Bool.not_false, tyN, isNon, delVs, delV])
theorem seq_k {w u : WPs} {env : DE} {S : Sto} {q : QS} (h : ∀ q1 : QS, (∀ e s, u e s q → q1.nx e s) → q1.rt = q.rt → q1.bk = q.bk → q1.ct = q.ct → q1.xc = q.xc → w env S q1) : wSeq w u env S q :=
  h { q with nx := fun e s => u e s q } (fun _ _ z => z) rfl rfl rfl rfl
theorem kt1 : kitB "NoneType" "int" = some false := by decide +kernel
theorem kt2 : kitB "bool" "int" = some true := by decide +kernel
theorem kt3 : kitB "int" "int" = some true := by decide +kernel
theorem kt4 : kitB "str" "int" = some false := by decide +kernel
theorem kt5 : kitB "tuple" "int" = some false := by decide +kernel
theorem kt6 : kitB "list" "int" = some false := by decide +kernel
theorem kt7 : kitB "bool" "bool" = some true := by decide +kernel
theorem kt8 : kitB "int" "bool" = some false := by decide +kernel
theorem kr1 : kitAnyB "NoneType" ["tuple", "list"] = some false := by decide +kernel
theorem kr2 : kitAnyB "bool" ["tuple", "list"] = some false := by decide +kernel
theorem kr3 : kitAnyB "int" ["tuple", "list"] = some false := by decide +kernel
theorem kr4 : kitAnyB "str" ["tuple", "list"] = some false := by decide +kernel
theorem kr5 : kitAnyB "tuple" ["tuple", "list"] = some true := by decide +kernel
theorem kr6 : kitAnyB "list" ["tuple", "list"] = some true := by decide +kernel
/-- a value of a known class -/
theorem kn_cases {S : Sto} {d : D} (h : Kn S d) : d = .non ∨ (∃ b, d = .bl b) ∨ (∃ i, d = .int i) ∨ (∃ x, d = .str x) ∨ (∃ xs, d = .tup xs) ∨ (tyN S d = some "list" ∧ ∃ xs, seqL S d = some xs ∧ seqA S d = some xs) := by
  obtain ⟨n, h⟩ := h
  have key : (seqL S d).map (fun _ => "list") = some n → seqA S d = seqL S d → tyN S d = (seqL S d).map (fun _ => "list") → (tyN S d = some "list" ∧ ∃ xs, seqL S d = some xs ∧ seqA S d = some xs) := fun h1 h2 h3 => by
    cases e : seqL S d with
    | none => rw [e] at h1; cases h1
    | some xs => exact ⟨by rw [h3, e]; rfl, xs, rfl, by rw [h2, e]⟩
  cases d with
  | non => exact .inl rfl
  | bl b => exact .inr (.inl ⟨b, rfl⟩)
  | int i => exact .inr (.inr (.inl ⟨i, rfl⟩))
  | str x => exact .inr (.inr (.inr (.inl ⟨x, rfl⟩)))
  | tup xs => exact .inr (.inr (.inr (.inr (.inl ⟨xs, rfl⟩))))
  | lst xs => exact .inr (.inr (.inr (.inr (.inr (key h rfl rfl)))))
  | ref a => exact .inr (.inr (.inr (.inr (.inr (key h rfl rfl)))))
  | fro xs => exact .inr (.inr (.inr (.inr (.inr (key h rfl rfl)))))
  | obj C N xs => exact .inr (.inr (.inr (.inr (.inr (key h rfl rfl)))))
  | exc a dd C f x => exact .inr (.inr (.inr (.inr (.inr (key h rfl rfl)))))
theorem len_is_integer (c : Cl) : ∀ ds S Q E, sp_is_integer c ds S Q E → ds.length = 1 := by
  rintro ds S Q E ⟨_, rfl, _⟩; rfl
theorem list_not_int {S : Sto} {d : D} (h : tyN S d = some "list") : isInt d = false := by
  cases d with
  | int i => exact absurd (Option.some.inj (show some "int" = some "list" from h)) (by decide)
  | _ => rfl
theorem rd_is_integer (c : Cl) : ∀ ds S Q X1, sp_is_integer c ds S Q X1 → w_is_integer c (startD N_is_integer_ ds) S (endQ Q X1) := by
  rintro ds S Q X1 ⟨d, rfl, hk, h⟩
  show w_is_integer c [some d] S (endQ Q X1)
  unfold w_is_integer
  simp only [wRet, wAndV, wIsi, wNotV, wVar, getV, some!]
  rcases kn_cases hk with rfl | ⟨b, rfl⟩ | ⟨i, rfl⟩ | ⟨x, rfl⟩ | ⟨xs, rfl⟩ | ⟨e1, xs, e2, e3⟩
  · simp only [tyN, kt1, Bool.false_eq_true, if_false]; exact h
  · simp only [tyN, kt2, kt7, if_true, Bool.not_true]; exact h
  · simp only [tyN, kt3, kt8, if_true, Bool.not_false]; exact h
  · simp only [tyN, kt4, Bool.false_eq_true, if_false]; exact h
  · simp only [tyN, kt5, Bool.false_eq_true, if_false]; exact h
  · rw [list_not_int e1] at h
    simp only [e1, kt6, Bool.false_eq_true, if_false]; exact h
theorem len_is_from_to (c : Cl) : ∀ ds S Q E, sp_is_from_to c ds S Q E → ds.length = 3 := by
  rintro ds S Q E ⟨_, _, _, rfl, _⟩; rfl
theorem rd_is_from_to (c : Cl) : ∀ ds S Q X1, sp_is_from_to c ds S Q X1 → w_is_from_to c (startD N_is_from_to_ ds) S (endQ Q X1) := by
  rintro ds S Q X1 ⟨d, l, m, rfl, hk, h⟩
  show w_is_from_to c [some d, some (.int l), some (.int m)] S (endQ Q X1)
  unfold w_is_from_to
  simp only [wRet, wAndV, wCall, wCons, wNil, wVar, getV, some!]
  refine ⟨d, rfl, hk, ?_⟩
  cases d with
  | int v =>
    simp only [isInt, if_true, wChain, wVar, getV, some!, oLe, oI0]
    by_cases h1 : l ≤ v
    · simp only [decide_eq_true h1, if_true]
      have e : inR l m (.int v) = decide (v ≤ m) := by unfold inR; simp [h1]
      rw [e] at h
      exact h
    · simp only [decide_eq_false h1, Bool.false_eq_true, if_false]
      have e : inR l m (.int v) = false := by unfold inR; simp [h1]
      rw [e] at h
      exact h
  | _ => exact h
theorem len_is_row (c : Cl) : ∀ ds S Q E, sp_is_row c ds S Q E → ds.length = 1 := by
  rintro ds S Q E ⟨_, rfl, _⟩; rfl
theorem rd_is_row (c : Cl) : ∀ ds S Q X1, sp_is_row c ds S Q X1 → w_is_row c (startD N_is_row_ ds) S (endQ Q X1) := by
  rintro ds S Q X1 ⟨d, rfl, hk, h⟩
  show w_is_row c [some d] S (endQ Q X1)
  unfold w_is_row
  simp only [wRet, wIsiT, wVar, getV, some!]
  rcases kn_cases hk with rfl | ⟨b, rfl⟩ | ⟨i, rfl⟩ | ⟨x, rfl⟩ | ⟨xs, rfl⟩ | ⟨e1, xs, e2, e3⟩
  · simp only [tyN, kr1]; exact h
  · simp only [tyN, kr2]; exact h
  · simp only [tyN, kr3]; exact h
  · simp only [tyN, kr4]; exact h
  · simp only [tyN, kr5]; exact h
  · rw [e3] at h
    simp only [e1, kr6]; exact h
theorem len_check_number (c : Cl) : ∀ ds S Q E, sp_check_number c ds S Q E → ds.length = 3 := by
  rintro ds S Q E ⟨_, _, _, rfl, _⟩; rfl
theorem rd_check_number (c : Cl) : ∀ ds S Q X1, sp_check_number c ds S Q X1 → w_check_number c (startD N_check_number_ ds) S (endQ Q X1) := by
  rintro ds S Q X1 ⟨d, l, m, rfl, hk, h1, h2⟩
  show w_check_number c [some d, some (.int l), some (.int m)] S (endQ Q X1)
  unfold w_check_number
  simp only [wIf, wNot, wTest, wCall, wCons, wNil, wVar, getV, some!]
  refine ⟨d, l, m, rfl, hk, ?_⟩
  cases e : inR l m d with
  | true => simp only [Bool.not_true, Bool.false_eq_true, if_false, wNext]; exact h1 e
  | false => simp only [Bool.not_false, if_true, wRaise, wMkE, wVar, getV, some!, xcQ]; exact h2 e
end K41
set_option Elab.async false
set_option linter.all false
set_option maxRecDepth 100000
set_option maxHeartbeats 1000000
namespace K41
open PySem PySem.Spec PyProof.Rows L2 DL
local macro_rules | `(tactic| walk_at "r") => `(tactic| try simp only [wSeq, wNext, wSet, wC, wFor, wIt, wRg1, wRg2, wVar, wIf, wAnd, wOr, wNot, wTest, wChain, wBin, wCB, wCons, wNil, wSl, wP, wNoP, wRet, wRetN, wDrop, wCall, wTup, wLst, wLstM, wUn, wIfE, wAndV, wOrV, wNotV, wIsi, wYes, wSetI, wSetF, wFld, wAugF, wMt, wMeth, wLc, wLcM, wBreak, xcQ, fldD, setD, setIx, mutL, isIns, put_same, put_put, oAppend, oExtend,
  getV, setV, some!, one, two, asI, oLen, oLt, oLe, oGt, oGe, oI0, oI, oSub, oMul, oMod, oDiv, oPow, oAdd, oCatL, oEq, oNe, oIsN, oNotN, oIx, oSl, oTuple, oList, oMax2, oMin2, oInt, gN, seqA, seqL, seqM, dT, dL, List.length_map, decide_eq_true_eq, shD_int, shD_bl, shD_lst, shD_tup, eqD_int, eqD_bl, eqD_lst, eqD_tup, cutD_int, true_and, and_true, if_true, if_false, Bool.false_eq_true, Bool.true_eq_false, eq_self_iff_true,
  List.set_cons_zero, List.set_cons_succ, Bool.not_true, Bool.not_false, tyN, isNon, delVs, delV])
theorem oLen_of {S : Sto} {d : D} {xs : List D} {Q : Qd} (h : seqA S d = some xs) (q : Q (.int (xs.length : Nat)) S) : oLen S [d] Q := by
  cases d with
  | str x => cases h
  | _ =>
    simp only [oLen, one, h, some!]
    exact q
theorem len_check_length (c : Cl) : ∀ ds S Q E, sp_check_length c ds S Q E → ds.length = 3 := by
  rintro ds S Q E ⟨_, _, _, rfl, _⟩; rfl
theorem rd_check_length (c : Cl) : ∀ ds S Q X1, sp_check_length c ds S Q X1 → w_check_length c (startD N_check_length_ ds) S (endQ Q X1) := by
  rintro ds S Q X1 ⟨d, l, m, rfl, hk, h1, h2⟩
  show w_check_length c [some d, some (.int l), some (.int m)] S (endQ Q X1)
  unfold w_check_length
  simp only [wIf, wOr, wNot, wTest, wCall, wCons, wNil, wVar, getV, some!]
  refine ⟨d, rfl, hk, ?_⟩
  cases e : seqA S d with
  | none =>
    simp only [Option.isSome_none, Bool.not_false, if_true, wRaise, wMkE, wC, xcQ]
    exact h2 (by unfold lenR; rw [e])
  | some xs =>
    have e1 : lenR S l m d = decide (l ≤ (xs.length : Int) ∧ (xs.length : Int) ≤ m) := by unfold lenR; rw [e]
    simp only [Option.isSome_some, Bool.not_true, Bool.false_eq_true, if_false, wChain, wVar, wCB, wCons, wNil, getV, some!]
    refine oLen_of e ?_
    simp only [oLe, oI0]
    by_cases q1 : l ≤ (xs.length : Int)
    · simp only [decide_eq_true q1, if_true]
      by_cases q2 : (xs.length : Int) ≤ m
      · simp only [decide_eq_true q2, Bool.not_true, Bool.false_eq_true, if_false, wNext]
        exact h1 (by rw [e1]; exact decide_eq_true ⟨q1, q2⟩)
      · simp only [decide_eq_false q2, Bool.not_false, if_true, wRaise, wMkE, wC, xcQ]
        exact h2 (by rw [e1]; exact decide_eq_false fun z => q2 z.2)
    · simp only [decide_eq_false q1, Bool.false_eq_true, if_false, Bool.not_false, if_true, wRaise, wMkE, wC, xcQ]
      exact h2 (by rw [e1]; exact decide_eq_false fun z => q1 z.1)
theorem ix2_at {α : Type} (a b : α) : atI [a, b] 0 = some a ∧ atI [a, b] 1 = some b := ⟨rfl, rfl⟩
theorem askOf_two {S : Sto} {l : Int} {d a b : D} (e : seqA S d = some [a, b]) : (askOf S l d).isSome = (inR l 1000000 a && inR 1 1000 b) := by
  unfold askOf
  rw [e]
  cases a with
  | int x =>
    cases b with
    | int y =>
      by_cases q1 : l ≤ x ∧ x ≤ 1000000 <;> by_cases q2 : 1 ≤ y ∧ y ≤ 1000 <;> simp [inR, q1, q2]
    | _ => simp [inR]
  | _ => simp [inR]
theorem askOf_not {S : Sto} {l : Int} {d : D} {xs : List D} (e : seqA S d = some xs) (h : xs.length ≠ 2) : askOf S l d = none := by
  unfold askOf
  rw [e]
  match xs, h with
  | [], _ => rfl
  | [a], _ => cases a <;> rfl
  | [_, _], h => exact absurd rfl h
  | a :: b :: _ :: _, _ => cases a <;> first | rfl | (cases b <;> rfl)
theorem len_is_ask (c : Cl) : ∀ ds S Q E, sp_is_ask c ds S Q E → ds.length = 2 := by
  rintro ds S Q E ⟨_, _, rfl, _⟩; rfl
theorem rd_is_ask (c : Cl) : ∀ ds S Q X1, sp_is_ask c ds S Q X1 → w_is_ask c (startD N_is_ask_ ds) S (endQ Q X1) := by
  rintro ds S Q X1 ⟨d, l, rfl, ⟨hk, hk2⟩, h⟩
  show w_is_ask c [some d, some (.int l)] S (endQ Q X1)
  unfold w_is_ask
  refine seq_k fun q1 n1 r1 _ _ _ => ?_
  simp only [wIf, wOr, wNot, wTest, wCall, wCons, wNil, wVar, getV, some!]
  refine ⟨d, rfl, hk, ?_⟩
  cases e : seqA S d with
  | none =>
    simp only [Option.isSome_none, Bool.not_false, if_true, wRet, wC, r1]
    have e1 : askOf S l d = none := by unfold askOf; rw [e]
    rw [e1] at h
    exact h
  | some xs =>
    simp only [Option.isSome_some, Bool.not_true, Bool.false_eq_true, if_false, wBin, wCB, wCons, wNil, wVar, getV, some!]
    refine oLen_of e ?_
    simp only [wC, oNe, shD_int, eqD_int, true_and]
    by_cases q : xs.length = 2
    · obtain ⟨a, b, rfl⟩ : ∃ a b, xs = [a, b] := by
        match xs, q with
        | [a, b], _ => exact ⟨a, b, rfl⟩
      have ka := hk2 _ e a (by simp)
      have kb := hk2 _ e b (by simp)
      simp only [List.length_cons, List.length_nil, Bool.not_eq_true', decide_eq_false_iff_not]
      rw [if_neg (by decide)]
      refine n1 _ _ ?_
      simp only [wRet, wAndV, wCall, wCons, wNil, wBin, wVar, wC, getV, some!, oIx, e, (ix2_at a b).1, (ix2_at a b).2]
      refine ⟨a, l, 1000000, rfl, ka, ?_⟩
      rw [askOf_two e] at h
      cases e2 : inR l 1000000 a with
      | true =>
        simp only [if_true, e, (ix2_at a b).2]
        refine ⟨b, 1, 1000, rfl, kb, ?_⟩
        rw [e2, Bool.true_and] at h
        exact h
      | false =>
        simp only [Bool.false_eq_true, if_false]
        rw [e2, Bool.false_and] at h
        exact h
    · have e1 := askOf_not (l := l) e q
      have e2 : decide ((xs.length : Int) = 2) = false := decide_eq_false (by omega)
      simp only [e2, Bool.not_false, if_true, wRet, wC, r1]
      rw [e1] at h
      exact h
/-- what is known stays known -/
theorem kn_put {S : Sto} {d : D} {p : Addr} {m : MO} (h : Kn S d) (hp : S p = none) : Kn (put S p m) d ∧ seqA (put S p m) d = seqA S d := by
  rcases kn_cases h with rfl | ⟨b, rfl⟩ | ⟨i, rfl⟩ | ⟨x, rfl⟩ | ⟨xs, rfl⟩ | ⟨e1, xs, e2, e3⟩
  · exact ⟨⟨_, rfl⟩, rfl⟩
  · exact ⟨⟨_, rfl⟩, rfl⟩
  · exact ⟨⟨_, rfl⟩, rfl⟩
  · exact ⟨⟨_, rfl⟩, rfl⟩
  · exact ⟨⟨_, rfl⟩, rfl⟩
  · have z2 := seqL_put (m := m) e2 hp
    refine ⟨?_, by rw [seqA_put e3 hp, e3]⟩
    cases d with
    | ref a =>
      refine ⟨"list", ?_⟩
      show ((seqL (put S p m) (.ref a)).map fun _ => "list") = some "list"
      rw [z2]; rfl
    | lst xs => exact ⟨_, rfl⟩
    | fro xs => exact ⟨_, rfl⟩
    | _ => exact ⟨_, e1⟩
theorem askOf_put {S : Sto} {l : Int} {d : D} {p : Addr} {m : MO} (h : Kn S d) (hp : S p = none) : askOf (put S p m) l d = askOf S l d := by
  unfold askOf
  rw [(kn_put h hp).2]
end K41
set_option Elab.async false
set_option linter.all false
set_option maxRecDepth 100000
set_option maxHeartbeats 1000000
namespace K41
open PySem PySem.Spec PyProof.Rows L2 DL
local macro_rules | `(tactic| walk_at "r") => `(tactic| try simp only [wSeq, wNext, wSet, wC, wFor, wIt, wRg1, wRg2, wVar, wIf, wAnd, wOr, wNot, wTest, wChain, wBin, wCB, wCons, wNil, wSl, wP, wNoP, wRet, wRetN, wDrop, wCall, wTup, wLst, wLstM, wUn, wIfE, wAndV, wOrV, wNotV, wIsi, wYes, wSetI, wSetF, wFld, wAugF, wMt, wMeth, wLc, wLcM, wBreak, xcQ, fldD, setD, setIx, mutL, isIns, put_same, put_put, oAppend, oExtend,
  getV, setV, some!, one, two, asI, oLen, oLt, oLe, oGt, oGe, oI0, oI, oSub, oMul, oMod, oDiv, oPow, oAdd, oCatL, oEq, oNe, oIsN, oNotN, oIx, oSl, oTuple, oList, oMax2, oMin2, oInt, gN, seqA, seqL, seqM, dT, dL, List.length_map, decide_eq_true_eq, shD_int, shD_bl, shD_lst, shD_tup, eqD_int, eqD_bl, eqD_lst, eqD_tup, cutD_int, true_and, and_true, if_true, if_false, Bool.false_eq_true, Bool.true_eq_false, eq_self_iff_true,
  List.set_cons_zero, List.set_cons_succ, Bool.not_true, Bool.not_false, tyN, isNon, delVs, delV])
theorem askOf_ex {S : Sto} {l : Int} {d : D} {p : Int × Int} (h : askOf S l d = some p) : seqA S d = some [.int p.1, .int p.2] := by
  unfold askOf at h
  cases e : seqA S d with
  | none => rw [e] at h; cases h
  | some xs =>
    rw [e] at h
    match xs, h with
    | [.int x, .int y], h =>
      by_cases q : (l ≤ x ∧ x ≤ 1000000) ∧ 1 ≤ y ∧ y ≤ 1000
      · have h' : (if (l ≤ x ∧ x ≤ 1000000) ∧ 1 ≤ y ∧ y ≤ 1000 then some (x, y) else none) = some p := h
        rw [if_pos q] at h'
        cases h'
        rfl
      · have h' : (if (l ≤ x ∧ x ≤ 1000000) ∧ 1 ≤ y ∧ y ≤ 1000 then some (x, y) else none) = some p := h
        rw [if_neg q] at h'
        cases h'
theorem len_checked_asks (c : Cl) : ∀ ds S Q E, sp_checked_asks c ds S Q E → ds.length = 1 := by
  rintro ds S Q E ⟨_, rfl, _⟩; rfl
theorem rd_checked_asks (c : Cl) : ∀ ds S Q X1, sp_checked_asks c ds S Q X1 → w_checked_asks c (startD N_checked_asks_ ds) S (endQ Q X1) := by
  rintro ds S Q X1 ⟨d, rfl, ⟨hk, hk2⟩, h1, h2⟩
  show w_checked_asks c [some d, none, none, none, none] S (endQ Q X1)
  unfold w_checked_asks
  refine seq_k fun q1 n1 r1 _ _ x1 => ?_
  simp only [wDrop, wCall, wCons, wNil, wVar, wC, getV, some!]
  refine ⟨d, 0, 40, rfl, hk, fun hl => n1 _ _ ?_, fun hl => ?_⟩
  · obtain ⟨xs, e, hlen⟩ : ∃ xs, seqA S d = some xs ∧ xs.length ≤ 40 := by
      unfold lenR at hl
      cases e : seqA S d with
      | none => rw [e] at hl; cases hl
      | some xs =>
        rw [e] at hl
        have := of_decide_eq_true hl
        exact ⟨xs, rfl, by omega⟩
    have eA : asksOf S d = askAll S 0 0 xs := by
      unfold asksOf
      rw [e]
      exact if_pos hlen
    refine seq_k fun q1 n1 r1 _ _ x1 => ?_
    simp only [wSet, wC, setV]
    refine n1 _ _ ?_
    refine seq_k fun q1 n1 r1 _ _ x1 => ?_
    simp only [wSet, wLstM, wNil, setV]
    refine ⟨Nat.zero_le _, fun p hp => n1 _ _ ?_⟩
    refine seq_k fun q1 n1 r1 _ _ x1 => ?_
    simp only [wFor, wEnum, wVar, getV, some!, (kn_put hk hp).2, e]
    refine forI_invq (fun i e S' => ∃ acc least x3 x4, S' = put S p (.lst (acc.map dPair)) ∧ e = [some d, some (.int least), some (.ref p), x3, x4] ∧
      (askAll S 0 0 xs = match askAll S least i (xs.drop i) with | .inl l => .inl (acc ++ l) | .inr z => .inr z) ∧ acc.length ≤ i) ⟨[], 0, none, none, rfl, rfl, by
        rw [List.drop_zero]
        cases askAll S 0 0 xs <;> rfl, Nat.le_refl _⟩ (fun i e' S' ⟨acc, least, x3, x4, e1, _⟩ => by rw [e1, (kn_put hk hp).2]; exact e) ?_ ?_
    · rintro i d' e' S' hi ⟨acc, least, x3, x4, rfl, rfl, ha, hal⟩ q hq hrt hbk hct hxc
      obtain ⟨x, hx, rfl⟩ := enumD_get hi
      have hi40 : i < xs.length := lt_of_some hx
      obtain ⟨kx, kx2⟩ := hk2 xs e x (List.mem_of_getElem? hx)
      have kp := kn_put (m := .lst (acc.map dPair)) kx hp
      have edrop : xs.drop i = x :: xs.drop (i + 1) := by
        rw [List.drop_eq_getElem_cons hi40]
        congr 1
        have := List.getElem?_eq_getElem hi40
        rw [this] at hx
        exact Option.some.inj hx
      simp only [gT, gAll, gN, setV, Nat.zero_add]
      refine ⟨rfl, ?_⟩
      refine seq_k fun q2 n2 _ _ _ y2 => ?_
      simp only [wIf, wNot, wTest, wCall, wCons, wNil, wVar, getV, some!]
      refine ⟨x, least, rfl, ⟨kp.1, fun ys hy y hm => ?_⟩, ?_⟩
      · rw [kp.2] at hy
        exact (kn_put (kx2 ys hy y hm) hp).1
      rw [askOf_put kx hp]
      rw [edrop] at ha
      cases ea : askOf S least x with
      | none =>
        simp only [Option.isSome_none, Bool.not_false, if_true, wRaise, wMkE, wVar, getV, some!, xcQ]
        rw [y2, hxc, x1]
        have e3 : askAll S least i (x :: xs.drop (i + 1)) = .inr i := by
          unfold askAll
          rw [ea]
        rw [e3] at ha
        refine h2 i (by rw [eA]; exact ha) _ fun a m hm => ?_
        rw [put_ne (fun z => by subst z; rw [hp] at hm; cases hm)]
        exact hm
      | some pr =>
        have es := askOf_ex ea
        simp only [Option.isSome_some, Bool.not_true, Bool.false_eq_true, if_false, wNext]
        refine n2 _ _ ?_
        refine seq_k fun q3 n3 _ _ _ y3 => ?_
        simp only [wSet, wBin, wVar, wC, getV, some!, oIx, kp.2, es, (ix2_at (D.int pr.1) (D.int pr.2)).1, setV]
        refine n3 _ _ ?_
        simp only [wDrop, wMt, wVar, wCB, wCons, wNil, getV, some!, mutL, put_same, oTuple, one, kp.2, es, oAppend, put_put]
        refine ⟨by rw [List.length_map]; unfold sizeLine; omega, hq _ _ ⟨acc ++ [pr], pr.1, _, _, by rw [List.map_append]; rfl, rfl, ?_, by simp; omega⟩⟩
        have e3 : askAll S least i (x :: xs.drop (i + 1)) = match askAll S pr.1 (i + 1) (xs.drop (i + 1)) with | .inl l => .inl (pr :: l) | .inr z => .inr z := by
          conv => lhs; unfold askAll
          rw [ea]
          all_goals (cases pr; rfl)
        rw [e3] at ha
        rw [ha]
        cases askAll S pr.1 (i + 1) (xs.drop (i + 1)) with
        | inl l => simp
        | inr z => rfl
    · rintro e' S' ⟨acc, least, x3, x4, rfl, rfl, ha, hal⟩
      rw [enumD_length, List.drop_length] at ha
      refine n1 _ _ ?_
      simp only [wRet, wFrz, wVar, getV, some!, frzD, put_same]
      rw [del_put hp]
      refine h1 acc ?_
      rw [eA, ha]
      simp [askAll]
  · simp only [xcQ]
    rw [x1]
    refine h2 0 ?_ S fun a m hm => hm
    unfold lenR at hl
    unfold asksOf
    cases e : seqA S d with
    | none => rfl
    | some xs =>
      rw [e] at hl
      have := of_decide_eq_false hl
      exact if_neg (by omega)
end K41
set_option Elab.async false
set_option linter.all false
set_option maxRecDepth 100000
set_option maxHeartbeats 1000000
namespace K41
open PySem PySem.Spec PyProof.Rows L2 DL
local macro_rules | `(tactic| walk_at "r") => `(tactic| try simp only [wSeq, wNext, wSet, wC, wFor, wIt, wRg1, wRg2, wVar, wIf, wAnd, wOr, wNot, wTest, wChain, wBin, wCB, wCons, wNil, wSl, wP, wNoP, wRet, wRetN, wDrop, wCall, wTup, wLst, wLstM, wUn, wIfE, wAndV, wOrV, wNotV, wIsi, wYes, wSetI, wSetF, wFld, wAugF, wMt, wMeth, wLc, wLcM, wBreak, xcQ, fldD, setD, setIx, mutL, isIns, put_same, put_put, oAppend, oExtend,
  getV, setV, some!, one, two, asI, oLen, oLt, oLe, oGt, oGe, oI0, oI, oSub, oMul, oMod, oDiv, oPow, oAdd, oCatL, oEq, oNe, oIsN, oNotN, oIx, oSl, oTuple, oList, oMax2, oMin2, oInt, gN, seqA, seqL, seqM, dT, dL, List.length_map, decide_eq_true_eq, shD_int, shD_bl, shD_lst, shD_tup, eqD_int, eqD_bl, eqD_lst, eqD_tup, cutD_int, true_and, and_true, if_true, if_false, Bool.false_eq_true, Bool.true_eq_false, eq_self_iff_true,
  List.set_cons_zero, List.set_cons_succ, Bool.not_true, Bool.not_false, tyN, isNon, delVs, delV])
theorem trs_len {S : Sto} : ∀ {ts ds : List D}, Trs S ds ts → ds.length = ts.length
  | [], _, h => by rw [show _ = [] from h]
  | t :: ts, _, ⟨x, r, e, _, h⟩ => by
    rw [e]
    show r.length + 1 = ts.length + 1
    rw [trs_len h]
theorem trs_get {S : Sto} : ∀ {ts ds : List D} {i : Nat} {t : D}, Trs S ds ts → ts[i]? = some t → ∃ x, ds[i]? = some x ∧ Tr S x t
  | [], _, _, _, _, e => by simp at e
  | t :: ts, _, 0, _, ⟨x, r, e1, h1, _⟩, e => by
    cases e
    subst e1
    exact ⟨x, rfl, h1⟩
  | t :: ts, _, i + 1, _, ⟨x, r, e1, _, h2⟩, e => by
    subst e1
    exact trs_get (i := i) h2 e
theorem at_of {xs : List D} {i : Nat} {x : D} (h : xs[i]? = some x) : atI xs (0 + (i : Int)) = some x := by
  have hl := lt_of_some h
  unfold atI ixN
  rw [if_pos (by omega), if_pos (by omega)]
  show xs[(0 + (i : Int)).toNat]? = _
  rw [show (0 + (i : Int)).toNat = i by omega]
  exact h
theorem kl1 : kitB "tuple" "tuple" = some true := by decide +kernel
theorem kl2 : kitB "list" "tuple" = some false := by decide +kernel
theorem kl3 : kitB "tuple" "list" = some false := by decide +kernel
theorem kl4 : kitB "list" "list" = some true := by decide +kernel
theorem kl5 : kitB "str" "bool" = some false := by decide +kernel
theorem kl6 : kitB "str" "str" = some true := by decide +kernel
/-- a list in the store -/
theorem tr_lst {S : Sto} {d : D} {xs : List D} (h : seqM S d = some xs) : tyN S d = some "list" ∧ seqA S d = some xs := by
  cases d with
  | lst ys => exact ⟨rfl, h⟩
  | ref a =>
    refine ⟨?_, h⟩
    show ((seqM S (.ref a)).map fun _ => "list") = some "list"
    rw [h]; rfl
  | _ => cases h
theorem len__law_like_n (c : Cl) (n : Nat) : ∀ ds S Q E, sp__law_like_n c n ds S Q E → ds.length = 2 := by
  intro ds S Q E h
  cases n with
  | zero => exact h.elim
  | succ n => obtain ⟨_, _, _, rfl, _⟩ := h; rfl
theorem imp__law_like (c : Cl) : ∀ ds S Q X1, sp__law_like c ds S Q X1 → sp__law_like_n c 6 ds S Q X1 := fun ds S Q X1 h => h
/-- item by item -/
theorem like_items {c : Cl} {n : Nat} {S : Sto} {a b : D} {xs ys ts : List D} {q0 : QS} (ha : seqA S a = some xs) (hb : seqA S b = some ys) (h1 : Trs S xs ts) (h2 : Trs S ys ts) (hw : ts.length ≤ 1000) (hf : ∀ t, t ∈ ts → ∃ m, n = m + 1 ∧ fits m t) (h : q0.rt (.bl true) S) :
    (wSeq (wIf (wTest (wBin oNe (wCB oLen (wCons (wVar 0) wNil)) (wCB oLen (wCons (wVar 1) wNil)))) (wRet (wC (.bl false))) wNext)
      (wSeq (wFor (wRg1 (wCB oLen (wCons (wVar 1) wNil))) (gN 2) (wIf (wNot (wTest (wCall (sp__law_like_n c n) (wCons (wBin oIx (wVar 0) (wVar 2)) (wCons (wBin oIx (wVar 1) (wVar 2)) wNil))))) (wRet (wC (.bl false))) wNext))
      (wRet (wC (.bl true))))) [some a, some b, none] S q0 := by
  have e1 := trs_len h1
  have e2 := trs_len h2
  refine seq_k fun q1 n1 r1 _ _ _ => ?_
  simp only [wIf, wTest, wBin, wCB, wCons, wNil, wVar, getV, some!]
  refine oLen_of ha (oLen_of hb ?_)
  have e3 : decide ((xs.length : Int) = (ys.length : Int)) = true := decide_eq_true (by omega)
  simp only [oNe, shD_int, eqD_int, true_and, e3, Bool.not_true, Bool.false_eq_true, if_false, wNext]
  refine n1 _ _ ?_
  refine seq_k fun q1 n1 r1 _ _ _ => ?_
  simp only [wFor, wRg1, wCB, wCons, wNil, wVar, getV, some!]
  refine oLen_of hb ?_
  simp only [asI]
  refine ⟨by omega, ?_⟩
  refine forI_invq (fun i e S' => S' = S ∧ ∃ x, e = [some a, some b, x]) ⟨rfl, _, rfl⟩ (fun _ _ _ _ => trivial) ?_ ?_
  · rintro i d e S' hi ⟨rfl, x, rfl⟩ q hq hrt _ _ _
    obtain ⟨hlt, rfl⟩ := rngD_get hi
    obtain ⟨t, ht⟩ : ∃ t, ts[i]? = some t := ⟨_, List.getElem?_eq_getElem (by omega)⟩
    obtain ⟨u, hu, tu⟩ := trs_get h1 ht
    obtain ⟨v, hv, tv⟩ := trs_get h2 ht
    obtain ⟨m, rfl, fm⟩ := hf t (List.mem_of_getElem? ht)
    simp only [gN, setV, wIf, wNot, wTest, wCall, wBin, wCons, wNil, wVar, getV, some!, oIx, ha, hb, at_of hu, at_of hv]
    refine ⟨u, v, t, rfl, tu, tv, fm, ?_⟩
    simp only [Bool.not_true, Bool.false_eq_true, if_false, wNext]
    exact hq _ _ ⟨rfl, _, rfl⟩
  · rintro e S' ⟨rfl, x, rfl⟩
    refine n1 _ _ ?_
    simp only [wRet, wC]
    exact h
theorem rd__law_like (c : Cl) (n : Nat) : ∀ ds S Q X1, sp__law_like_n c (n + 1) ds S Q X1 → w__law_like c n (startD N__law_like_ ds) S (endQ Q X1) := by
  rintro ds S Q X1 ⟨a, b, t, rfl, ta, tb, hf, h⟩
  show w__law_like c n [some a, some b, none] S (endQ Q X1)
  unfold w__law_like
  refine seq_k fun q1 n1 r1 _ _ x1 => ?_
  cases t with
  | non =>
    cases ta; cases tb
    simp only [wIf, wTest, wIsiT, wVar, getV, some!, tyN, kr1, Bool.false_eq_true, if_false, wNext]
    refine n1 _ _ ?_
    simp only [wSeq, wIf, wTest, wBin, wVar, wC, getV, some!, oIsN, isNon, if_true, wRet]
    exact h
  | bl k =>
    cases ta; cases tb
    simp only [wIf, wTest, wIsiT, wVar, getV, some!, tyN, kr2, Bool.false_eq_true, if_false, wNext]
    refine n1 _ _ ?_
    simp only [wSeq, wIf, wTest, wBin, wVar, wC, getV, some!, oIsN, isNon, wIsi, tyN, kt7, Bool.false_eq_true, if_false, if_true, wRet, wNext, wAndV, oEq, shD_bl, eqD_bl, true_and, beq_self_eq_true]
    exact h
  | int k =>
    cases ta; cases tb
    simp only [wIf, wTest, wIsiT, wVar, getV, some!, tyN, kr3, Bool.false_eq_true, if_false, wNext]
    refine n1 _ _ ?_
    simp only [wSeq, wIf, wTest, wBin, wVar, wC, getV, some!, oIsN, isNon, wIsi, tyN, kt8, kt3, Bool.false_eq_true, if_false, if_true, wRet, wNext, wAndV, wNotV, Bool.not_false, oEq, shD_int, eqD_int, true_and, decide_true]
    exact h
  | str x =>
    cases ta; cases tb
    simp only [wIf, wTest, wIsiT, wVar, getV, some!, tyN, kr4, Bool.false_eq_true, if_false, wNext]
    refine n1 _ _ ?_
    have hf' : (PyData.str x).canLay0 = true := by cases n <;> exact hf
    have hs : shD S (.str x) = true := shaped_of (n := 0) (p := .str x) ⟨hf', Nat.zero_le _⟩ (by decide)
    have he : eqD S (.str x) (.str x) = true := PySem.SeqAt.eqv_refl (.str x) hf'
    simp only [wSeq, wIf, wTest, wBin, wVar, wC, getV, some!, oIsN, isNon, wIsi, tyN, kl5, kt4, kl6, Bool.false_eq_true, if_false, if_true, wRet, wNext, wAndV, oEq, hs, he, true_and]
    exact h
  | tup ts =>
    obtain ⟨xs, rfl, h1⟩ := ta
    obtain ⟨ys, rfl, h2⟩ := tb
    have hf' : ts.length ≤ 1000 ∧ ∀ t, t ∈ ts → ∃ m, n = m + 1 ∧ fits m t := by
      cases n with
      | zero => exact hf.elim
      | succ n => exact ⟨hf.1, fun t ht => ⟨n, rfl, hf.2 t ht⟩⟩
    simp only [wIf, wTest, wIsiT, wVar, getV, some!, tyN, kr5, if_true]
    refine seq_k fun q2 n2 r2 _ _ _ => ?_
    simp only [wIf, wOr, wTest, wBin, wIsi, wVar, getV, some!, tyN, kl1, kl3, oNe, shD_bl, eqD_bl, true_and, beq_self_eq_true, Bool.not_true, Bool.false_eq_true, if_false, wNext]
    refine n2 _ _ ?_
    exact like_items (c := c) (n := n) (S := S) (a := .tup xs) (b := .tup ys) rfl rfl h1 h2 hf'.1 hf'.2 (by rw [r1]; exact h)
  | lst ts =>
    obtain ⟨xs, ea, h1⟩ := ta
    obtain ⟨ys, eb, h2⟩ := tb
    obtain ⟨ta1, ta2⟩ := tr_lst ea
    obtain ⟨tb1, tb2⟩ := tr_lst eb
    have hf' : ts.length ≤ 1000 ∧ ∀ t, t ∈ ts → ∃ m, n = m + 1 ∧ fits m t := by
      cases n with
      | zero => exact hf.elim
      | succ n => exact ⟨hf.1, fun t ht => ⟨n, rfl, hf.2 t ht⟩⟩
    simp only [wIf, wTest, wIsiT, wVar, getV, some!, tb1, kr6, if_true]
    refine seq_k fun q2 n2 r2 _ _ _ => ?_
    simp only [wIf, wOr, wTest, wBin, wIsi, wVar, getV, some!, ta1, tb1, kl2, kl4, oNe, shD_bl, eqD_bl, true_and, beq_self_eq_true, Bool.not_true, Bool.false_eq_true, if_false, wNext]
    refine n2 _ _ ?_
    exact like_items (c := c) (n := n) (S := S) (a := a) (b := b) ta2 tb2 h1 h2 hf'.1 hf'.2 (by rw [r1]; exact h)
  | _ => exact ta.elim
end K41
set_option Elab.async false
set_option linter.all false
set_option maxRecDepth 100000
set_option maxHeartbeats 1000000
namespace K41
open PySem PySem.Spec PyProof.Rows L2 DL
local macro_rules | `(tactic| walk_at "r") => `(tactic| try simp only [wSeq, wNext, wSet, wC, wFor, wIt, wRg1, wRg2, wVar, wIf, wAnd, wOr, wNot, wTest, wChain, wBin, wCB, wCons, wNil, wSl, wP, wNoP, wRet, wRetN, wDrop, wCall, wTup, wLst, wLstM, wUn, wIfE, wAndV, wOrV, wNotV, wIsi, wYes, wSetI, wSetF, wFld, wAugF, wMt, wMeth, wLc, wLcM, wBreak, xcQ, fldD, setD, setIx, mutL, isIns, put_same, put_put, oAppend, oExtend,
  getV, setV, some!, one, two, asI, oLen, oLt, oLe, oGt, oGe, oI0, oI, oSub, oMul, oMod, oDiv, oPow, oAdd, oCatL, oEq, oNe, oIsN, oNotN, oIx, oSl, oTuple, oList, oMax2, oMin2, oInt, gN, seqA, seqL, seqM, dT, dL, List.length_map, decide_eq_true_eq, shD_int, shD_bl, shD_lst, shD_tup, eqD_int, eqD_bl, eqD_lst, eqD_tup, cutD_int, true_and, and_true, if_true, if_false, Bool.false_eq_true, Bool.true_eq_false, eq_self_iff_true,
  List.set_cons_zero, List.set_cons_succ, Bool.not_true, Bool.not_false, tyN, isNon, delVs, delV])
theorem askAll_len {S : Sto} : ∀ {xs : List D} {least : Int} {j : Nat} {l : List (Int × Int)}, askAll S least j xs = .inl l → l.length = xs.length
  | [], _, _, l, h => by cases h; rfl
  | d :: r, least, j, l, h => by
    unfold askAll at h
    cases e : askOf S least d with
    | none => rw [e] at h; cases h
    | some p =>
      obtain ⟨a, b⟩ := p
      rw [e] at h
      dsimp only at h
      cases e2 : askAll S a (j + 1) r with
      | inl l2 =>
        rw [e2] at h
        cases h
        show l2.length + 1 = r.length + 1
        rw [askAll_len e2]
      | inr z => rw [e2] at h; cases h
theorem asks_len {S : Sto} {d : D} {l : List (Int × Int)} (h : asksOf S d = .inl l) : l.length ≤ 40 := by
  unfold asksOf at h
  cases e : seqA S d with
  | none => rw [e] at h; cases h
  | some xs =>
    rw [e] at h
    by_cases q : xs.length ≤ 40
    · have h' : (if xs.length ≤ 40 then askAll S 0 0 xs else .inr 0) = .inl l := h
      rw [if_pos q] at h'
      rw [askAll_len h']; exact q
    · have h' : (if xs.length ≤ 40 then askAll S 0 0 xs else .inr 0) = .inl l := h
      rw [if_neg q] at h'
      cases h'
theorem divw {i j : Int} (h : 0 < j ∧ j ≤ 1000000000) : CDivW i j := by
  refine ⟨h.1, ?_⟩
  by_cases z : j.natAbs = 0
  · omega
  · have : j.natAbs.log2 < 61 := by rw [Nat.log2_lt z]; omega
    omega
theorem fold_take {α β : Type} (f : β → α → β) (a : β) {xs : List α} {i : Nat} {x : α} (h : xs[i]? = some x) : (xs.take (i + 1)).foldl f a = f ((xs.take i).foldl f a) x := by
  rw [List.take_add_one, h]; simp
theorem len_queue_ends (c : Cl) : ∀ ds S Q E, sp_queue_ends c ds S Q E → ds.length = 2 := by
  rintro ds S Q E ⟨_, _, rfl, _⟩; rfl
theorem rd_queue_ends (c : Cl) : ∀ ds S Q X1, sp_queue_ends c ds S Q X1 → w_queue_ends c (startD N_queue_ends_ ds) S (endQ Q X1) := by
  rintro ds S Q X1 ⟨d, v, rfl, hk, hv, h2, h1⟩
  show w_queue_ends c [some d, some v, none, none, none, none, none, none] S (endQ Q X1)
  unfold w_queue_ends
  refine seq_k fun q1 n1 r1 _ _ x1 => ?_
  simp only [wSet, wCall, wCons, wNil, wVar, getV, some!, setV]
  refine ⟨d, rfl, hk, fun l hl => n1 _ _ ?_, fun p hp S' ext => ?_⟩
  · obtain ⟨h3, h4⟩ := h1 l hl
    have hlen := asks_len hl
    refine seq_k fun q1 n1 r1 _ _ x1 => ?_
    simp only [wDrop, wCall, wCons, wNil, wVar, wC, getV, some!]
    refine ⟨v, 1, 100, rfl, hv, fun hin => n1 _ _ ?_, fun hin => ?_⟩
    · obtain ⟨s, rfl, hs1, hs2⟩ : ∃ s, v = .int s ∧ 1 ≤ s ∧ s ≤ 100 := by
        cases v with
        | int s =>
          have := of_decide_eq_true (show decide (1 ≤ s ∧ s ≤ 100) = true from hin)
          exact ⟨s, rfl, this.1, this.2⟩
        | _ => cases hin
      have h5 := h4 s rfl hin
      refine seq_k fun q1 n1 r1 _ _ x1 => ?_
      simp only [wSet, wC, setV]
      refine n1 _ _ ?_
      refine seq_k fun q1 n1 r1 _ _ x1 => ?_
      simp only [wSet, wC, setV]
      refine n1 _ _ ?_
      refine seq_k fun q1 n1 r1 _ _ x1 => ?_
      simp only [wSet, wLstM, wNil, setV]
      refine ⟨Nat.zero_le _, fun p hp => n1 _ _ ?_⟩
      refine seq_k fun q1 n1 r1 _ _ x1 => ?_
      simp only [wFor, wIt, wVar, getV, some!, seqA, seqL, seqM]
      refine forI_invq (fun i e S' => ∃ tick served fd x6 x7, (l.take i).foldl (endStep s) (0, 0, []) = (tick, served, fd) ∧ fd.length = i ∧ S' = put S p (.lst (fd.map D.int)) ∧
        e = [some d, some (.int s), some (.lst (l.map dPair)), some (.int tick), some (.int served), some (.ref p), x6, x7]) ⟨0, 0, [], none, none, rfl, rfl, rfl, rfl⟩ (fun _ _ _ _ => trivial) ?_ ?_
      · rintro i d' e' S' hi ⟨tick, served, fd, x6, x7, ef, hfl, rfl, rfl⟩ q hq _ _ _ _
        rw [List.getElem?_map] at hi
        obtain ⟨pr, hpr, rfl⟩ := Option.map_eq_some_iff.mp hi
        have hi40 : i < l.length := lt_of_some hpr
        have key := fold_take (endStep s) (0, 0, []) hpr
        rw [ef] at key
        have e1 : fd.map D.int ++ [D.int (tick)] = (fd ++ [tick]).map D.int := by simp
        simp only [gT, gAll, gN, setV, dPair]
        refine ⟨rfl, ?_⟩
        have fin : ∀ t2 s2, (if tick < pr.1 then pr.1 else tick) = t2 → (if tick < pr.1 then 0 else served) = s2 → q.nx [some d, some (.int s), some (.lst (l.map dPair)), some (.int (t2 + (s2 + pr.2 - 1) / s)), some (.int ((s2 + pr.2 - 1) % s + 1)), some (.ref p), some (.int pr.1), some (.int pr.2)]
            (put S p (.lst (fd.map D.int ++ [.int (t2 + (s2 + pr.2 - 1) / s)]))) := fun t2 s2 h1 h2 => by
          refine hq _ _ ⟨_, _, fd ++ [t2 + (s2 + pr.2 - 1) / s], _, _, ?_, by simp [hfl], by simp, rfl⟩
          rw [key]
          unfold endStep
          simp only [h1, h2]
        refine seq_k fun q2 n2 _ _ _ _ => ?_
        have rest : ∀ t2 s2, (if tick < pr.1 then pr.1 else tick) = t2 → (if tick < pr.1 then 0 else served) = s2 → q2.nx [some d, some (.int s), some (.lst (l.map dPair)), some (.int t2), some (.int s2), some (.ref p), some (.int pr.1), some (.int pr.2)] (put S p (.lst (fd.map D.int))) := fun t2 s2 h1 h2 => by
          refine n2 _ _ ?_
          have := fin t2 s2 h1 h2
          simp only [wSeq, wAug, wSet, wDrop, wMt, wBin, wVar, wC, wCons, wNil, getV, setV, some!, oI0, oI, oSub, oDiv, oMod, oAdd, oAppend, mutL, put_same, put_put, one, List.length_map]
          exact ⟨divw (by omega), by omega, by unfold sizeLine; omega, this⟩
        simp only [wIf, wTest, wBin, wVar, getV, some!, oGt, oI0, decide_eq_true_eq]
        split
        · rename_i g
          simp only [wSeq, wSet, wVar, wC, getV, setV, some!]
          exact rest _ _ (if_pos g) (if_pos g)
        · rename_i g
          exact rest _ _ (if_neg g) (if_neg g)
      · rintro e' S' ⟨tick, served, fd, x6, x7, ef, hfl, rfl, rfl⟩
        rw [List.length_map, List.take_length] at ef
        refine n1 _ _ ?_
        simp only [wRet, wFrz, wCB, wCons, wNil, wVar, getV, some!, frzD, put_same, oTuple, one, seqA, seqL, seqM]
        rw [del_put hp]
        have e2 : endsF s l = fd := by unfold endsF; rw [ef]
        rw [e2] at h5
        exact h5
    · simp only [xcQ]
      rw [x1]
      exact h3 hin
  · simp only [xcQ]
    rw [x1]
    exact h2 p hp S' ext
end K41
set_option Elab.async false
set_option linter.all false
set_option maxRecDepth 100000
set_option maxHeartbeats 1000000
namespace K41
open PySem PySem.Spec PyProof.Rows L2 DL
local macro_rules | `(tactic| walk_at "r") => `(tactic| try simp only [wSeq, wNext, wSet, wC, wFor, wIt, wRg1, wRg2, wVar, wIf, wAnd, wOr, wNot, wTest, wChain, wBin, wCB, wCons, wNil, wSl, wP, wNoP, wRet, wRetN, wDrop, wCall, wTup, wLst, wLstM, wUn, wIfE, wAndV, wOrV, wNotV, wIsi, wYes, wSetI, wSetF, wFld, wAugF, wMt, wMeth, wLc, wLcM, wBreak, xcQ, fldD, setD, setIx, mutL, isIns, put_same, put_put, oAppend, oExtend,
  getV, setV, some!, one, two, asI, oLen, oLt, oLe, oGt, oGe, oI0, oI, oSub, oMul, oMod, oDiv, oPow, oAdd, oCatL, oEq, oNe, oIsN, oNotN, oIx, oSl, oTuple, oList, oMax2, oMin2, oInt, gN, seqA, seqL, seqM, dT, dL, List.length_map, decide_eq_true_eq, shD_int, shD_bl, shD_lst, shD_tup, eqD_int, eqD_bl, eqD_lst, eqD_tup, cutD_int, true_and, and_true, if_true, if_false, Bool.false_eq_true, Bool.true_eq_false, eq_self_iff_true,
  List.set_cons_zero, List.set_cons_succ, Bool.not_true, Bool.not_false, tyN, isNon, delVs, delV])
theorem mulw2 {i j : Int} (hi : 0 ≤ i ∧ i < 2305843009213693951) (hj : 0 ≤ j ∧ j < 2305843009213693951) : CMulW i j := by
  have key : ∀ i : Int, 0 ≤ i ∧ i < 2305843009213693951 → i.natAbs.log2 < 61 := fun i hi => by
    by_cases z : i.natAbs = 0
    · rw [z]; decide
    · rw [Nat.log2_lt z]; omega
  have := key i hi
  have := key j hj
  unfold CMulW
  omega
end K41
set_option Elab.async false
set_option linter.all false
set_option maxRecDepth 100000
set_option maxHeartbeats 1000000
namespace K41
open PySem PySem.Spec PyProof.Rows L2 DL
local macro_rules | `(tactic| walk_at "r") => `(tactic| try simp only [wSeq, wNext, wSet, wC, wFor, wIt, wRg1, wRg2, wVar, wIf, wAnd, wOr, wNot, wTest, wChain, wBin, wCB, wCons, wNil, wSl, wP, wNoP, wRet, wRetN, wDrop, wCall, wTup, wLst, wLstM, wUn, wIfE, wAndV, wOrV, wNotV, wIsi, wYes, wSetI, wSetF, wFld, wAugF, wMt, wMeth, wLc, wLcM, wBreak, xcQ, fldD, setD, setIx, mutL, isIns, put_same, put_put, oAppend, oExtend,
  getV, setV, some!, one, two, asI, oLen, oLt, oLe, oGt, oGe, oI0, oI, oSub, oMul, oMod, oDiv, oPow, oAdd, oCatL, oEq, oNe, oIsN, oNotN, oIx, oSl, oTuple, oList, oMax2, oMin2, oInt, gN, seqA, seqL, seqM, dT, dL, List.length_map, decide_eq_true_eq, shD_int, shD_bl, shD_lst, shD_tup, eqD_int, eqD_bl, eqD_lst, eqD_tup, cutD_int, true_and, and_true, if_true, if_false, Bool.false_eq_true, Bool.true_eq_false, eq_self_iff_true,
  List.set_cons_zero, List.set_cons_succ, Bool.not_true, Bool.not_false, tyN, isNon, delVs, delV])
section
variable {α : Type} {a b c d : α} {l : List α}
theorem at4_0 : atI [a, b, c, d] 0 = some a := rfl
theorem at4_1 : atI [a, b, c, d] 1 = some b := rfl
theorem at4_2 : atI [a, b, c, d] 2 = some c := rfl
theorem at4_3 : atI [a, b, c, d] 3 = some d := rfl
theorem ix4_0 : ixN [a, b, c, d].length 0 = some 0 := rfl
theorem ix4_1 : ixN [a, b, c, d].length 1 = some 1 := rfl
theorem ix4_3 : ixN [a, b, c, d].length 3 = some 3 := rfl
theorem atc_0 : atI (a :: l) 0 = some a := by
  unfold atI ixN
  rw [if_pos (by decide), if_pos (by simp only [List.length_cons]; omega)]; rfl
theorem ixc_0 : ixN (a :: l).length 0 = some 0 := by
  unfold ixN
  rw [if_pos (by decide), if_pos (by simp only [List.length_cons]; omega)]; rfl
theorem sqc_0 : seqIndex? 0 (a :: l).length = some 0 := by
  unfold seqIndex?
  simp
end
theorem len__law_draw (c : Cl) : ∀ ds S Q E, sp__law_draw c ds S Q E → ds.length = 2 := by
  rintro ds S Q E ⟨_, _, _, _, rfl, _⟩; rfl
theorem rd__law_draw (c : Cl) : ∀ ds S Q X1, sp__law_draw c ds S Q X1 → w__law_draw c (startD N__law_draw_ ds) S (endQ Q X1) := by
  rintro ds S Q X1 ⟨p, g, N, n, rfl, ⟨hne, ⟨seed, cnt, great, m⟩, ⟨⟨k1, k2⟩, ⟨k3, k4⟩, k5, k6, k7⟩, hp, hg⟩, hN, ⟨hn, hn2⟩, h⟩
  show w__law_draw c [some (.ref p), some (.int n), none, none, none] S (endQ Q X1)
  dsimp only at k1 k2 k3 k4 k5 k6 k7 hg
  have hp' : S p = some (.lst [.int seed, .int cnt, .ref g, .int m]) := hp
  have e0 : S = put (put S p (.lst [.int seed, .int cnt, .ref g, .int m])) g (.lst (great.map D.int)) := by rw [put_self hp', put_self hg]
  have hpg : ∀ (T : Sto) G, put T g G p = T p := fun T G => put_ne hne
  have hw : ∀ (P P' G : MO), put (put (put S p P) g G) p P' = put (put S p P') g G := fun P P' G => by rw [put_comm (Ne.symm hne), put_put]
  have hr : ∀ x : Int, 0 ≤ x % n ∧ x % n < n := fun x => ⟨Int.emod_nonneg _ (by omega), Int.emod_lt_of_pos _ hn⟩
  have fin : ∀ (r seed' : Int) (great' : List Int) (m' : Int), 0 ≤ r → r < n → (0 ≤ seed' ∧ seed' < 2147483648) → great'.length ≤ 63 → (0 ≤ m' ∧ m' ≤ 60) → Q (.int r) (put (put S p (.lst [.int seed', .int (cnt + 1), .ref g, .int m'])) g (.lst (great'.map D.int))) :=
    fun r seed' great' m' h0 h1 h2 h3 h4 => h r h0 h1 ⟨seed', cnt + 1, great', m'⟩ ⟨h2, ⟨by show 0 ≤ cnt + 1; omega, by show cnt + 1 ≤ N + 1; omega⟩, h3, h4⟩
  rw [e0]
  unfold w__law_draw
  refine seq_k fun q1 n1 r1 _ _ _ => ?_
  simp only [wSetI, wBin, wVar, wC, getV, some!, oIx, seqA, seqL, seqM, setIx, hpg, hw, put_same, put_put, at4_0, at4_1, at4_2, at4_3, ix4_0, ix4_1, ix4_3, oAdd, List.set_cons_zero, List.set_cons_succ]
  refine n1 _ _ ?_
  refine seq_k fun q1 n1 r1 _ _ _ => ?_
  simp only [wSet, wBin, wVar, wC, getV, setV, some!, oIx, seqA, seqL, seqM, hpg, hw, put_same, put_put, at4_2]
  refine n1 _ _ ?_
  refine seq_k fun q1 n1 r1 _ _ _ => ?_
  simp only [wIf, wTest, wBin, wCB, wCons, wNil, wVar, wC, getV, some!, oLen, one, seqA, seqL, seqM, put_same, List.length_map, oGt, oI0, decide_eq_true_eq]
  cases great with
  | nil =>
    rw [if_neg (by decide)]
    refine n1 _ _ ?_
    refine seq_k fun q1 n1 r1 _ _ _ => ?_
    simp only [wSet, wBin, wCB, wCons, wNil, wVar, wC, getV, setV, some!, oIx, seqA, seqL, seqM, hpg, put_same, at4_0, at4_1, oMul, oMod, oAdd, oI, oInt, one]
    refine ⟨mulw2 ⟨by omega, by omega⟩ ⟨by omega, by omega⟩, mulw2 (by decide) ⟨by omega, by omega⟩, by decide, n1 _ _ ?_⟩
    have m1 : 0 ≤ (seed * seed + 40503 * (cnt + 1)) % 2147483647 := Int.emod_nonneg _ (by decide)
    have m2 : (seed * seed + 40503 * (cnt + 1)) % 2147483647 < 2147483647 := Int.emod_lt_of_pos _ (by decide)
    generalize (seed * seed + 40503 * (cnt + 1)) % 2147483647 = s2 at m1 m2
    have m3 : 0 ≤ (s2 * s2 + (cnt + 1)) % 2147483629 := Int.emod_nonneg _ (by decide)
    have m4 : (s2 * s2 + (cnt + 1)) % 2147483629 < 2147483629 := Int.emod_lt_of_pos _ (by decide)
    refine seq_k fun q1 n1 r1 _ _ _ => ?_
    simp only [wSetI, wBin, wCB, wCons, wNil, wVar, wC, getV, setV, some!, oIx, seqA, seqL, seqM, setIx, hpg, hw, put_same, put_put, at4_0, at4_1, ix4_0, oMul, oMod, oAdd, oI, oInt, one, List.set_cons_zero]
    refine ⟨mulw2 ⟨by omega, by omega⟩ ⟨by omega, by omega⟩, by decide, n1 _ _ ?_⟩
    simp only [wRet, wBin, wCB, wCons, wNil, wVar, wC, getV, setV, some!, oIx, seqA, seqL, seqM, hpg, put_same, at4_0, oDiv, oMod, oI, oInt, one]
    exact ⟨divw (by decide), hn, fin _ _ [] m (hr _).1 (hr _).2 ⟨m3, by omega⟩ (Nat.zero_le _) ⟨k6, k7⟩⟩
  | cons x rest =>
    rw [if_pos (by simp only [List.length_cons]; omega)]
    simp only [List.map_cons]
    refine seq_k fun q2 n2 r2 _ _ _ => ?_
    simp only [wSet, wBin, wCB, wCons, wNil, wVar, wC, getV, setV, some!, oIx, seqA, seqL, seqM, put_same, atc_0, oMod, oI, oInt, one]
    refine ⟨hn, n2 _ _ ?_⟩
    refine seq_k fun q2 n2 r2 _ _ _ => ?_
    simp only [wSetI, wBin, wVar, wC, getV, setV, some!, oIx, seqA, seqL, seqM, setIx, put_same, put_put, atc_0, ixc_0, oDiv, oI, List.set_cons_zero]
    refine ⟨divw (by omega), n2 _ _ ?_⟩
    refine seq_k fun q2 n2 r2 _ _ _ => ?_
    simp only [wSetI, wBin, wVar, wC, getV, setV, some!, oIx, seqA, seqL, seqM, setIx, hpg, hw, put_same, put_put, at4_3, ix4_3, oAdd, List.set_cons_zero, List.set_cons_succ]
    refine n2 _ _ ?_
    refine seq_k fun q3 n3 r3 _ _ _ => ?_
    have out : ∀ (gr : List Int) (m' : Int), gr.length ≤ 63 → (0 ≤ m' ∧ m' ≤ 60) → q3.nx [some (.ref p), some (.int n), some (.ref g), some (.int (x % n)), none] (put (put S p (.lst [.int seed, .int (cnt + 1), .ref g, .int m'])) g (.lst (gr.map D.int))) := fun gr m' h1 h2 => by
      refine n3 _ _ ?_
      simp only [wRet, wVar, getV, some!]
      rw [r1]
      exact fin _ seed gr m' (hr _).1 (hr _).2 ⟨k1, k2⟩ h1 h2
    have hlen : rest.length + 1 ≤ 63 := k5
    have pop : (wSeq (wDrop (wMt oPopAt (wVar 2) (wCons (wC (.int 0)) wNil))) (wSetI (wVar 0) (wC (.int 3)) (wC (.int 0)))) [some (.ref p), some (.int n), some (.ref g), some (.int (x % n)), none]
        (put (put S p (.lst [.int seed, .int (cnt + 1), .ref g, .int (m + 1)])) g (.lst (.int (x / n) :: rest.map D.int))) q3 := by
      have := out rest 0 (by omega) ⟨Int.le_refl 0, by omega⟩
      simp only [wSeq, wDrop, wMt, wSetI, wVar, wC, wCons, wNil, getV, some!, oPopAt, mutL, put_same, one, asI, sqc_0, List.getElem?_cons_zero, List.eraseIdx_cons_zero, put_put, setIx, hpg, hw, ix4_3, List.set_cons_zero, List.set_cons_succ]
      exact ⟨by decide, this⟩
    simp only [wIf, wOr, wTest, wBin, wVar, wC, getV, some!, oIx, seqA, seqL, seqM, put_same, hpg, atc_0, at4_3, oEq, shD_int, eqD_int, true_and, oGe, oI0, decide_eq_true_eq]
    split
    · exact pop
    · split
      · exact pop
      · rename_i g1 g2
        exact out (x / n :: rest) (m + 1) hlen ⟨by omega, by omega⟩
end K41
set_option Elab.async false
set_option linter.all false
set_option maxRecDepth 100000
set_option maxHeartbeats 1000000
namespace K41
open PySem PySem.Spec PyProof.Rows L2 DL
local macro_rules | `(tactic| walk_at "r") => `(tactic| try simp only [wSeq, wNext, wSet, wC, wFor, wIt, wRg1, wRg2, wVar, wIf, wAnd, wOr, wNot, wTest, wChain, wBin, wCB, wCons, wNil, wSl, wP, wNoP, wRet, wRetN, wDrop, wCall, wTup, wLst, wLstM, wUn, wIfE, wAndV, wOrV, wNotV, wIsi, wYes, wSetI, wSetF, wFld, wAugF, wMt, wMeth, wLc, wLcM, wBreak, xcQ, fldD, setD, setIx, mutL, isIns, put_same, put_put, oAppend, oExtend,
  getV, setV, some!, one, two, asI, oLen, oLt, oLe, oGt, oGe, oI0, oI, oSub, oMul, oMod, oDiv, oPow, oAdd, oCatL, oEq, oNe, oIsN, oNotN, oIx, oSl, oTuple, oList, oMax2, oMin2, oInt, gN, seqA, seqL, seqM, dT, dL, List.length_map, decide_eq_true_eq, shD_int, shD_bl, shD_lst, shD_tup, eqD_int, eqD_bl, eqD_lst, eqD_tup, cutD_int, true_and, and_true, if_true, if_false, Bool.false_eq_true, Bool.true_eq_false, eq_self_iff_true,
  List.set_cons_zero, List.set_cons_succ, Bool.not_true, Bool.not_false, tyN, isNon, delVs, delV])
theorem len__law_pool (c : Cl) : ∀ ds S Q E, sp__law_pool c ds S Q E → ds.length = 1 := by
  rintro ds S Q E ⟨_, rfl, _⟩; rfl
theorem at_mem {cells : List Int} {i : Int} (h0 : 0 ≤ i) (h : i < cells.length) : ∃ x, x ∈ cells ∧ atI (cells.map D.int) i = some (.int x) := by
  refine ⟨cells[i.toNat]'(by omega), List.getElem_mem _, ?_⟩
  unfold atI ixN
  rw [List.length_map, if_pos h0, if_pos h]
  show (cells.map D.int)[i.toNat]? = _
  rw [List.getElem?_map, List.getElem?_eq_getElem (by omega)]; rfl
theorem rd__law_pool (c : Cl) : ∀ ds S Q X1, sp__law_pool c ds S Q X1 → w__law_pool c (startD N__law_pool_ ds) S (endQ Q X1) := by
  rintro ds S Q X1 ⟨cells, rfl, hc, h⟩
  show w__law_pool c [some (.fro (cells.map D.int)), none, none, none, none] S (endQ Q X1)
  unfold w__law_pool
  refine seq_k fun q1 n1 r1 _ _ _ => ?_
  simp only [wSet, wC, setV]
  refine n1 _ _ ?_
  refine seq_k fun q1 n1 r1 _ _ _ => ?_
  simp only [wSet, wLstM, wNil, setV]
  refine ⟨Nat.zero_le _, fun g hg => n1 _ _ ?_⟩
  refine seq_k fun q1 n1 r1 _ _ _ => ?_
  simp only [wFor, wRg1, wCB, wCons, wNil, wVar, wC, getV, some!, oLen, one, seqA, seqL, seqM, oMin2, two, asI, List.length_map]
  refine ⟨by omega, ?_⟩
  refine forI_invq (fun i e S' => ∃ seed great x3 x4, (0 ≤ seed ∧ seed < 2147483648) ∧ great.length ≤ i ∧ S' = put S g (.lst (great.map D.int)) ∧ e = [some (.fro (cells.map D.int)), some (.int seed), some (.ref g), x3, x4]) ⟨7, [], none, none, by decide, Nat.le_refl _, rfl, rfl⟩ (fun _ _ _ _ => trivial) ?_ ?_
  · rintro i d e S' hi ⟨seed, great, x3, x4, ⟨s1, s2⟩, hgl, rfl, rfl⟩ q hq _ _ _ _
    obtain ⟨hlt, rfl⟩ := rngD_get hi
    have hi63 : i < 63 := by omega
    obtain ⟨x, hx, ex⟩ := at_mem (cells := cells) (i := 0 + (i : Int)) (by omega) (by omega)
    simp only [gN, setV]
    refine seq_k fun q2 n2 _ _ _ _ => ?_
    simp only [wSet, wBin, wCB, wCons, wNil, wVar, getV, setV, some!, oIx, seqA, seqL, seqM, ex, oInt, one]
    refine n2 _ _ ?_
    refine seq_k fun q2 n2 _ _ _ _ => ?_
    have rest : ∀ gr : List Int, gr.length ≤ i + 1 → q2.nx [some (.fro (cells.map D.int)), some (.int seed), some (.ref g), some (.int (0 + (i : Int))), some (.int x)] (put S g (.lst (gr.map D.int))) := fun gr hgr => by
      refine n2 _ _ ?_
      simp only [wSet, wBin, wCB, wCons, wNil, wVar, wC, getV, setV, some!, oMul, oMod, oAdd, oI, oInt, one]
      have m1 : 0 ≤ (seed * seed + x % 1000000007 + 31 * (0 + (i : Int))) % 2147483647 := Int.emod_nonneg _ (by decide)
      have m2 : (seed * seed + x % 1000000007 + 31 * (0 + (i : Int))) % 2147483647 < 2147483647 := Int.emod_lt_of_pos _ (by decide)
      exact ⟨mulw2 ⟨by omega, by omega⟩ ⟨by omega, by omega⟩, by decide, mulw2 (by decide) ⟨by omega, by omega⟩, by decide, hq _ _ ⟨_, gr, _, _, ⟨m1, by omega⟩, hgr, rfl, rfl⟩⟩
    simp only [wIf, wTest, wBin, wVar, wC, getV, some!, oGe, oI0, oPow, oI, decide_eq_true_eq]
    refine ⟨⟨by decide, by decide, by decide⟩, ?_⟩
    split
    · simp only [wDrop, wMt, wVar, wCons, wNil, getV, some!, oAppend, mutL, put_same, put_put, one, List.length_map]
      have e1 : great.map D.int ++ [D.int x] = (great ++ [x]).map D.int := by simp
      rw [e1]
      exact ⟨by unfold sizeLine; omega, rest _ (by simp; omega)⟩
    · exact rest _ (by omega)
  · rintro e S' ⟨seed, great, x3, x4, s12, hgl, rfl, rfl⟩
    rw [rngD_length] at hgl
    refine n1 _ _ ?_
    simp only [wRet, wLstM, wCons, wNil, wVar, wC, getV, some!]
    refine ⟨by show 4 ≤ sizeLine; decide, fun p hp => ?_⟩
    have hne : g ≠ p := ne_of_S put_same hp
    rw [put_ne (Ne.symm hne)] at hp
    have := h p g ⟨seed, 0, great, 0⟩ (Ne.symm hne) hp hg ⟨s12, ⟨Int.le_refl 0, Int.le_refl 0⟩, by show great.length ≤ 63; omega, ⟨Int.le_refl 0, by show (0 : Int) ≤ 60; decide⟩⟩
    unfold inPool at this
    rw [put_comm (Ne.symm hne)] at this
    exact this
end K41
set_option Elab.async false
set_option linter.all false
set_option maxRecDepth 100000
set_option maxHeartbeats 1000000
namespace K41
open PySem PySem.Spec PyProof.Rows L2 DL
theorem Ext.refl {S : Sto} : Ext S S := fun _ _ h => h
theorem Ext.trans {S S1 S2 : Sto} (a : Ext S S1) (b : Ext S1 S2) : Ext S S2 := fun p m h => b p m (a p m h)
theorem Ext.put {S : Sto} {p : Addr} {m : MO} (h : S p = none) : Ext S (put S p m) := fun a n e => by
  rw [put_ne (ne_of_S e h)]; exact e
theorem Ext.to2 {p g : Addr} {S S' : Sto} (e : Ext S S') : Ext2 p g S S' := fun a m _ _ h => e a m h
theorem Ext2.refl {p g : Addr} {S : Sto} : Ext2 p g S S := fun _ _ _ _ h => h
theorem Ext2.trans {p g : Addr} {S S1 S2 : Sto} (a : Ext2 p g S S1) (b : Ext2 p g S1 S2) : Ext2 p g S S2 := fun q m h1 h2 h => b q m h1 h2 (a q m h1 h2 h)
theorem Ext2.pool {p g : Addr} {S : Sto} {h : Pool} : Ext2 p g S (inPool S p g h) := fun a m h1 h2 e => by
  unfold inPool
  rw [put_ne h2, put_ne h1]; exact e
theorem IsPool.ext {p g : Addr} {S S' : Sto} {N : Int} (h : IsPool S p g N) (e : Ext S S') : IsPool S' p g N := by
  obtain ⟨h1, k, h2, h3, h4⟩ := h
  exact ⟨h1, k, h2, e _ _ h3, e _ _ h4⟩
theorem IsPool.mk {p g : Addr} {S : Sto} {N : Int} {h : Pool} (hne : p ≠ g) (ok : PoolOk N h) : IsPool (inPool S p g h) p g N := ⟨hne, h, ok, by unfold inPool; rw [put_ne hne, put_same], by unfold inPool; rw [put_same]⟩
theorem IsPool.mono {p g : Addr} {S : Sto} {N M : Int} (h : IsPool S p g N) (e : N ≤ M) : IsPool S p g M := by
  obtain ⟨h1, k, ⟨h2, h3, h4⟩, h5, h6⟩ := h
  exact ⟨h1, k, ⟨h2, ⟨h3.1, by have := h3.2; omega⟩, h4⟩, h5, h6⟩
theorem inPool_two {p g : Addr} {S : Sto} {h k : Pool} (hne : p ≠ g) : inPool (inPool S p g h) p g k = inPool S p g k := by
  unfold inPool
  rw [put_comm (a := g) (b := p) (Ne.symm hne), put_put, put_put]
/-- a draw -/
theorem draw_of {c : Cl} {S : Sto} {p g : Addr} {N n : Int} {Q : Qd} {E : XQ} (hp : IsPool S p g N) (hN : N ≤ 1000000) (hn : 0 < n ∧ n ≤ 10000000) (q : ∀ r, 0 ≤ r → r < n → ∀ h, PoolOk (N + 1) h → Q (.int r) (inPool S p g h)) : sp__law_draw c [.ref p, .int n] S Q E :=
  ⟨p, g, N, n, rfl, hp, hN, hn, q⟩
theorem seqM_ext {S S' : Sto} (e : Ext S S') {d : D} {xs : List D} (h : seqM S d = some xs) : seqM S' d = some xs := by
  cases d with
  | ref a =>
    have h' : (match S a with | some (.lst xs) => some xs | _ => none) = some xs := h
    show (match S' a with | some (.lst xs) => some xs | _ => none) = some xs
    cases q : S a with
    | none => rw [q] at h'; cases h'
    | some m => rw [e _ _ q]; rw [q] at h'; exact h'
  | _ => exact h
mutual
theorem Tr.ext {S S' : Sto} (e : Ext S S') : ∀ {t d : D}, Tr S d t → Tr S' d t
  | .lst _, _, ⟨xs, h1, h2⟩ => ⟨xs, seqM_ext e h1, Trs.ext e h2⟩
  | .tup _, _, ⟨xs, h1, h2⟩ => ⟨xs, h1, Trs.ext e h2⟩
  | .non, _, h => h
  | .bl _, _, h => h
  | .int _, _, h => h
  | .str _, _, h => h
  | .ref _, _, h => h
  | .fro _, _, h => h
  | .obj _ _ _, _, h => h
  | .exc _ _ _ _ _, _, h => h
theorem Trs.ext {S S' : Sto} (e : Ext S S') : ∀ {ts ds : List D}, Trs S ds ts → Trs S' ds ts
  | [], _, h => h
  | _ :: _, _, ⟨x, r, h1, h2, h3⟩ => ⟨x, r, h1, Tr.ext e h2, Trs.ext e h3⟩
end
mutual
theorem TrF.ext {S S' : Sto} (e : Ext S S') : ∀ {t d : D} {fp : List Addr}, TrF S d t fp → TrF S' d t fp
  | .lst _, _, _, ⟨a, xs, r, h1, h2, h3, h4⟩ => ⟨a, xs, r, h1, e _ _ h2, h3, TrsF.ext e h4⟩
  | .tup _, _, _, ⟨xs, h1, h2⟩ => ⟨xs, h1, TrsF.ext e h2⟩
  | .non, _, _, h => h
  | .bl _, _, _, h => h
  | .int _, _, _, h => h
  | .str _, _, _, h => h
  | .ref _, _, _, h => h
  | .fro _, _, _, h => h
  | .obj _ _ _, _, _, h => h
  | .exc _ _ _ _ _, _, _, h => h
theorem TrsF.ext {S S' : Sto} (e : Ext S S') : ∀ {ts ds : List D} {fp : List Addr}, TrsF S ds ts fp → TrsF S' ds ts fp
  | [], _, _, h => h
  | _ :: _, _, _, ⟨x, r, f1, f2, h1, h2, h3, h4⟩ => ⟨x, r, f1, f2, h1, h2, TrF.ext e h3, TrsF.ext e h4⟩
end
mutual
theorem TrF.tr {S : Sto} : ∀ {t d : D} {fp : List Addr}, TrF S d t fp → Tr S d t
  | .lst _, _, _, ⟨a, xs, r, h1, h2, h3, h4⟩ => ⟨xs, by subst h1; show (match S a with | some (.lst xs) => some xs | _ => none) = _; rw [h2], TrsF.tr h4⟩
  | .tup _, _, _, ⟨xs, h1, h2⟩ => ⟨xs, h1, TrsF.tr h2⟩
  | .non, _, _, h => h.1
  | .bl _, _, _, h => h.1
  | .int _, _, _, h => h.1
  | .str _, _, _, h => h.1
  | .ref _, _, _, h => h.elim
  | .fro _, _, _, h => h.elim
  | .obj _ _ _, _, _, h => h.elim
  | .exc _ _ _ _ _, _, _, h => h.elim
theorem TrsF.tr {S : Sto} : ∀ {ts ds : List D} {fp : List Addr}, TrsF S ds ts fp → Trs S ds ts
  | [], _, _, h => h.1
  | _ :: _, _, _, ⟨x, r, f1, f2, h1, h2, h3, h4⟩ => ⟨x, r, h1, TrF.tr h3, TrsF.tr h4⟩
end
mutual
theorem TrF.on {S : Sto} : ∀ {t d : D} {fp : List Addr}, TrF S d t fp → ∀ a, a ∈ fp → S a ≠ none
  | .lst _, _, _, ⟨a, xs, r, h1, h2, h3, h4⟩, b, hb => by
    subst h3
    cases hb with
    | head => rw [h2]; exact fun z => by cases z
    | tail _ hb => exact TrsF.on h4 b hb
  | .tup _, _, _, ⟨xs, h1, h2⟩, b, hb => TrsF.on h2 b hb
  | .non, _, _, h, b, hb => by rw [h.2] at hb; cases hb
  | .bl _, _, _, h, b, hb => by rw [h.2] at hb; cases hb
  | .int _, _, _, h, b, hb => by rw [h.2] at hb; cases hb
  | .str _, _, _, h, b, hb => by rw [h.2] at hb; cases hb
  | .ref _, _, _, h, _, _ => h.elim
  | .fro _, _, _, h, _, _ => h.elim
  | .obj _ _ _, _, _, h, _, _ => h.elim
  | .exc _ _ _ _ _, _, _, h, _, _ => h.elim
theorem TrsF.on {S : Sto} : ∀ {ts ds : List D} {fp : List Addr}, TrsF S ds ts fp → ∀ a, a ∈ fp → S a ≠ none
  | [], _, _, h, b, hb => by rw [h.2] at hb; cases hb
  | _ :: _, _, _, ⟨x, r, f1, f2, h1, h2, h3, h4⟩, b, hb => by
    subst h2
    rcases List.mem_append.mp hb with hb | hb
    · exact TrF.on h3 b hb
    · exact TrsF.on h4 b hb
end
theorem TrsF.snoc {S : Sto} {x t : D} {f2 : List Addr} (h' : TrF S x t f2) : ∀ {ts ds : List D} {f1 : List Addr}, TrsF S ds ts f1 → TrsF S (ds ++ [x]) (ts ++ [t]) (f1 ++ f2)
  | [], _, _, h => by
    obtain ⟨rfl, rfl⟩ := h
    exact ⟨x, [], f2, [], rfl, by simp, h', rfl, rfl⟩
  | _ :: _, _, _, ⟨y, r, g1, g2, h1, h2, h3, h4⟩ => by
    subst h1 h2
    exact ⟨y, _, g1, _, rfl, by rw [List.append_assoc], h3, TrsF.snoc h' h4⟩
/-- the class of a tree -/
theorem tr_kn {S : Sto} {d t : D} (h : Tr S d t) : Kn S d := by
  cases t with
  | lst ts => obtain ⟨xs, h1, _⟩ := h; exact ⟨_, (tr_lst h1).1⟩
  | tup ts => obtain ⟨xs, rfl, _⟩ := h; exact ⟨_, rfl⟩
  | non => cases h; exact ⟨_, rfl⟩
  | bl _ => cases h; exact ⟨_, rfl⟩
  | int _ => cases h; exact ⟨_, rfl⟩
  | str _ => cases h; exact ⟨_, rfl⟩
  | _ => exact h.elim
theorem tr_seq {S : Sto} {d t : D} (h : Tr S d t) : (∃ xs ts, seqA S d = some xs ∧ seqA noS t = some ts ∧ Trs S xs ts) ∨ (seqA S d = none ∧ seqA noS t = none) := by
  cases t with
  | lst ts => obtain ⟨xs, h1, h2⟩ := h; exact .inl ⟨xs, ts, (tr_lst h1).2, rfl, h2⟩
  | tup ts => obtain ⟨xs, rfl, h2⟩ := h; exact .inl ⟨xs, ts, rfl, rfl, h2⟩
  | non => cases h; exact .inr ⟨rfl, rfl⟩
  | bl _ => cases h; exact .inr ⟨rfl, rfl⟩
  | int _ => cases h; exact .inr ⟨rfl, rfl⟩
  | str _ => cases h; exact .inr ⟨rfl, rfl⟩
  | _ => exact h.elim
theorem trs_mem {S : Sto} : ∀ {ts xs : List D}, Trs S xs ts → ∀ x, x ∈ xs → ∃ t, Tr S x t
  | [], _, h, x, hx => by rw [show _ = [] from h] at hx; cases hx
  | t :: ts, _, ⟨y, r, e, h1, h2⟩, x, hx => by
    subst e
    cases hx with
    | head => exact ⟨t, h1⟩
    | tail _ hx => exact trs_mem h2 x hx
theorem tr_knAsks {S : Sto} {d t : D} (h : Tr S d t) : KnAsks S d := ⟨tr_kn h, fun xs hx x hm => by
  rcases tr_seq h with ⟨ys, ts, e1, _, h2⟩ | ⟨e, _⟩
  · rw [e1] at hx; cases hx
    obtain ⟨t', h3⟩ := trs_mem h2 x hm
    refine ⟨tr_kn h3, fun zs hz z hm2 => ?_⟩
    rcases tr_seq h3 with ⟨ys, ts, e1, _, h2⟩ | ⟨e, _⟩
    · rw [e1] at hz; cases hz
      obtain ⟨t', h4⟩ := trs_mem h2 z hm2
      exact tr_kn h4
    · rw [e] at hz; cases hz
  · rw [e] at hx; cases hx⟩
theorem tr_int {S : Sto} {d t : D} (h : Tr S d t) : (∃ i, d = .int i ∧ t = .int i) ∨ ((∀ i, d ≠ .int i) ∧ ∀ i, t ≠ .int i) := by
  cases t with
  | int i => exact .inl ⟨i, h, rfl⟩
  | lst ts =>
    obtain ⟨xs, h1, _⟩ := h
    refine .inr ⟨fun i e => ?_, (fun i e => by cases e)⟩
    subst e; cases h1
  | tup ts => obtain ⟨xs, rfl, _⟩ := h; exact .inr ⟨(fun i e => by cases e), (fun i e => by cases e)⟩
  | non => cases h; exact .inr ⟨(fun i e => by cases e), (fun i e => by cases e)⟩
  | bl _ => cases h; exact .inr ⟨(fun i e => by cases e), (fun i e => by cases e)⟩
  | str _ => cases h; exact .inr ⟨(fun i e => by cases e), (fun i e => by cases e)⟩
  | _ => exact h.elim
theorem askOf_eq {S : Sto} {l : Int} {d : D} : askOf S l d = (match seqA S d with | some [x, y] => (match x, y with | .int a, .int b => if (l ≤ a ∧ a ≤ 1000000) ∧ (1 ≤ b ∧ b ≤ 1000) then some (a, b) else none | _, _ => none) | _ => none) := by
  unfold askOf
  cases seqA S d with
  | none => rfl
  | some xs =>
    cases xs with
    | nil => rfl
    | cons x r =>
      cases r with
      | nil => cases x <;> rfl
      | cons y r =>
        cases r with
        | nil => cases x <;> cases y <;> rfl
        | cons z r => cases x <;> cases y <;> rfl
theorem askOf_tr {S : Sto} {d t : D} (h : Tr S d t) (l : Int) : askOf S l d = askOf noS l t := by
  rw [askOf_eq, askOf_eq]
  rcases tr_seq h with ⟨xs, ts, e1, e2, h2⟩ | ⟨e1, e2⟩
  · rw [e1, e2]
    cases ts with
    | nil => rw [show xs = [] from h2]
    | cons t1 ts =>
      obtain ⟨x1, r, rfl, g1, h2⟩ := h2
      cases ts with
      | nil => rw [show r = [] from h2]
      | cons t2 ts =>
        obtain ⟨x2, r, rfl, g2, h2⟩ := h2
        cases ts with
        | nil =>
          rw [show r = [] from h2]
          rcases tr_int g1 with ⟨i, rfl, rfl⟩ | ⟨n1, n2⟩
          · rcases tr_int g2 with ⟨j, rfl, rfl⟩ | ⟨m1, m2⟩
            · rfl
            · cases x2 <;> first | exact absurd rfl (m1 _) | (cases t2 <;> first | exact absurd rfl (m2 _) | rfl)
          · cases x1 <;> first | exact absurd rfl (n1 _) | (cases t1 <;> first | exact absurd rfl (n2 _) | rfl)
        | cons t3 ts =>
          obtain ⟨x3, r, rfl, g3, h2⟩ := h2
          rfl
  · rw [e1, e2]
theorem askAll_tr {S : Sto} : ∀ {ts xs : List D}, Trs S xs ts → ∀ (l : Int) (j : Nat), askAll S l j xs = askAll noS l j ts
  | [], _, h, l, j => by rw [show _ = [] from h]; rfl
  | t :: ts, _, ⟨x, r, e, h1, h2⟩, l, j => by
    subst e
    unfold askAll
    rw [askOf_tr h1]
    cases askOf noS l t with
    | none => rfl
    | some p => dsimp only; rw [askAll_tr h2]
theorem asksOf_tr {S : Sto} {d t : D} (h : Tr S d t) : asksOf S d = asksOf noS t := by
  unfold asksOf
  rcases tr_seq h with ⟨xs, ts, e1, e2, h2⟩ | ⟨e1, e2⟩
  · rw [e1, e2]
    dsimp only
    rw [trs_len h2, askAll_tr h2]
  · rw [e1, e2]
/-! ### lists of pairs as trees -/
theorem trs_ints {S : Sto} : ∀ {ns : List Int}, Trs S (ns.map D.int) (ns.map D.int)
  | [] => rfl
  | _ :: _ => ⟨_, _, rfl, rfl, trs_ints⟩
theorem tr_pairL {S : Sto} {p : Int × Int} : Tr S (dPairL p) (dPairL p) := ⟨_, rfl, trs_ints (ns := [p.1, p.2])⟩
theorem tr_pair {S : Sto} {p : Int × Int} : Tr S (dPair p) (dPair p) := ⟨_, rfl, trs_ints (ns := [p.1, p.2])⟩
theorem trs_map {α : Type} {S : Sto} {f : α → D} (h : ∀ a, Tr S (f a) (f a)) : ∀ {l : List α}, Trs S (l.map f) (l.map f)
  | [] => rfl
  | a :: _ => ⟨_, _, rfl, h a, trs_map h⟩
theorem tr_asksL {S : Sto} {l : List (Int × Int)} : Tr S (.lst (l.map dPairL)) (.lst (l.map dPairL)) := ⟨_, rfl, trs_map fun _ => tr_pairL⟩
theorem tr_asksT {S : Sto} {l : List (Int × Int)} : Tr S (.tup (l.map dPair)) (.tup (l.map dPair)) := ⟨_, rfl, trs_map fun _ => tr_pair⟩
theorem askOf_pair {l : Int} {p : Int × Int} (h : l ≤ p.1 ∧ p.1 ≤ 1000000 ∧ 1 ≤ p.2 ∧ p.2 ≤ 1000) : askOf noS l (dPairL p) = some p ∧ askOf noS l (dPair p) = some p := by
  constructor <;> (rw [askOf_eq]; exact if_pos ⟨⟨h.1, h.2.1⟩, h.2.2⟩)
theorem askAll_good {f : Int × Int → D} (hf : ∀ l p, l ≤ p.1 ∧ p.1 ≤ 1000000 ∧ 1 ≤ p.2 ∧ p.2 ≤ 1000 → askOf noS l (f p) = some p) : ∀ {l : List (Int × Int)} {least : Int} {j : Nat}, (∀ p, p ∈ l → least ≤ p.1 ∧ p.1 ≤ 1000000 ∧ 1 ≤ p.2 ∧ p.2 ≤ 1000) → l.Pairwise (fun a b => a.1 ≤ b.1) → askAll noS least j (l.map f) = .inl l
  | [], _, _, _, _ => rfl
  | (a, b) :: r, least, j, h, hs => by
    show askAll noS least j (f (a, b) :: r.map f) = _
    unfold askAll
    rw [hf least (a, b) (h _ List.mem_cons_self)]
    dsimp only
    have hs' := List.pairwise_cons.mp hs
    rw [askAll_good hf (fun p hp => ⟨hs'.1 p hp, (h p (List.mem_cons_of_mem _ hp)).2⟩) hs'.2]
theorem asks_good {t : D} {l : List (Int × Int)} (ht : PairsT t l) (hl : AsksG l) : asksOf noS t = .inl l := by
  obtain ⟨h1, h2, h3⟩ := hl
  have hb : ∀ p, p ∈ l → (0 : Int) ≤ p.1 ∧ p.1 ≤ 1000000 ∧ 1 ≤ p.2 ∧ p.2 ≤ 1000 := h2
  rcases ht with rfl | rfl
  · show (if (l.map dPairL).length ≤ 40 then askAll noS 0 0 (l.map dPairL) else .inr 0) = _
    rw [if_pos (by rw [List.length_map]; exact h1)]
    exact askAll_good (fun l p h => (askOf_pair h).1) hb h3
  · show (if (l.map dPair).length ≤ 40 then askAll noS 0 0 (l.map dPair) else .inr 0) = _
    rw [if_pos (by rw [List.length_map]; exact h1)]
    exact askAll_good (fun l p h => (askOf_pair h).2) hb h3
end K41
set_option Elab.async false
set_option linter.all false
set_option maxRecDepth 100000
set_option maxHeartbeats 1000000
namespace K41
open PySem PySem.Spec PyProof.Rows L2 DL
theorem len__law_copy_n (c : Cl) (n : Nat) : ∀ ds S Q E, sp__law_copy_n c n ds S Q E → ds.length = 1 := by
  intro ds S Q E h
  cases n with
  | zero => exact h.elim
  | succ n => obtain ⟨_, _, rfl, _⟩ := h; rfl
theorem imp__law_copy (c : Cl) : ∀ ds S Q X1, sp__law_copy c ds S Q X1 → sp__law_copy_n c 6 ds S Q X1 := fun ds S Q X1 h => h
theorem kq1 : kitB "NoneType" "list" = some false := by decide +kernel
theorem kq2 : kitB "bool" "list" = some false := by decide +kernel
theorem kq3 : kitB "int" "list" = some false := by decide +kernel
theorem kq4 : kitB "str" "list" = some false := by decide +kernel
theorem kq5 : kitB "NoneType" "tuple" = some false := by decide +kernel
theorem kq6 : kitB "bool" "tuple" = some false := by decide +kernel
theorem kq7 : kitB "int" "tuple" = some false := by decide +kernel
theorem kq8 : kitB "str" "tuple" = some false := by decide +kernel
theorem trs_take {S : Sto} : ∀ {ts xs : List D} {i : Nat} {x : D}, Trs S xs ts → xs[i]? = some x → ∃ t, ts[i]? = some t ∧ Tr S x t
  | [], _, i, x, h, e => by rw [show _ = [] from h] at e; simp at e
  | t :: ts, _, 0, x, ⟨y, r, e1, h1, _⟩, e => by
    subst e1
    cases e
    exact ⟨t, rfl, h1⟩
  | t :: ts, _, i + 1, x, ⟨y, r, e1, _, h2⟩, e => by
    subst e1
    exact trs_take (i := i) h2 e
/-- the copies of the items, one by one -/
theorem copy_items {c : Cl} {n : Nat} {S : Sto} {d : D} {xs ts : List D} {Q : List D → Sto → Prop} {G : Sto → Prop} (hd : ∀ S', Ext S S' → G S') (h : Trs S xs ts) (hf : ∀ t, t ∈ ts → ∃ m, n = m + 1 ∧ fits m t)
    (q : ∀ S' acc fp, Ext S S' → TrsF S' acc ts fp → fp.Nodup → (∀ a, a ∈ fp → S a = none) → Q acc S') :
    compI (gN 1) wYes (wCall (sp__law_copy_n c n) (wCons (wVar 1) wNil)) G (delVs [some d, none] [1]) xs S Q := by
  have hl := trs_len h
  refine compI_inv (fun i acc S' => ∃ fp, Ext S S' ∧ TrsF S' acc (ts.take i) fp ∧ fp.Nodup ∧ ∀ a, a ∈ fp → S a = none) ⟨[], Ext.refl, ⟨rfl, rfl⟩, List.nodup_nil, fun a ha => by cases ha⟩ (fun i acc S' ⟨fp, e, _⟩ => hd S' e) ?_ ?_
  · rintro i x acc S' hx ⟨fp, e, h1, h2, h3⟩
    obtain ⟨t, ht, tx⟩ := trs_take h hx
    obtain ⟨m, rfl, fm⟩ := hf t (List.mem_of_getElem? ht)
    simp only [gN, delVs, delV, setV, wYes, if_true, wCall, wCons, wNil, wVar, getV, some!]
    refine ⟨x, t, rfl, tx.ext e, fm, fun S2 x' f2 e2 g1 g2 g3 => ⟨fp ++ f2, e.trans e2, ?_, ?_, ?_⟩⟩
    · rw [List.take_add_one, ht]
      exact TrsF.snoc g1 (h1.ext e2)
    · refine List.nodup_append.mpr ⟨h2, g2, fun a ha b hb z => ?_⟩
      subst z
      exact h1.on a ha (g3 a hb)
    · intro a ha
      rcases List.mem_append.mp ha with ha | ha
      · exact h3 a ha
      · have := g3 a ha
        cases q : S a with
        | none => rfl
        | some m => rw [e _ _ q] at this; cases this
  · rintro acc S' ⟨fp, e, h1, h2, h3⟩
    rw [hl, List.take_length] at h1
    exact q S' acc fp e h1 h2 h3
theorem rd__law_copy (c : Cl) (n : Nat) : ∀ ds S Q X1, sp__law_copy_n c (n + 1) ds S Q X1 → w__law_copy c n (startD N__law_copy_ ds) S (endQ Q X1) := by
  rintro ds S Q X1 ⟨d, t, rfl, td, hf, h⟩
  show w__law_copy c n [some d, none] S (endQ Q X1)
  unfold w__law_copy
  refine seq_k fun q1 n1 r1 _ _ x1 => ?_
  have flat : ∀ {d : D}, TrF S d t [] → Q d S := fun h1 => h S _ [] Ext.refl h1 List.nodup_nil fun a ha => by cases ha
  cases t with
  | lst ts =>
    obtain ⟨xs, e1, h1⟩ := td
    obtain ⟨t1, t2⟩ := tr_lst e1
    have hf' : ts.length ≤ 1000 ∧ ∀ t, t ∈ ts → ∃ m, n = m + 1 ∧ fits m t := by
      cases n with
      | zero => exact hf.elim
      | succ n => exact ⟨hf.1, fun t ht => ⟨n, rfl, hf.2 t ht⟩⟩
    have hl := trs_len h1
    simp only [wIf, wTest, wIsi, wVar, getV, some!, t1, kl4, if_true, wRet, wLcM, wIt, t2]
    refine ⟨by unfold sizeLine; omega, ?_⟩
    refine copy_items (fun S' e => (tr_lst (seqM_ext e e1)).2) h1 hf'.2 fun S' acc fp e g1 g2 g3 p hp => ?_
    rw [r1]
    refine h _ _ (p :: fp) (e.trans (Ext.put hp)) ⟨p, acc, fp, rfl, put_same, rfl, g1.ext (Ext.put hp)⟩ (List.nodup_cons.mpr ⟨fun z => g1.on p z hp, g2⟩) fun a ha => ?_
    cases ha with
    | head =>
      cases q : S p with
      | none => rfl
      | some m => rw [e _ _ q] at hp; cases hp
    | tail _ ha => exact g3 a ha
  | tup ts =>
    obtain ⟨xs, rfl, h1⟩ := td
    have hf' : ts.length ≤ 1000 ∧ ∀ t, t ∈ ts → ∃ m, n = m + 1 ∧ fits m t := by
      cases n with
      | zero => exact hf.elim
      | succ n => exact ⟨hf.1, fun t ht => ⟨n, rfl, hf.2 t ht⟩⟩
    have hl := trs_len h1
    simp only [wIf, wTest, wIsi, wVar, getV, some!, tyN, kl3, Bool.false_eq_true, if_false, wNext]
    refine n1 _ _ ?_
    refine seq_k fun q1 n1 r2 _ _ x1 => ?_
    simp only [wIf, wTest, wIsi, wVar, getV, some!, tyN, kl1, if_true, wRet, wCB, wCons, wNil, wLc, wIt, seqA, oTuple, one]
    refine ⟨by unfold sizeLine; omega, ?_⟩
    refine copy_items (d := .tup xs) (fun S' e => trivial) h1 hf'.2 fun S' acc fp e g1 g2 g3 => ?_
    simp only [seqL, seqM]
    rw [r2]
    exact h _ _ fp e ⟨acc, rfl, g1⟩ g2 g3
  | non =>
    cases td
    simp only [wIf, wTest, wIsi, wVar, getV, some!, tyN, kq1, Bool.false_eq_true, if_false, wNext]
    refine n1 _ _ ?_
    simp only [wSeq, wIf, wTest, wIsi, wVar, getV, some!, tyN, kq5, Bool.false_eq_true, if_false, wNext, wRet]
    exact flat ⟨rfl, rfl⟩
  | bl k =>
    cases td
    simp only [wIf, wTest, wIsi, wVar, getV, some!, tyN, kq2, Bool.false_eq_true, if_false, wNext]
    refine n1 _ _ ?_
    simp only [wSeq, wIf, wTest, wIsi, wVar, getV, some!, tyN, kq6, Bool.false_eq_true, if_false, wNext, wRet]
    exact flat ⟨rfl, rfl⟩
  | int k =>
    cases td
    simp only [wIf, wTest, wIsi, wVar, getV, some!, tyN, kq3, Bool.false_eq_true, if_false, wNext]
    refine n1 _ _ ?_
    simp only [wSeq, wIf, wTest, wIsi, wVar, getV, some!, tyN, kq7, Bool.false_eq_true, if_false, wNext, wRet]
    exact flat ⟨rfl, rfl⟩
  | str k =>
    cases td
    simp only [wIf, wTest, wIsi, wVar, getV, some!, tyN, kq4, Bool.false_eq_true, if_false, wNext]
    refine n1 _ _ ?_
    simp only [wSeq, wIf, wTest, wIsi, wVar, getV, some!, tyN, kq8, Bool.false_eq_true, if_false, wNext, wRet]
    exact flat ⟨rfl, rfl⟩
  | _ => exact td.elim
/-! ### a member of a display by a draw -/
theorem at_nat {xs : List D} {r : Int} (h0 : 0 ≤ r) (h : r < xs.length) : ∃ x, x ∈ xs ∧ atI xs r = some x := by
  refine ⟨xs[r.toNat]'(by omega), List.getElem_mem _, ?_⟩
  unfold atI ixN
  rw [if_pos h0, if_pos h]
  show xs[r.toNat]? = _
  rw [List.getElem?_eq_getElem (by omega)]
end K41
set_option Elab.async false
set_option linter.all false
set_option maxRecDepth 100000
set_option maxHeartbeats 1000000
namespace K41
open PySem PySem.Spec PyProof.Rows L2 DL
theorem fm_zero {α : Type} : ∀ (xs : List α) (f : α → D), (xs.map f).filterMap (fun _ => some (D.int 0)) = (List.replicate xs.length (0 : Int)).map D.int
  | [], _ => rfl
  | x :: r, f => by
    show D.int 0 :: (r.map f).filterMap (fun _ => some (D.int 0)) = _
    rw [fm_zero r f, List.length_cons, List.replicate_succ]; rfl
theorem at_k {α : Type} {xs : List α} {k : Nat} {x : α} (h : xs[k]? = some x) : atI xs (k : Int) = some x := by
  have hl := lt_of_some h
  unfold atI ixN
  rw [if_pos (by omega), if_pos (by omega)]
  show xs[(k : Int).toNat]? = _
  rw [Int.toNat_natCast]; exact h
theorem ix_k {n k : Nat} (h : k < n) : ixN n (k : Int) = some k := by
  unfold ixN
  rw [if_pos (by omega), if_pos (by omega), Int.toNat_natCast]
end K41
set_option Elab.async false
set_option linter.all false
set_option maxRecDepth 100000
set_option maxHeartbeats 1000000
namespace K41
open PySem PySem.Spec PyProof.Rows L2 DL
theorem fm_snd : ∀ (xs : List (Int × Int)), (xs.map dPairL).filterMap (fun d => match d with | .lst [_, .int b] => some (D.int b) | _ => none) = (xs.map Prod.snd).map D.int
  | [] => rfl
  | x :: r => by
    show D.int x.2 :: (r.map dPairL).filterMap _ = _
    rw [fm_snd r]; rfl
/-! ### a crowd -/
end K41
set_option Elab.async false
set_option linter.all false
set_option maxRecDepth 100000
set_option maxHeartbeats 1000000
namespace K41
open PySem PySem.Spec PyProof.Rows L2 DL
/-! ### a list of lists that change -/
/-- a value without places in the store -/
def Plain (n : Nat) (v : D) : Prop := (∀ S, Tr S v v) ∧ fits n v
def simpleB : D → Bool
  | .non => true
  | .bl _ => true
  | .int _ => true
  | .str x => (PyData.str x).canLay0
  | .tup xs => xs.all isInt && decide (xs.length ≤ 1000)
  | .lst xs => xs.all isInt && decide (xs.length ≤ 1000)
  | _ => false
theorem all_ints : ∀ {xs : List D}, xs.all isInt = true → ∃ ns : List Int, xs = ns.map D.int
  | [], _ => ⟨[], rfl⟩
  | .int i :: r, h => by
    obtain ⟨ns, e⟩ := all_ints (xs := r) h
    exact ⟨i :: ns, by rw [e]; rfl⟩
  | .non :: _, h => by cases h
  | .bl _ :: _, h => by cases h
  | .str _ :: _, h => by cases h
  | .ref _ :: _, h => by cases h
  | .lst _ :: _, h => by cases h
  | .tup _ :: _, h => by cases h
  | .fro _ :: _, h => by cases h
  | .obj _ _ _ :: _, h => by cases h
  | .exc _ _ _ _ _ :: _, h => by cases h
theorem fits_int {n : Nat} {i : Int} : fits n (.int i) := by cases n <;> trivial
theorem plain_of {n : Nat} {v : D} (h : simpleB v = true) : Plain (n + 1) v := by
  cases v with
  | non => exact ⟨fun S => rfl, trivial⟩
  | bl b => exact ⟨fun S => rfl, trivial⟩
  | int i => exact ⟨fun S => rfl, trivial⟩
  | str x => exact ⟨fun S => rfl, h⟩
  | tup xs =>
    have h' : (xs.all isInt && decide (xs.length ≤ 1000)) = true := h
    rw [Bool.and_eq_true] at h'
    obtain ⟨ns, rfl⟩ := all_ints h'.1
    exact ⟨fun S => ⟨_, rfl, trs_ints⟩, ⟨of_decide_eq_true h'.2, fun x hx => by obtain ⟨i, _, rfl⟩ := List.mem_map.mp hx; exact fits_int⟩⟩
  | lst xs =>
    have h' : (xs.all isInt && decide (xs.length ≤ 1000)) = true := h
    rw [Bool.and_eq_true] at h'
    obtain ⟨ns, rfl⟩ := all_ints h'.1
    exact ⟨fun S => ⟨_, rfl, trs_ints⟩, ⟨of_decide_eq_true h'.2, fun x hx => by obtain ⟨i, _, rfl⟩ := List.mem_map.mp hx; exact fits_int⟩⟩
  | _ => cases h
inductive Cell where
  | val (v : D) | row (r : Addr) (xs : List D)
def Cell.d : Cell → D
  | .val v => v
  | .row r _ => .ref r
def Cell.t : Cell → D
  | .val v => v
  | .row _ xs => .lst xs
structure RowsN (p g : Addr) (M : Int) (S0 S : Sto) (cs : List Cell) : Prop where
  ext : Ext2 p g S0 S
  pool : IsPool S p g M
  row : ∀ r xs, Cell.row r xs ∈ cs → S r = some (.lst xs) ∧ S0 r = none ∧ r ≠ p ∧ r ≠ g ∧ xs.length ≤ 1000 ∧ ∀ x, x ∈ xs → Plain 1 x
  val : ∀ v, Cell.val v ∈ cs → Plain 2 v
  nd : ∀ (i j : Nat) r xs ys, cs[i]? = some (.row r xs) → cs[j]? = some (.row r ys) → i = j
structure RowsC (p g : Addr) (M : Int) (S0 S : Sto) (a : Addr) (cs : List Cell) : Prop extends RowsN p g M S0 S cs where
  at_ : S a = some (.lst (cs.map Cell.d))
  old : S0 a = none ∧ a ≠ p ∧ a ≠ g
  ne : ∀ r xs, Cell.row r xs ∈ cs → r ≠ a
section
variable {p g : Addr} {M : Int} {S0 S : Sto} {cs : List Cell} {a : Addr}
theorem isPool_put {b : Addr} {m : MO} (h : IsPool S p g M) (h1 : b ≠ p) (h2 : b ≠ g) : IsPool (put S b m) p g M := by
  obtain ⟨k1, k, k2, k3, k4⟩ := h
  exact ⟨k1, k, k2, by rw [put_ne (Ne.symm h1)]; exact k3, by rw [put_ne (Ne.symm h2)]; exact k4⟩
theorem isPool_off (h : IsPool S p g M) {q : Addr} (hq : S q = none) : q ≠ p ∧ q ≠ g := by
  obtain ⟨k1, k, k2, k3, k4⟩ := h
  exact ⟨(fun e => by subst e; rw [k3] at hq; cases hq), (fun e => by subst e; rw [k4] at hq; cases hq)⟩
theorem ext2_put {b : Addr} {m : MO} (h : Ext2 p g S0 S) (hb : S0 b = none) : Ext2 p g S0 (put S b m) := fun c n h1 h2 e => by
  rw [put_ne (ne_of_S e hb)]; exact h c n h1 h2 e
theorem RowsN.old_of (h : RowsN p g M S0 S cs) {q : Addr} (hq : S q = none) : S0 q = none := by
  obtain ⟨h1, h2⟩ := isPool_off h.pool hq
  cases e : S0 q with
  | none => rfl
  | some m => rw [h.ext _ _ h1 h2 e] at hq; cases hq
theorem RowsN.nil (hp : IsPool S p g M) (e : Ext2 p g S0 S) : RowsN p g M S0 S [] := ⟨e, hp, (fun _ _ h => by cases h), (fun _ h => by cases h), fun i j r xs ys h => by simp at h⟩
theorem RowsN.new (h : RowsN p g M S0 S cs) {q : Addr} {xs : List D} (hq : S q = none) (hx : xs.length ≤ 1000 ∧ ∀ x, x ∈ xs → Plain 1 x) : RowsN p g M S0 (put S q (.lst xs)) (cs ++ [.row q xs]) := by
  have ho := h.old_of hq
  obtain ⟨h1, h2⟩ := isPool_off h.pool hq
  have fresh : ∀ r ys, Cell.row r ys ∈ cs → r ≠ q := fun r ys hr e => by subst e; rw [(h.row _ _ hr).1] at hq; cases hq
  refine ⟨ext2_put h.ext ho, isPool_put h.pool h1 h2, fun r ys hr => ?_, fun v hv => ?_, fun i j r ys zs hi hj => ?_⟩
  · rcases List.mem_append.mp hr with hr | hr
    · obtain ⟨k1, k2⟩ := h.row _ _ hr
      exact ⟨by rw [put_ne (fresh _ _ hr)]; exact k1, k2⟩
    · rw [List.mem_singleton] at hr
      cases hr
      exact ⟨put_same, ho, h1, h2, hx⟩
  · rcases List.mem_append.mp hv with hv | hv
    · exact h.val _ hv
    · rw [List.mem_singleton] at hv; cases hv
  · have key : ∀ (i : Nat) ys, (cs ++ [Cell.row q xs])[i]? = some (.row r ys) → (i < cs.length ∧ cs[i]? = some (.row r ys)) ∨ (i = cs.length ∧ r = q) := fun i ys hi => by
      by_cases hl : i < cs.length
      · rw [List.getElem?_append_left hl] at hi; exact .inl ⟨hl, hi⟩
      · rw [List.getElem?_append_right (by omega)] at hi
        by_cases e : i - cs.length = 0
        · rw [e] at hi
          have hi' : Cell.row q xs = .row r ys := Option.some.inj hi
          cases hi'
          exact .inr ⟨by omega, rfl⟩
        · rw [List.getElem?_eq_none (by simp; omega)] at hi; cases hi
    rcases key i ys hi with ⟨_, a1⟩ | ⟨a1, a2⟩
    · rcases key j zs hj with ⟨_, b1⟩ | ⟨b1, b2⟩
      · exact h.nd i j r ys zs a1 b1
      · exact absurd b2 (fresh _ _ (List.mem_of_getElem? a1))
    · rcases key j zs hj with ⟨_, b1⟩ | ⟨b1, b2⟩
      · exact absurd a2 (fresh _ _ (List.mem_of_getElem? b1))
      · omega
theorem RowsN.list (h : RowsN p g M S0 S cs) {q : Addr} (hq : S q = none) : RowsC p g M S0 (put S q (.lst (cs.map Cell.d))) q cs := by
  have ho := h.old_of hq
  obtain ⟨h1, h2⟩ := isPool_off h.pool hq
  have fresh : ∀ r ys, Cell.row r ys ∈ cs → r ≠ q := fun r ys hr e => by subst e; rw [(h.row _ _ hr).1] at hq; cases hq
  exact ⟨⟨ext2_put h.ext ho, isPool_put h.pool h1 h2, fun r ys hr => ⟨by rw [put_ne (fresh _ _ hr)]; exact (h.row _ _ hr).1, (h.row _ _ hr).2⟩, h.val, h.nd⟩, put_same, ⟨ho, h1, h2⟩, fresh⟩
theorem RowsN.grow {M' : Int} {S' : Sto} (h : RowsN p g M S0 S cs) (e : Ext2 p g S S') (hp : IsPool S' p g M') : RowsN p g M' S0 S' cs :=
  ⟨h.ext.trans e, hp, fun r xs hr => ⟨e _ _ (h.row r xs hr).2.2.1 (h.row r xs hr).2.2.2.1 (h.row r xs hr).1, (h.row r xs hr).2⟩, h.val, h.nd⟩
theorem RowsC.grow {M' : Int} {S' : Sto} (h : RowsC p g M S0 S a cs) (e : Ext2 p g S S') (hp : IsPool S' p g M') : RowsC p g M' S0 S' a cs :=
  ⟨h.toRowsN.grow e hp, e _ _ h.old.2.1 h.old.2.2 h.at_, h.old, h.ne⟩
theorem RowsC.draw (h : RowsC p g M S0 S a cs) {M' : Int} {k : Pool} (ok : PoolOk M' k) : RowsC p g M' S0 (inPool S p g k) a cs := h.grow Ext2.pool (IsPool.mk h.pool.1 ok)
theorem RowsC.tr (h : RowsC p g M S0 S a cs) : Tr S (.ref a) (.lst (cs.map Cell.t)) := by
  refine ⟨cs.map Cell.d, ?_, ?_⟩
  · show (match S a with | some (.lst xs) => some xs | _ => none) = _
    rw [h.at_]
  · have key : ∀ (ds : List Cell), (∀ c, c ∈ ds → c ∈ cs) → Trs S (ds.map Cell.d) (ds.map Cell.t) := fun ds => by
      induction ds with
      | nil => intro _; rfl
      | cons c r ih =>
        intro hs
        refine ⟨_, _, rfl, ?_, ih fun c hc => hs c (List.mem_cons_of_mem _ hc)⟩
        have hc := hs c List.mem_cons_self
        cases c with
        | val v => exact (h.val v hc).1 S
        | row q xs =>
          obtain ⟨k1, _, _, _, _, k5⟩ := h.row q xs hc
          refine ⟨xs, ?_, ?_⟩
          · show (match S q with | some (.lst xs) => some xs | _ => none) = _
            rw [k1]
          · have : ∀ ys : List D, (∀ x, x ∈ ys → Plain 1 x) → Trs S ys ys := fun ys => by
              induction ys with
              | nil => intro _; rfl
              | cons y ys ih => intro hy; exact ⟨_, _, rfl, (hy y List.mem_cons_self).1 S, ih fun x hx => hy x (List.mem_cons_of_mem _ hx)⟩
            exact this xs k5
    exact key cs fun _ h => h
theorem RowsC.trP (h : RowsC p g M S0 S a cs) : TrP p g S (.ref a) (.lst (cs.map Cell.t)) := fun S' e => by
  refine ⟨cs.map Cell.d, ?_, ?_⟩
  · show (match S' a with | some (.lst xs) => some xs | _ => none) = _
    rw [e _ _ h.old.2.1 h.old.2.2 h.at_]
  · have key : ∀ (ds : List Cell), (∀ c, c ∈ ds → c ∈ cs) → Trs S' (ds.map Cell.d) (ds.map Cell.t) := fun ds => by
      induction ds with
      | nil => intro _; rfl
      | cons c r ih =>
        intro hs
        refine ⟨_, _, rfl, ?_, ih fun c hc => hs c (List.mem_cons_of_mem _ hc)⟩
        have hc := hs c List.mem_cons_self
        cases c with
        | val v => exact (h.val v hc).1 S'
        | row q xs =>
          obtain ⟨k1, _, k3, k4, _, k5⟩ := h.row q xs hc
          refine ⟨xs, ?_, ?_⟩
          · show (match S' q with | some (.lst xs) => some xs | _ => none) = _
            rw [e _ _ k3 k4 k1]
          · have : ∀ ys : List D, (∀ x, x ∈ ys → Plain 1 x) → Trs S' ys ys := fun ys => by
              induction ys with
              | nil => intro _; rfl
              | cons y ys ih => intro hy; exact ⟨_, _, rfl, (hy y List.mem_cons_self).1 S', ih fun x hx => hy x (List.mem_cons_of_mem _ hx)⟩
            exact this xs k5
    exact key cs fun _ h => h
theorem RowsC.fits (h : RowsC p g M S0 S a cs) (hl : cs.length ≤ 1000) : fits 3 (.lst (cs.map Cell.t)) := by
  refine ⟨by rw [List.length_map]; exact hl, fun x hx => ?_⟩
  obtain ⟨c, hc, rfl⟩ := List.mem_map.mp hx
  cases c with
  | val v => exact (h.val v hc).2
  | row r xs => exact ⟨(h.row r xs hc).2.2.2.2.1, fun x hx => ((h.row r xs hc).2.2.2.2.2 x hx).2⟩
theorem mem_set_cases {α : Type} {l : List α} {j : Nat} {x y : α} (h : y ∈ l.set j x) : y = x ∨ y ∈ l := (List.mem_or_eq_of_mem_set h).symm
/-- a member of the list exchanged for a value -/
theorem RowsC.setVal (h : RowsC p g M S0 S a cs) (j : Nat) {v : D} (hv : Plain 2 v) : RowsC p g M S0 (put S a (.lst ((cs.map Cell.d).set j v))) a (cs.set j (.val v)) := by
  have row' : ∀ r xs, Cell.row r xs ∈ cs.set j (.val v) → Cell.row r xs ∈ cs := fun r xs hr => by
    rcases mem_set_cases hr with e | e
    · cases e
    · exact e
  refine ⟨⟨ext2_put h.ext h.old.1, isPool_put h.pool h.old.2.1 h.old.2.2, fun r xs hr => ⟨by rw [put_ne (h.ne _ _ (row' _ _ hr))]; exact (h.row _ _ (row' _ _ hr)).1, (h.row _ _ (row' _ _ hr)).2⟩, fun w hw => ?_, fun i k r xs ys hi hk => ?_⟩, ?_, h.old, fun r xs hr => h.ne _ _ (row' _ _ hr)⟩
  · rcases mem_set_cases hw with e | e
    · cases e; exact hv
    · exact h.val _ e
  · have key : ∀ (i : Nat) xs, (cs.set j (.val v))[i]? = some (Cell.row r xs) → cs[i]? = some (.row r xs) := fun i xs hi => by
      by_cases e : j = i
      · subst e
        by_cases hl : j < cs.length
        · rw [List.getElem?_set_self hl] at hi; cases hi
        · rw [List.getElem?_eq_none (by rw [List.length_set]; omega)] at hi; cases hi
      · rw [List.getElem?_set_ne e] at hi; exact hi
    exact h.nd i k r xs ys (key i xs hi) (key k ys hk)
  · rw [put_same, List.map_set]; rfl
/-- a list of the list changed -/
theorem RowsC.setRow (h : RowsC p g M S0 S a cs) {j : Nat} {r : Addr} {xs ys : List D} (hj : cs[j]? = some (.row r xs)) (hy : ys.length ≤ 1000 ∧ ∀ y, y ∈ ys → Plain 1 y) : RowsC p g M S0 (put S r (.lst ys)) a (cs.set j (.row r ys)) := by
  have hr := List.mem_of_getElem? hj
  have hl := lt_of_some hj
  obtain ⟨k1, k2, k3, k4, k5, k6⟩ := h.row _ _ hr
  have cases_ : ∀ (i : Nat) q zs, (cs.set j (.row r ys))[i]? = some (Cell.row q zs) → (i = j ∧ q = r ∧ zs = ys) ∨ (i ≠ j ∧ q ≠ r ∧ cs[i]? = some (.row q zs)) := fun i q zs hi => by
    by_cases e : j = i
    · subst e
      rw [List.getElem?_set_self hl] at hi
      have hi' : Cell.row r ys = .row q zs := Option.some.inj hi
      cases hi'
      exact .inl ⟨rfl, rfl, rfl⟩
    · rw [List.getElem?_set_ne e] at hi
      refine .inr ⟨Ne.symm e, fun z => ?_, hi⟩
      subst z
      exact e (h.nd j i _ _ _ hj hi)
  have mem_ : ∀ q zs, Cell.row q zs ∈ cs.set j (.row r ys) → ∃ i : Nat, (cs.set j (.row r ys))[i]? = some (Cell.row q zs) := fun q zs hq => List.mem_iff_getElem?.mp hq
  refine ⟨⟨ext2_put h.ext k2, isPool_put h.pool k3 k4, fun q zs hq => ?_, fun w hw => ?_, fun i k q zs ws hi hk => ?_⟩, ?_, h.old, fun q zs hq => ?_⟩
  · obtain ⟨i, hi⟩ := mem_ q zs hq
    rcases cases_ i q zs hi with ⟨_, rfl, rfl⟩ | ⟨_, e, hi⟩
    · exact ⟨put_same, k2, k3, k4, hy⟩
    · obtain ⟨m1, m2⟩ := h.row _ _ (List.mem_of_getElem? hi)
      exact ⟨by rw [put_ne e]; exact m1, m2⟩
  · rcases mem_set_cases hw with e | e
    · cases e
    · exact h.val _ e
  · rcases cases_ i q zs hi with ⟨rfl, rfl, _⟩ | ⟨_, e, hi⟩
    · rcases cases_ k _ ws hk with ⟨rfl, _, _⟩ | ⟨_, e, _⟩
      · rfl
      · exact absurd rfl e
    · rcases cases_ k q ws hk with ⟨_, e2, _⟩ | ⟨_, _, hk⟩
      · exact absurd e2 e
      · exact h.nd i k q zs ws hi hk
  · rw [put_ne (Ne.symm (h.ne _ _ hr)), h.at_]
    congr 2
    refine List.ext_getElem? fun i => ?_
    rw [List.getElem?_map, List.getElem?_map]
    by_cases e : j = i
    · subst e
      rw [List.getElem?_set_self hl, hj]; rfl
    · rw [List.getElem?_set_ne e]
  · obtain ⟨i, hi⟩ := mem_ q zs hq
    rcases cases_ i q zs hi with ⟨_, rfl, _⟩ | ⟨_, _, hi⟩
    · exact h.ne _ _ hr
    · exact h.ne _ _ (List.mem_of_getElem? hi)
/-- a value more -/
theorem RowsC.addVal (h : RowsC p g M S0 S a cs) {v : D} (hv : Plain 2 v) : RowsC p g M S0 (put S a (.lst (cs.map Cell.d ++ [v]))) a (cs ++ [.val v]) := by
  have row' : ∀ r xs, Cell.row r xs ∈ cs ++ [.val v] → Cell.row r xs ∈ cs := fun r xs hr => by
    rcases List.mem_append.mp hr with e | e
    · exact e
    · rw [List.mem_singleton] at e; cases e
  refine ⟨⟨ext2_put h.ext h.old.1, isPool_put h.pool h.old.2.1 h.old.2.2, fun r xs hr => ⟨by rw [put_ne (h.ne _ _ (row' _ _ hr))]; exact (h.row _ _ (row' _ _ hr)).1, (h.row _ _ (row' _ _ hr)).2⟩, fun w hw => ?_, fun i k r xs ys hi hk => ?_⟩, ?_, h.old, fun r xs hr => h.ne _ _ (row' _ _ hr)⟩
  · rcases List.mem_append.mp hw with e | e
    · exact h.val _ e
    · rw [List.mem_singleton] at e; cases e; exact hv
  · have key : ∀ (i : Nat) xs, (cs ++ [.val v])[i]? = some (Cell.row r xs) → cs[i]? = some (.row r xs) := fun i xs hi => by
      by_cases hl : i < cs.length
      · rw [List.getElem?_append_left hl] at hi; exact hi
      · rw [List.getElem?_append_right (by omega)] at hi
        by_cases e : i - cs.length = 0
        · rw [e] at hi; cases Option.some.inj hi
        · rw [List.getElem?_eq_none (by simp; omega)] at hi; cases hi
    exact h.nd i k r xs ys (key i xs hi) (key k ys hk)
  · rw [put_same, List.map_append]; rfl
/-- the copy of a list of pairs -/
theorem rows_of_copy {d : D} {l : List (Int × Int)} {fp : List Addr} (hp : IsPool S p g M) {S1 : Sto} (e : Ext S S1) (h : TrF S1 d (.lst (l.map dPairL)) fp) (nd : fp.Nodup) (fr : ∀ b, b ∈ fp → S b = none) :
    ∃ a cs, d = .ref a ∧ RowsC p g M S S1 a cs ∧ cs.map Cell.t = l.map dPairL ∧ ∀ c, c ∈ cs → ∃ r x y, c = .row r [.int x, .int y] := by
  obtain ⟨a, xs, r, rfl, h1, rfl, h2⟩ := h
  have key : ∀ (l : List (Int × Int)) (xs : List D) (r : List Addr), TrsF S1 xs (l.map dPairL) r → ∃ cs : List Cell, xs = cs.map Cell.d ∧ cs.map Cell.t = l.map dPairL ∧ (∀ c, c ∈ cs → ∃ q x y, c = .row q [.int x, .int y] ∧ S1 q = some (.lst [.int x, .int y])) ∧
      r = cs.filterMap (fun c => match c with | .row q _ => some q | _ => none) := fun l => by
    induction l with
    | nil => rintro xs r ⟨rfl, rfl⟩; exact ⟨[], rfl, rfl, (fun c hc => by cases hc), rfl⟩
    | cons q l ih =>
      rintro xs r ⟨x, xs', f1, f2, rfl, rfl, g1, g2⟩
      obtain ⟨cs, rfl, e2, e3, rfl⟩ := ih xs' f2 g2
      obtain ⟨b, ys, f3, rfl, k1, rfl, y1, ys1, f4, f5, rfl, rfl, k2, y2, ys2, f6, f7, rfl, rfl, k3, rfl, rfl⟩ := g1
      obtain ⟨rfl, rfl⟩ := k2
      obtain ⟨rfl, rfl⟩ := k3
      refine ⟨.row b [.int q.1, .int q.2] :: cs, rfl, by rw [List.map_cons, e2]; rfl, fun c hc => ?_, rfl⟩
      cases hc with
      | head => exact ⟨b, q.1, q.2, rfl, k1⟩
      | tail _ hc => exact e3 c hc
  obtain ⟨cs, rfl, e2, e3, rfl⟩ := key l xs r h2
  have nd' := List.nodup_cons.mp nd
  have inr : ∀ q ys, Cell.row q ys ∈ cs → q ∈ cs.filterMap (fun c => match c with | .row q _ => some q | _ => none) := fun q ys hq => List.mem_filterMap.mpr ⟨_, hq, rfl⟩
  have hp1 : IsPool S1 p g M := hp.ext e
  refine ⟨a, cs, rfl, ⟨⟨e.to2, hp1, fun q ys hq => ?_, fun v hv => ?_, ?_⟩, h1, ⟨fr a List.mem_cons_self, isPool_off hp (fr a List.mem_cons_self)⟩, fun q ys hq z => ?_⟩, e2, fun c hc => ?_⟩
  · obtain ⟨q', x, y, z, k⟩ := e3 _ hq
    cases z
    have o := fr q (List.mem_cons_of_mem _ (inr _ _ hq))
    obtain ⟨o1, o2⟩ := isPool_off hp o
    refine ⟨k, o, o1, o2, by show 2 ≤ 1000; omega, fun x hx => ?_⟩
    simp only [List.mem_cons, List.not_mem_nil, or_false] at hx
    rcases hx with rfl | rfl <;> exact plain_of rfl
  · obtain ⟨q', x, y, z, k⟩ := e3 _ hv
    cases z
  · have ndk : ∀ (cs : List Cell), (cs.filterMap (fun c => match c with | .row q _ => some q | _ => none)).Nodup → ∀ (i j : Nat) r xs ys, cs[i]? = some (Cell.row r xs) → cs[j]? = some (.row r ys) → i = j := fun cs => by
      induction cs with
      | nil => intro _ i j r xs ys h; simp at h
      | cons c cs ih =>
        intro hnd i j r xs ys hi hj
        have tl : (cs.filterMap (fun c => match c with | .row q _ => some q | _ => none)).Nodup := by
          cases c with
          | val v => exact hnd
          | row q zs => exact (List.nodup_cons.mp hnd).2
        have notin : ∀ zs ws (k : Nat), c = .row r zs → cs[k]? = some (.row r ws) → False := fun zs ws k z hk => by
          subst z
          exact (List.nodup_cons.mp hnd).1 (List.mem_filterMap.mpr ⟨_, List.mem_of_getElem? hk, rfl⟩)
        cases i with
        | zero =>
          cases j with
          | zero => rfl
          | succ j => exact (notin _ _ j (Option.some.inj hi) hj).elim
        | succ i =>
          cases j with
          | zero => exact (notin _ _ i (Option.some.inj hj) hi).elim
          | succ j => rw [ih tl i j r xs ys hi hj]
    exact ndk cs nd'.2
  · subst z
    exact nd'.1 (inr _ _ hq)
  · obtain ⟨q', x, y, z, k⟩ := e3 _ hc
    exact ⟨q', x, y, z⟩
end
/-! ### the first wrong place -/
end K41
set_option Elab.async false
set_option linter.all false
set_option maxRecDepth 100000
set_option maxHeartbeats 1000000
namespace K41
open PySem PySem.Spec PyProof.Rows L2 DL
theorem pow6 : (10 : Int) ^ (6 : Int).toNat = 1000000 := by decide
theorem fm_const {α : Type} (v : D) : ∀ (xs : List α), xs.filterMap (fun _ => some v) = List.replicate xs.length v
  | [] => rfl
  | _ :: r => by
    show v :: r.filterMap (fun _ => some v) = _
    rw [fm_const v r, List.length_cons, List.replicate_succ]
/-- who holds the rows -/
def AllRows (cs : List Cell) : Prop := ∀ c, c ∈ cs → ∃ r x y, c = Cell.row r [.int x, .int y]
theorem cell_at {cs : List Cell} {l : List (Int × Int)} {k : Nat} (ha : AllRows cs) (e : cs.map Cell.t = l.map dPairL) (hk : k < l.length) : ∃ r x y, cs[k]? = some (.row r [.int x, .int y]) ∧ l[k]? = some (x, y) := by
  have hl : cs.length = l.length := by have := congrArg List.length e; simpa using this
  have hc : cs[k]? = some cs[k] := List.getElem?_eq_getElem (by omega)
  obtain ⟨r, x, y, h⟩ := ha _ (List.getElem_mem (show k < cs.length by omega))
  refine ⟨r, x, y, by rw [hc, h], ?_⟩
  have h2 := congrArg (fun z => z[k]?) e
  rw [List.getElem?_map, List.getElem?_map, hc, h, List.getElem?_eq_getElem hk] at h2
  have h3 : D.lst [.int x, .int y] = dPairL l[k] := Option.some.inj h2
  unfold dPairL at h3
  injection h3 with h3
  injection h3 with h4 h5
  injection h4 with h4
  injection h5 with h5 _
  injection h5 with h5
  rw [List.getElem?_eq_getElem hk, h4, h5]
theorem pln2 {x y : Int} : ∀ z, z ∈ [D.int x, D.int y] → Plain 1 z := fun z hz => by
  simp only [List.mem_cons, List.not_mem_nil, or_false] at hz
  rcases hz with rfl | rfl <;> exact plain_of rfl
end K41
set_option Elab.async false
set_option linter.all false
set_option maxRecDepth 100000
set_option maxHeartbeats 1000000
namespace K41
open PySem PySem.Spec PyProof.Rows L2 DL
theorem fits_succ : ∀ {n : Nat} {t : D}, fits n t → fits (n + 1) t
  | 0, t, h => by
    cases t with
    | non => trivial
    | bl _ => trivial
    | int _ => trivial
    | str x => exact h
    | _ => exact h.elim
  | n + 1, t, h => by
    cases t with
    | non => trivial
    | bl _ => trivial
    | int _ => trivial
    | str x => exact h
    | lst xs => exact ⟨h.1, fun x hx => fits_succ (h.2 x hx)⟩
    | tup xs => exact ⟨h.1, fun x hx => fits_succ (h.2 x hx)⟩
    | _ => exact h.elim
theorem fits_dT {n : Nat} {ns : List Int} (h : ns.length ≤ 1000) : fits (n + 1) (dT ns) := ⟨by rw [List.length_map]; exact h, fun x hx => by obtain ⟨i, _, rfl⟩ := List.mem_map.mp hx; exact fits_int⟩
theorem fits_asks {t : D} {l : List (Int × Int)} (ht : PairsT t l) (hl : l.length ≤ 1000) : fits 5 t := by
  have two : ∀ {a b : Int}, fits 4 (.lst [.int a, .int b]) ∧ fits 4 (.tup [.int a, .int b]) := fun {a b} => by
    have : ∀ x, x ∈ [D.int a, D.int b] → fits 3 x := fun x hx => by
      simp only [List.mem_cons, List.not_mem_nil, or_false] at hx
      rcases hx with rfl | rfl <;> trivial
    exact ⟨⟨by show 2 ≤ 1000; omega, this⟩, ⟨by show 2 ≤ 1000; omega, this⟩⟩
  rcases ht with rfl | rfl
  · exact ⟨by rw [List.length_map]; exact hl, fun x hx => by obtain ⟨i, _, rfl⟩ := List.mem_map.mp hx; exact two.1⟩
  · exact ⟨by rw [List.length_map]; exact hl, fun x hx => by obtain ⟨i, _, rfl⟩ := List.mem_map.mp hx; exact two.2⟩
theorem trs_pairs {S : Sto} {f : Int × Int → D} (hf : ∀ p d, Tr S d (f p) → seqA S d = some [.int p.1, .int p.2]) : ∀ {l : List (Int × Int)} {xs : List D}, Trs S xs (l.map f) →
    xs.filterMap (fun x => (seqA S x).map D.lst) = l.map dPairL ∧ ∀ x, x ∈ xs → ∃ ys, seqA S x = some ys
  | [], xs, h => by rw [show xs = [] from h]; exact ⟨rfl, fun x hx => by cases hx⟩
  | p :: l, xs, ⟨x, r, e, h1, h2⟩ => by
    subst e
    obtain ⟨e1, e2⟩ := trs_pairs hf h2
    have e3 := hf p x h1
    refine ⟨?_, fun y hy => ?_⟩
    · rw [List.filterMap_cons, e3, e1]; rfl
    · cases hy with
      | head => exact ⟨_, e3⟩
      | tail _ hy => exact e2 y hy
theorem pairs_of {S : Sto} {d t : D} {l : List (Int × Int)} (h : Tr S d t) (ht : PairsT t l) : ∃ xs, seqA S d = some xs ∧ xs.length = l.length ∧ xs.filterMap (fun x => (seqA S x).map D.lst) = l.map dPairL ∧ ∀ x, x ∈ xs → ∃ ys, seqA S x = some ys := by
  have two : ∀ {p : Int × Int} {xs : List D}, Trs S xs [.int p.1, .int p.2] → xs = [.int p.1, .int p.2] := fun {p xs} h => by
    obtain ⟨x, r, rfl, h1, y, r2, rfl, h2, h3⟩ := h
    rw [show r2 = [] from h3, show x = _ from h1, show y = _ from h2]
  rcases ht with rfl | rfl
  · obtain ⟨xs, e1, h1⟩ := h
    have := trs_len h1
    rw [List.length_map] at this
    refine ⟨xs, (tr_lst e1).2, this, trs_pairs (f := dPairL) (fun p d hd => ?_) h1⟩
    obtain ⟨ys, e2, h2⟩ := hd
    rw [(tr_lst e2).2, two h2]
  · obtain ⟨xs, rfl, h1⟩ := h
    have := trs_len h1
    rw [List.length_map] at this
    refine ⟨xs, rfl, this, trs_pairs (f := dPair) (fun p d hd => ?_) h1⟩
    obtain ⟨ys, rfl, h2⟩ := hd
    rw [two h2]; rfl
/-- a refused call and what is told of it -/
theorem like_told {c : Cl} {S : Sto} {a b t : D} {n : Nat} {Q : Qd} {E : XQ} (ha : Tr S a t) (hb : Tr S b t) (hf : fits 5 t) (q : Q (.bl true) S) : sp__law_like c [a, b] S Q E := ⟨a, b, t, rfl, ha, hb, hf, q⟩
theorem tr_word {S : Sto} {x : Str} {v : D} (h : Tr S v v) : Tr S (.lst [.str x, v]) (.lst [.str x, v]) := ⟨_, rfl, _, _, rfl, rfl, _, _, rfl, h, rfl⟩
theorem fits_word {x : Str} {v : D} (hx : (PyData.str x).canLay0 = true) (h : fits 4 v) : fits 5 (.lst [.str x, v]) := ⟨by show 2 ≤ 1000; omega, fun y hy => by
  simp only [List.mem_cons, List.not_mem_nil, or_false] at hy
  rcases hy with rfl | rfl
  · exact hx
  · exact h⟩
end K41
set_option Elab.async false
set_option linter.all false
set_option maxRecDepth 100000
set_option maxHeartbeats 1000000
namespace K41
open PySem PySem.Spec PyProof.Rows L2 DL
theorem asks_set {l : List (Int × Int)} (h : AsksG l) {j : Nat} {b m m2 : Int} (hj : l[j]? = some (b, m)) (hm : 1 ≤ m2 ∧ m2 ≤ 1000) : AsksG (l.set j (b, m2)) := by
  obtain ⟨h1, h2, h3⟩ := h
  refine ⟨by rw [List.length_set]; exact h1, fun p hp => ?_, ?_⟩
  · rcases mem_set_cases hp with e | e
    · have := h2 _ (List.mem_of_getElem? hj)
      rw [e]
      exact ⟨this.1, this.2.1, hm⟩
    · exact h2 p e
  · have e : (l.set j (b, m2)).map Prod.fst = l.map Prod.fst := by
      refine List.ext_getElem? fun i => ?_
      rw [List.getElem?_map, List.getElem?_map]
      by_cases q : j = i
      · subst q
        rw [List.getElem?_set_self (lt_of_some hj), hj]; rfl
      · rw [List.getElem?_set_ne q]
    have p1 : (l.map Prod.fst).Pairwise (fun a b => a ≤ b) := List.pairwise_map.mpr h3
    rw [← e] at p1
    exact List.pairwise_map.mp p1
theorem asks_add {l : List (Int × Int)} (h : AsksG l) (hl : l.length ≤ 39) {t m : Int} (ht : 0 ≤ t ∧ t ≤ 1000000) (hb : ∀ p, p ∈ l → p.1 ≤ t) (hm : 1 ≤ m ∧ m ≤ 1000) : AsksG (l ++ [(t, m)]) := by
  obtain ⟨h1, h2, h3⟩ := h
  refine ⟨by simp; omega, fun p hp => ?_, List.pairwise_append.mpr ⟨h3, List.pairwise_singleton _ _, fun p hp q hq => ?_⟩⟩
  · rcases List.mem_append.mp hp with e | e
    · exact h2 p e
    · rw [List.mem_singleton] at e; subst e; exact ⟨ht.1, ht.2, hm.1, hm.2⟩
  · rw [List.mem_singleton] at hq; subst hq; exact hb p hp
theorem last_max {l : List (Int × Int)} (h : AsksG l) {p q : Int × Int} (hq : l[l.length - 1]? = some q) (hp : p ∈ l) : p.1 ≤ q.1 := by
  obtain ⟨i, hi, e⟩ := List.getElem_of_mem hp
  have e2 := hq
  rw [List.getElem?_eq_getElem (lt_of_some hq)] at e2
  rcases Nat.lt_or_eq_of_le (Nat.le_sub_one_of_lt hi) with hlt | heq
  · have := List.pairwise_iff_getElem.mp h.2.2 i (l.length - 1) hi (lt_of_some hq) hlt
    rw [Option.some.inj e2, e] at this
    exact this
  · subst heq
    rw [Option.some.inj e2] at e
    rw [e]; exact Int.le_refl _
theorem fm_tup : ∀ (l : List (Int × Int)), (l.map dPairL).filterMap (fun d => match d with | .lst xs => some (D.tup xs) | _ => none) = l.map dPair
  | [] => rfl
  | p :: l => by
    show D.tup [.int p.1, .int p.2] :: (l.map dPairL).filterMap _ = _
    rw [fm_tup l]; rfl
/-- tuple([tuple(row) for row in asks]) -/
theorem tuples_of {i : Nat} {S : Sto} {env : DE} {l : List (Int × Int)} {Q : Qd} {E : XQ} (hi : getV env i = some (.lst (l.map dPairL))) (hl : l.length ≤ 1000)
    (h8 : ∀ d, getV (setV (delVs env [8]) 8 d) 8 = some d) (q : Q (.tup (l.map dPair)) S) :
    (wCB oTuple (wCons (wLc (wIt (wVar i)) (gN 8) wYes (wCB oTuple (wCons (wVar 8) wNil)) [8]) wNil)) env S Q E := by
  simp only [wCons, wNil, wCB, wLc, wIt, wVar, hi, some!, seqA, seqL, seqM, List.length_map]
  refine ⟨by unfold sizeLine; omega, compI_map (fun d => match d with | .lst xs => some (D.tup xs) | _ => none) trivial (fun d hd R hR => ?_) ?_⟩
  · obtain ⟨p, _, rfl⟩ := List.mem_map.mp hd
    simp only [gN, wYes, if_true, wCB, wCons, wNil, wVar, h8, some!, oTuple, one, dPairL, seqA, seqL, seqM]
    exact hR
  · rw [fm_tup]
    simp only [oTuple, one, seqA, seqL, seqM, some!]
    exact q
end K41
set_option Elab.async false
set_option linter.all false
set_option maxRecDepth 100000
set_option maxHeartbeats 1000000
namespace K41
open PySem PySem.Spec PyProof.Rows L2 DL

/-! ### a larger store -/
theorem kn_ext {S S' : Sto} {d : D} (h : Kn S d) (e : Ext S S') : seqA S' d = seqA S d ∧ Kn S' d := by
  rcases kn_cases h with rfl | ⟨b, rfl⟩ | ⟨i, rfl⟩ | ⟨x, rfl⟩ | ⟨xs, rfl⟩ | ⟨e1, xs, e2, e3⟩
  · exact ⟨rfl, _, rfl⟩
  · exact ⟨rfl, _, rfl⟩
  · exact ⟨rfl, _, rfl⟩
  · exact ⟨rfl, _, rfl⟩
  · exact ⟨rfl, _, rfl⟩
  · cases d with
    | ref a =>
      have e4 : seqM S' (.ref a) = some xs := seqM_ext e e2
      exact ⟨by rw [e3]; exact e4, "list", by show ((seqM S' (.ref a)).map fun _ => "list") = some "list"; rw [e4]; rfl⟩
    | lst ys => exact ⟨rfl, _, rfl⟩
    | fro ys => exact ⟨rfl, _, rfl⟩
    | _ => cases e2
theorem askOf_ext {S S' : Sto} {d : D} (h : Kn S d) (e : Ext S S') (l : Int) : askOf S' l d = askOf S l d := by
  rw [askOf_eq, askOf_eq, (kn_ext h e).1]
theorem askAll_ext {S S' : Sto} (e : Ext S S') : ∀ {xs : List D}, (∀ x, x ∈ xs → Kn S x) → ∀ (l : Int) (j : Nat), askAll S' l j xs = askAll S l j xs
  | [], _, _, _ => rfl
  | x :: r, h, l, j => by
    unfold askAll
    rw [askOf_ext (h x List.mem_cons_self) e]
    cases askOf S l x with
    | none => rfl
    | some p => dsimp only; rw [askAll_ext e fun y hy => h y (List.mem_cons_of_mem _ hy)]
theorem asks_ext {S S' : Sto} {d : D} (h : KnAsks S d) (e : Ext S S') : KnAsks S' d ∧ asksOf S' d = asksOf S d := by
  have e1 := kn_ext h.1 e
  refine ⟨⟨e1.2, fun xs hx x hm => ?_⟩, ?_⟩
  · rw [e1.1] at hx
    obtain ⟨k1, k2⟩ := h.2 xs hx x hm
    have e2 := kn_ext k1 e
    refine ⟨e2.2, fun ys hy y hm2 => ?_⟩
    rw [e2.1] at hy
    exact (kn_ext (k2 ys hy y hm2) e).2
  · unfold asksOf
    rw [e1.1]
    cases q : seqA S d with
    | none => rfl
    | some xs =>
      dsimp only
      rw [askAll_ext e fun x hx => (h.2 xs q x hx).1]
/-! ### buckets -/
theorem len_check_bucket (c : Cl) : ∀ ds S Q E, sp_check_bucket c ds S Q E → ds.length = 2 := by
  rintro ds S Q E ⟨_, _, rfl, _⟩; rfl
theorem rd_check_bucket (c : Cl) : ∀ ds S Q X1, sp_check_bucket c ds S Q X1 → w_check_bucket c (startD N_check_bucket_ ds) S (endQ Q X1) := by
  rintro ds S Q X1 ⟨r, e, rfl, kr, ke, h1, h2, h3⟩
  show w_check_bucket c [some r, some e] S (endQ Q X1)
  unfold w_check_bucket
  refine seq_k fun q1 n1 r1 _ _ x1 => ?_
  simp only [wDrop, wCall, wCons, wNil, wVar, wC, getV, some!]
  refine ⟨r, 1, 1000, rfl, kr, fun g1 => n1 _ _ ?_, fun g1 => ?_⟩
  · simp only [wDrop, wCall, wCons, wNil, wVar, wC, getV, some!]
    exact ⟨e, 1, 100, rfl, ke, fun g2 => h3 g1 g2, fun g2 => h2 g1 g2⟩
  · simp only [xcQ]
    rw [x1]
    exact h1 g1
theorem len_tokens_between (c : Cl) : ∀ ds S Q E, sp_tokens_between c ds S Q E → ds.length = 3 := by
  rintro ds S Q E ⟨_, _, _, rfl, _⟩; rfl
theorem rd_tokens_between (c : Cl) : ∀ ds S Q X1, sp_tokens_between c ds S Q X1 → w_tokens_between c (startD N_tokens_between_ ds) S (endQ Q X1) := by
  rintro ds S Q X1 ⟨each, a, b, rfl, he, h⟩
  show w_tokens_between c [some (.int each), some (.int a), some (.int b)] S (endQ Q X1)
  unfold w_tokens_between
  simp only [wRet, wBin, wVar, getV, some!, oDiv, oSub, oI, oI0]
  exact ⟨divw (by omega), divw (by omega), h⟩
theorem len_Bucket_init (c : Cl) : ∀ ds S Q E, sp_Bucket_init c ds S Q E → ds.length = 3 := by
  rintro ds S Q E ⟨_, _, _, rfl, _⟩; rfl
theorem rd_Bucket_init (c : Cl) : ∀ ds S Q X1, sp_Bucket_init c ds S Q X1 → w_Bucket_init c (startD N_Bucket_init_ ds) S (endQ Q X1) := by
  rintro ds S Q X1 ⟨a, room, each, rfl, ha, h⟩
  show w_Bucket_init c [some (.ref a), some (.int room), some (.int each)] S (endQ Q X1)
  unfold w_Bucket_init
  simp only [wSeq, wSetF, wVar, wC, getV, some!, setD, ha, put_same, put_put, and_self, true_and, setV, noneV, N_Bucket]
  exact h
theorem isIns_bu {c : Cl} {S : Sto} {a : Addr} {r e tk ti : Int} (h : S a = some (buMO c r e tk ti)) : isIns c.Bucket N_Bucket S (.ref a) := by
  show (match S a with | some (.ins C' N' _) => C' = c.Bucket ∧ N' = N_Bucket | _ => False)
  rw [h]
  exact ⟨rfl, rfl⟩
theorem fld_bu {c : Cl} {S : Sto} {a : Addr} {r e tk ti : Int} {k : D → Prop} (i : Nat) {x : D} (h : S a = some (buMO c r e tk ti)) (hx : getV [some (D.int r), some (.int e), some (.int tk), some (.int ti)] i = some x) (hk : k x) : fldD c.Bucket N_Bucket i S (.ref a) k := by
  show (match S a with | some (.ins C' N' xs) => (C' = c.Bucket ∧ N' = N_Bucket) ∧ some! (getV xs i) k | _ => False)
  rw [h]
  refine ⟨⟨rfl, rfl⟩, ?_⟩
  show some! (getV [some (D.int r), some (.int e), some (.int tk), some (.int ti)] i) k
  rw [hx]; exact hk
theorem set_bu {c : Cl} {S : Sto} {a : Addr} {r e tk ti : Int} {k : Sto → Prop} (i : Nat) (d : D) (h : S a = some (buMO c r e tk ti)) (hk : k (put S a (.ins c.Bucket N_Bucket (setV [some (.int r), some (.int e), some (.int tk), some (.int ti)] i d)))) : setD c.Bucket N_Bucket i S (.ref a) d k := by
  show (match S a with | some (.ins C' N' xs) => (C' = c.Bucket ∧ N' = N_Bucket) ∧ k (put S a (.ins c.Bucket N_Bucket (setV xs i d))) | _ => False)
  rw [h]
  exact ⟨⟨rfl, rfl⟩, hk⟩
theorem len_Bucket_go_to (c : Cl) : ∀ ds S Q E, sp_Bucket_go_to c ds S Q E → ds.length = 2 := by
  rintro ds S Q E ⟨_, _, _, _, _, _, rfl, _⟩; rfl
theorem rd_Bucket_go_to (c : Cl) : ∀ ds S Q X1, sp_Bucket_go_to c ds S Q X1 → w_Bucket_go_to c (startD N_Bucket_go_to_ ds) S (endQ Q X1) := by
  rintro ds S Q X1 ⟨a, r, e, tk, ti, t, rfl, ha, he, h⟩
  show w_Bucket_go_to c [some (.ref a), some (.int t)] S (endQ Q X1)
  unfold w_Bucket_go_to
  refine seq_k fun q1 n1 r1 _ _ x1 => ?_
  simp only [wSetF, wCB, wCall, wBin, wFld, wCons, wNil, wVar, getV, some!]
  refine fld_bu 0 ha rfl (fld_bu 2 ha rfl (fld_bu 1 ha rfl (fld_bu 3 ha rfl ⟨e, ti, t, rfl, he, ?_⟩)))
  simp only [oAdd, oMin2, two, asI]
  refine set_bu 2 _ ha ?_
  refine n1 _ _ ?_
  simp only [wSetF, wVar, getV, some!]
  refine set_bu (tk := min r (tk + tb e ti t)) 3 _ put_same ?_
  rw [put_put]
  exact h
theorem len_Bucket_take (c : Cl) : ∀ ds S Q E, sp_Bucket_take c ds S Q E → ds.length = 2 := by
  rintro ds S Q E ⟨_, _, _, _, _, _, rfl, _⟩; rfl
theorem rd_Bucket_take (c : Cl) : ∀ ds S Q X1, sp_Bucket_take c ds S Q X1 → w_Bucket_take c (startD N_Bucket_take_ ds) S (endQ Q X1) := by
  rintro ds S Q X1 ⟨a, r, e, tk, ti, m, rfl, ha, h⟩
  show w_Bucket_take c [some (.ref a), some (.int m)] S (endQ Q X1)
  unfold w_Bucket_take
  refine seq_k fun q1 n1 r1 _ _ x1 => ?_
  simp only [wIf, wTest, wBin, wFld, wVar, wC, getV, some!]
  refine fld_bu 2 ha rfl ?_
  simp only [oGt, oI0, decide_eq_true_eq]
  split
  · rename_i g
    simp only [wRet, wC]
    rw [r1]
    rw [if_neg (by omega), decide_eq_false (by omega), put_self ha] at h
    exact h
  · rename_i g
    simp only [wNext]
    refine n1 _ _ ?_
    refine seq_k fun q1 n1 r1 _ _ x1 => ?_
    simp only [wAugF, wVar, getV, some!]
    refine fld_bu 2 ha rfl ?_
    simp only [oSub, oI0]
    refine set_bu 2 _ ha (n1 _ _ ?_)
    simp only [wRet, wC]
    rw [if_pos (by omega), decide_eq_true (by omega)] at h
    exact h
theorem in_room {r : D} (h : inR 1 1000 r = true) : ∃ i, r = .int i ∧ 1 ≤ i ∧ i ≤ 1000 := by
  cases r with
  | int i =>
    have := of_decide_eq_true (show decide (1 ≤ i ∧ i ≤ 1000) = true from h)
    exact ⟨i, rfl, this.1, this.2⟩
  | _ => cases h
theorem in_each {r : D} (h : inR 1 100 r = true) : ∃ i, r = .int i ∧ 1 ≤ i ∧ i ≤ 100 := by
  cases r with
  | int i =>
    have := of_decide_eq_true (show decide (1 ≤ i ∧ i ≤ 100) = true from h)
    exact ⟨i, rfl, this.1, this.2⟩
  | _ => cases h
theorem len_let_by (c : Cl) : ∀ ds S Q E, sp_let_by c ds S Q E → ds.length = 3 := by
  rintro ds S Q E ⟨_, _, _, rfl, _⟩; rfl
theorem rd_let_by (c : Cl) : ∀ ds S Q X1, sp_let_by c ds S Q X1 → w_let_by c (startD N_let_by_ ds) S (endQ Q X1) := by
  rintro ds S Q X1 ⟨r, e, d, rfl, kr, ke, kd, hW, hg⟩
  show w_let_by c [some r, some e, some d, none, none, none, none] S (endQ Q X1)
  unfold w_let_by
  refine seq_k fun q1 n1 r1 _ _ x1 => ?_
  simp only [wDrop, wCall, wCons, wNil, wVar, getV, some!]
  refine ⟨r, e, rfl, kr, ke, fun h => ?_, fun h1 h2 => ?_, fun h1 h2 => n1 _ _ ?_⟩
  · simp only [xcQ]; rw [x1]; exact hW.room h
  · simp only [xcQ]; rw [x1]; exact hW.each h1 h2
  have hWa := hW.asks h1 h2
  obtain ⟨room, rfl, hr⟩ := in_room h1
  obtain ⟨each, rfl, he⟩ := in_each h2
  refine seq_k fun q1 n1 r1 _ _ x1 => ?_
  simp only [wSet, wMake, wCons, wNil, wVar, getV, setV, some!]
  refine fun a ha => ⟨a, room, each, rfl, put_same, rfl, ?_⟩
  rw [put_put]
  refine n1 _ _ ?_
  refine seq_k fun q1 n1 r1 _ _ x1 => ?_
  simp only [wSet, wLstM, wNil, setV]
  refine ⟨Nat.zero_le _, fun p hp => n1 _ _ ?_⟩
  have hpa : p ≠ a := Ne.symm (ne_of_S put_same hp)
  have hpS : S p = none := by rw [put_ne hpa] at hp; exact hp
  have ext : ∀ {m n : MO}, Ext S (put (put S a m) p n) := fun {m n} b o eb => by
    rw [put_ne (ne_of_S eb hpS), put_ne (ne_of_S eb ha)]; exact eb
  obtain ⟨kd2, ed2⟩ := asks_ext kd (ext (m := buMO c room each room 0) (n := .lst []))
  refine seq_k fun q1 n1 r1 _ _ x1 => ?_
  simp only [wFor, wIt, wCall, wCons, wNil, wVar, getV, some!]
  refine ⟨d, rfl, kd2, fun l hl => ?_, fun z hz S' es => ?_⟩
  · rw [ed2] at hl
    have hlen := asks_len hl
    simp only [seqA, seqL, seqM]
    have atA : ∀ {m n : MO}, put (put S a m) p n a = some m := fun {m n} => by rw [put_ne (Ne.symm hpa), put_same]
    have setA : ∀ {m m' n : MO}, put (put (put S a m) p n) a m' = put (put S a m') p n := fun {m m' n} => by rw [put_comm (a := p) (b := a) hpa, put_put]
    refine forI_invq (fun i e S' => ∃ tk ti bs x5 x6, (l.take i).foldl (bStep room each) (room, 0, []) = (tk, ti, bs) ∧ bs.length = i ∧ S' = put (put S a (buMO c room each tk ti)) p (.lst (bs.map D.bl)) ∧
      e = [some (.int room), some (.int each), some d, some (.ref a), some (.ref p), x5, x6]) ⟨room, 0, [], none, none, rfl, rfl, rfl, rfl⟩ (fun _ _ _ _ => trivial) ?_ ?_
    · rintro i d' e' S' hi ⟨tk, ti, bs, x5, x6, ef, hbl, rfl, rfl⟩ q hq _ _ _ _
      rw [List.getElem?_map] at hi
      obtain ⟨⟨b, m⟩, hpr, rfl⟩ := Option.map_eq_some_iff.mp hi
      have hi40 : i < l.length := lt_of_some hpr
      have key := fold_take (bStep room each) (room, 0, []) hpr
      rw [ef] at key
      simp only [gT, gAll, gN, setV, dPair]
      refine ⟨rfl, ?_⟩
      refine seq_k fun q2 n2 _ _ _ _ => ?_
      simp only [wDrop, wMeth, wCons, wNil, wVar, getV, some!]
      refine ⟨isIns_bu atA, a, room, each, tk, ti, b, rfl, atA, he, n2 _ _ ?_⟩
      rw [setA]
      simp only [wDrop, wMt, wMeth, wCons, wNil, wVar, getV, some!, mutL, put_same]
      refine ⟨isIns_bu atA, a, room, each, _, _, m, rfl, atA, ?_⟩
      rw [setA]
      simp only [oAppend, mutL, put_same, put_put, one, List.length_map]
      refine ⟨by unfold sizeLine; omega, hq _ _ ⟨(if m ≤ min room (tk + tb each ti b) then min room (tk + tb each ti b) - m else min room (tk + tb each ti b)), b, bs ++ [decide (m ≤ min room (tk + tb each ti b))], _, _, ?_, by simp [hbl], by simp, rfl⟩⟩
      rw [key]; rfl
    · rintro e' S' ⟨tk, ti, bs, x5, x6, ef, hbl, rfl, rfl⟩
      rw [List.length_map, List.take_length] at ef
      refine n1 _ _ ?_
      simp only [wRet, wFrz, wCB, wCons, wNil, wVar, getV, some!, frzD, put_same, oTuple, one, seqA, seqL, seqM]
      rw [del_put (by rw [put_ne hpa]; exact hpS)]
      have e2 : letsF room each l = bs := by unfold letsF bRun; rw [ef]
      have := hg l room each rfl rfl hr he hl (put S a (buMO c room each tk ti)) (Ext.put ha)
      rw [e2] at this
      exact this
  · rw [ed2] at hz
    simp only [xcQ]
    rw [x1]
    exact hWa z hz S' (Ext.trans ext es)
theorem last_fold {room each : Int} : ∀ {l : List (Int × Int)}, (bRun room each l).2.1 = lastF l := fun {l} => by
  have key : ∀ (l : List (Int × Int)) st, (l.foldl (bStep room each) st).2.1 = (match l.getLast? with | some p => p.1 | none => st.2.1) := fun l => by
    induction l with
    | nil => intro st; rfl
    | cons x r ih =>
      intro st
      rw [List.foldl_cons, ih]
      cases r with
      | nil => rfl
      | cons y r => rw [List.getLast?_cons_cons]; cases e : (y :: r).getLast? with
        | none => simp at e
        | some z => rfl
  exact key l _
end K41
set_option Elab.async false
set_option linter.all false
set_option maxRecDepth 100000
set_option maxHeartbeats 1000000
namespace K41
open PySem PySem.Spec PyProof.Rows L2 DL
/-! ### tick by tick -/
theorem div_succ {e T : Int} (he : 1 ≤ e) : (T + 1) / e = T / e + (if (T + 1) % e = 0 then 1 else 0) := by
  have d1 := Int.emod_add_mul_ediv T e
  have m1 := Int.emod_nonneg T (show e ≠ 0 by omega)
  have m2 := Int.emod_lt_of_pos T (show 0 < e by omega)
  by_cases h : T % e + 1 = e
  · have e1 : T + 1 = 0 + (T / e + 1) * e := by rw [Int.add_mul, Int.one_mul, Int.mul_comm (T / e) e]; omega
    have e2 : (T + 1) % e = 0 := by rw [e1, Int.add_mul_emod_self_right]; rfl
    rw [if_pos e2, e1, Int.add_mul_ediv_right _ _ (by omega)]
    simp
  · have e1 : T + 1 = (T % e + 1) + (T / e) * e := by rw [Int.mul_comm (T / e) e]; omega
    have e2 : (T + 1) % e = T % e + 1 := by rw [e1, Int.add_mul_emod_self_right, Int.emod_eq_of_lt (by omega) (by omega)]
    rw [if_neg (by omega)]
    conv => lhs; rw [e1]
    rw [Int.add_mul_ediv_right _ _ (by omega), Int.ediv_eq_zero_of_lt (by omega) (by omega)]
    omega
theorem last_at {l : List (Int × Int)} : lastF l = (match l[l.length - 1]? with | some p => p.1 | none => 0) := by
  unfold lastF
  rw [List.getLast?_eq_getElem?]
  all_goals (cases l[l.length - 1]? <;> rfl)
theorem sorted_at {l : List (Int × Int)} (h : AsksG l) (i j : Nat) (a b : Int × Int) (hij : i ≤ j) (ha : l[i]? = some a) (hb : l[j]? = some b) : a.1 ≤ b.1 := by
  rcases Nat.lt_or_eq_of_le hij with hlt | rfl
  · have := List.pairwise_iff_getElem.mp h.2.2 i j (lt_of_some ha) (lt_of_some hb) hlt
    rw [List.getElem?_eq_getElem (lt_of_some ha)] at ha
    rw [List.getElem?_eq_getElem (lt_of_some hb)] at hb
    rw [← Option.some.inj ha, ← Option.some.inj hb]; exact this
  · rw [ha] at hb; cases hb; exact Int.le_refl _
theorem last_nn {l : List (Int × Int)} (h : AsksG l) : 0 ≤ lastF l ∧ lastF l ≤ 1000000 := by
  rw [last_at]
  cases e : l[l.length - 1]? with
  | none => exact ⟨Int.le_refl 0, by decide⟩
  | some p => have := h.2.1 p (List.mem_of_getElem? e); exact ⟨this.1, this.2.1⟩
theorem last_le {l : List (Int × Int)} (h : AsksG l) {p : Int × Int} (hp : p ∈ l) : p.1 ≤ lastF l := by
  have hn : 0 < l.length := List.length_pos_of_mem hp
  have e : l[l.length - 1]? = some l[l.length - 1] := List.getElem?_eq_getElem (by omega)
  have := last_max h e hp
  rw [last_at, e]; exact this
def cur (room each : Int) (st : Int × Int × List Bool) (T : Int) : Int := min room (st.1 + tb each st.2.1 T)
theorem cur_next {room each T : Int} {st : Int × Int × List Bool} (he : 1 ≤ each) : cur room each st (T + 1) = (if (T + 1) % each = 0 ∧ cur room each st T < room then cur room each st T + 1 else cur room each st T) := by
  unfold cur tb
  rw [div_succ he]
  generalize st.1 = a
  generalize st.2.1 / each = y
  generalize T / each = x
  by_cases h : (T + 1) % each = 0
  · rw [if_pos h]
    by_cases g : min room (a + (x - y)) < room
    · rw [if_pos ⟨h, g⟩]; omega
    · rw [if_neg fun z => g z.2]; omega
  · rw [if_neg h, if_neg fun z => h z.1, Int.add_zero]
end K41
set_option Elab.async false
set_option linter.all false
set_option maxRecDepth 100000
set_option maxHeartbeats 1000000
namespace K41
open PySem PySem.Spec PyProof.Rows L2 DL
theorem bad_of {top : Int} {v : D} (ht : 1 ≤ top) (h : (match v with | .non => true | .bl _ => true | .int i => !decide (1 ≤ i ∧ i ≤ top) | .str x => (PyData.str x).canLay0 | .tup [.int _] => true | _ => false) = true) : BadV top v := by
  cases v with
  | non => exact ⟨fun S => rfl, fun n => by cases n <;> trivial, rfl⟩
  | bl b => exact ⟨fun S => rfl, fun n => by cases n <;> trivial, rfl⟩
  | int i =>
    refine ⟨fun S => rfl, fun n => by cases n <;> trivial, ?_⟩
    show decide (1 ≤ i ∧ i ≤ top) = false
    have h' : (!decide (1 ≤ i ∧ i ≤ top)) = true := h
    cases q : decide (1 ≤ i ∧ i ≤ top) with
    | false => rfl
    | true => rw [q] at h'; cases h'
  | str x => exact ⟨fun S => rfl, fun n => by cases n <;> exact h, rfl⟩
  | tup xs =>
    cases xs with
    | nil => cases h
    | cons x r =>
      cases x with
      | int i =>
        cases r with
        | nil => exact ⟨fun S => ⟨_, rfl, trs_ints (ns := [i])⟩, fun n => ⟨by show 1 ≤ 1000; omega, fun y hy => by
            cases hy with
            | head => cases n <;> trivial
            | tail _ hy => cases hy⟩, rfl⟩
        | cons _ _ => cases h
      | _ => cases h
  | _ => cases h
theorem len__law_bad (c : Cl) : ∀ ds S Q E, sp__law_bad c ds S Q E → ds.length = 2 := by
  rintro ds S Q E ⟨_, _, _, _, rfl, _⟩; rfl
theorem rd__law_bad (c : Cl) : ∀ ds S Q X1, sp__law_bad c ds S Q X1 → w__law_bad c (startD N__law_bad_ ds) S (endQ Q X1) := by
  rintro ds S Q X1 ⟨p, g, N, top, rfl, ht, hp, hN, h⟩
  show w__law_bad c [some (.ref p), some (.int top)] S (endQ Q X1)
  unfold w__law_bad
  simp only [wRet, wBin, wLst, wCons, wNil, wVar, wC, wTup, wUn, wCall, getV, some!, oAdd, oNeg, oPow, oI, oSub, oI0]
  refine ⟨by show 1 ≤ sizeLine; decide, ⟨by decide, by decide, by decide⟩, by show 10 ≤ sizeLine; decide, ?_⟩
  refine draw_of hp (by omega) (by decide) fun r r0 r1 k hk => ?_
  simp only [oIx, seqA, seqL, seqM, some!]
  obtain ⟨x, hx, ex⟩ := at_nat (xs := [.int 0, .int (top + 1), .int (-1), .non, .bl true, .str "5", .tup [.int 1], .int (10 ^ (50 : Int).toNat), .bl false, .int (0 - top)]) r0 r1
  rw [ex]
  refine h x (bad_of (by omega) ?_) k hk
  simp only [List.mem_cons, List.not_mem_nil, or_false] at hx
  rcases ht with rfl | rfl <;> rcases hx with rfl | rfl | rfl | rfl | rfl | rfl | rfl | rfl | rfl | rfl <;> first | rfl | decide +kernel
section
variable {p g a : Addr} {S : Sto}
theorem swapL (hap : a ≠ p) (hag : a ≠ g) (hne : p ≠ g) (h1 h2 : Pool) (m : MO) : inPool (put (inPool S p g h1) a m) p g h2 = put (inPool S p g h2) a m := by
  unfold inPool
  rw [put_comm hap (n := poolMO g h2), put_comm (a := g) (b := p) (Ne.symm hne), put_put, put_comm hag, put_put]
theorem isPL (hap : a ≠ p) (hag : a ≠ g) (hne : p ≠ g) {M : Int} {h1 : Pool} {m : MO} (ok : PoolOk M h1) : IsPool (put (inPool S p g h1) a m) p g M := by
  refine ⟨hne, h1, ok, ?_, ?_⟩
  · rw [put_ne (Ne.symm hap)]; unfold inPool; rw [put_ne hne, put_same]
  · rw [put_ne (Ne.symm hag)]; unfold inPool; rw [put_same]
end
theorem pool_mono {N M : Int} {h : Pool} (ok : PoolOk N h) (e : N ≤ M) : PoolOk M h := by
  obtain ⟨z1, z2, z3⟩ := ok
  exact ⟨z1, ⟨z2.1, by have := z2.2; omega⟩, z3⟩
theorem inPool_self {p g : Addr} {S : Sto} {N : Int} (h : IsPool S p g N) : ∃ k, PoolOk N k ∧ inPool S p g k = S := by
  obtain ⟨h1, k, h2, h3, h4⟩ := h
  refine ⟨k, h2, ?_⟩
  unfold inPool
  rw [put_self h3, put_self h4]
theorem len__law_build (c : Cl) : ∀ ds S Q E, sp__law_build c ds S Q E → ds.length = 5 := by
  rintro ds S Q E ⟨_, _, _, _, _, _, _, rfl, _⟩; rfl
theorem rd__law_build (c : Cl) : ∀ ds S Q X1, sp__law_build c ds S Q X1 → w__law_build c (startD N__law_build_ ds) S (endQ Q X1) := by
  rintro ds S Q X1 ⟨p, g, N, room, each, many, limit, rfl, ⟨hr1, hr2⟩, ⟨he1, he2⟩, ⟨hm1, hm2⟩, ⟨hi1, hi2⟩, hp, hN, h⟩
  have hne : p ≠ g := hp.1
  show w__law_build c [some (.ref p), some (.int room), some (.int each), some (.int many), some (.int limit), none, none, none, none, none, none, none, none] S (endQ Q X1)
  obtain ⟨k0, ok0, eS⟩ := inPool_self hp
  unfold w__law_build
  refine seq_k fun q1 n1 r1 _ _ x1 => ?_
  simp only [wSet, wLstM, wNil, setV]
  refine ⟨Nat.zero_le _, fun a ha => n1 _ _ ?_⟩
  obtain ⟨hap, hag⟩ := isPool_off hp ha
  have swap : ∀ (h1 h2 : Pool) (m : MO), inPool (put (inPool S p g h1) a m) p g h2 = put (inPool S p g h2) a m := swapL hap hag hne
  have isP : ∀ {M : Int} {h1 : Pool} {m : MO}, PoolOk M h1 → IsPool (put (inPool S p g h1) a m) p g M := isPL hap hag hne
  refine seq_k fun q1 n1 r2 _ _ x1 => ?_
  simp only [wSet, wC, setV]
  refine n1 _ _ ?_
  refine seq_k fun q1 n1 r3 _ _ x1 => ?_
  simp only [wSet, wVar, getV, setV, some!]
  refine n1 _ _ ?_
  refine seq_k fun q1 n1 r4 _ _ x1 => ?_
  simp only [wFor, wRg1, wVar, getV, some!, asI]
  refine ⟨by omega, ?_⟩
  refine forI_invq (fun i e S' => ∃ (l : List (Int × Int)) (tick tokens : Int) (h3 : Pool) (x8 x9 x10 x11 x12 : Option D), l.length = i ∧ (0 ≤ tick ∧ tick ≤ limit) ∧ (∀ p, p ∈ l → 0 ≤ p.1 ∧ p.1 ≤ tick ∧ 1 ≤ p.2 ∧ p.2 ≤ 1000) ∧ l.Pairwise (fun a b => a.1 ≤ b.1) ∧ PoolOk (N + 7 * i) h3 ∧
    S' = put (inPool S p g h3) a (.lst (l.map dPairL)) ∧ e = [some (.ref p), some (.int room), some (.int each), some (.int many), some (.int limit), some (.ref a), some (.int tick), some (.int tokens), x8, x9, x10, x11, x12])
    ⟨[], 0, room, k0, none, none, none, none, none, rfl, ⟨Int.le_refl 0, by omega⟩, (fun p hp => by cases hp), List.Pairwise.nil, by simpa using ok0, by rw [eS]; rfl, rfl⟩ (fun _ _ _ _ => trivial) ?_ ?_
  · rintro i d e S' hi ⟨l, tick, tokens, h3, x8, x9, x10, x11, x12, hl, ⟨k1, k2⟩, hb, hpw, ok3, rfl, rfl⟩ q hq _ _ _ _
    obtain ⟨hlt, rfl⟩ := rngD_get hi
    have hi39 : i < 40 := by omega
    have m1 : 0 ≤ tick % each := Int.emod_nonneg _ (by omega)
    have m2 : tick % each < each := Int.emod_lt_of_pos _ (by omega)
    simp only [gN, setV]
    refine seq_k fun q2 n2 _ _ _ _ => ?_
    simp only [wSet, wCall, wCons, wNil, wVar, wC, getV, setV, some!]
    refine draw_of (isP ok3) (by omega) (by decide) fun kind d10 d11 h4 ok4 => n2 _ _ ?_
    rw [swap]
    refine seq_k fun q2 n2 _ _ _ _ => ?_
    simp only [wSet, wBin, wLst, wCB, wCons, wNil, wVar, wC, getV, setV, some!, oInt, one, oMod, oI, oSub, oI0]
    refine ⟨by omega, by omega, by show 7 ≤ sizeLine; decide, ?_⟩
    simp only [oIx, seqA, seqL, seqM, some!]
    obtain ⟨x, hx, ex⟩ := at_nat (xs := [.int 0, .int 0, .int (each - tick % each), .int (each - tick % each - 1), .int 1, .int 0, .int 0]) d10 d11
    rw [ex]
    obtain ⟨step, rfl, hstep⟩ : ∃ m, x = .int m ∧ 0 ≤ m := by
      simp only [List.mem_cons, List.not_mem_nil, or_false] at hx
      rcases hx with rfl | rfl | rfl | rfl | rfl | rfl | rfl <;> exact ⟨_, rfl, by omega⟩
    refine n2 _ _ ?_
    refine seq_k fun q2 n2 _ _ _ _ => ?_
    -- behind the step
    have rest : ∀ step h5, 0 ≤ step → PoolOk (N + 7 * (i : Int) + 3) h5 → q.nx = q.nx → ∀ q3 : QS, (∀ e s, (wSeq (wSet 11 (wCB oMin2 (wCons (wCB oInt (wCons (wBin oAdd (wVar 6) (wVar 10)) wNil)) (wCons (wVar 4) wNil))))
        (wSeq (wSet 7 (wCB oMin2 (wCons (wCB oInt (wCons (wVar 1) wNil)) (wCons (wBin oSub (wBin oAdd (wVar 7) (wBin oDiv (wVar 11) (wVar 2))) (wBin oDiv (wVar 6) (wVar 2))) wNil))))
        (wSeq (wSet 6 (wVar 11))
        (wSeq (wSet 12 (wBin oIx (wLst (wCons (wVar 7) (wCons (wBin oAdd (wVar 7) (wC (.int 1))) (wCons (wBin oSub (wVar 7) (wC (.int 1))) (wCons (wC (.int 1)) (wCons (wBin oAdd (wC (.int 1)) (wCall (sp__law_draw c) (wCons (wVar 0) (wCons (wBin oAdd (wVar 1) (wC (.int 1))) wNil)))) (wCons (wC (.int 2)) wNil))))))) (wCall (sp__law_draw c) (wCons (wVar 0) (wCons (wC (.int 6)) wNil)))))
        (wSeq (wSet 12 (wCB oMax2 (wCons (wC (.int 1)) (wCons (wCB oMin2 (wCons (wC (.int 1000)) (wCons (wVar 12) wNil))) wNil))))
        (wSeq (wIf (wTest (wBin oLe (wVar 12) (wVar 7))) (wSet 7 (wBin oSub (wVar 7) (wVar 12))) wNext)
        (wDrop (wMt oAppend (wVar 5) (wCons (wLst (wCons (wVar 6) (wCons (wVar 12) wNil))) wNil))))))))) e s q → q3.nx e s) →
        q3.nx [some (.ref p), some (.int room), some (.int each), some (.int many), some (.int limit), some (.ref a), some (.int tick), some (.int tokens), some (.int (0 + (i : Int))), some (.int kind), some (.int step), x11, x12]
          (put (inPool S p g h5) a (.lst (l.map dPairL))) := fun step h5 hstep ok5 _ q3 hq3 => by
      refine hq3 _ _ ?_
      refine seq_k fun q2 n2 _ _ _ _ => ?_
      simp only [wSet, wCB, wBin, wCons, wNil, wVar, getV, setV, some!, oAdd, oInt, one, oMin2, two, asI]
      refine n2 _ _ ?_
      refine seq_k fun q2 n2 _ _ _ _ => ?_
      simp only [wSet, wCB, wBin, wCons, wNil, wVar, getV, setV, some!, oDiv, oI, oAdd, oSub, oI0, oInt, one, oMin2, two, asI]
      refine ⟨divw (by omega), divw (by omega), n2 _ _ ?_⟩
      generalize min room (tokens + min (tick + step) limit / each - tick / each) = tok
      refine seq_k fun q2 n2 _ _ _ _ => ?_
      simp only [wSet, wVar, getV, setV, some!]
      refine n2 _ _ ?_
      have ht1 : tick ≤ min (tick + step) limit := by omega
      have ht2 : min (tick + step) limit ≤ limit := by omega
      generalize min (tick + step) limit = later at ht1 ht2
      refine seq_k fun q2 n2 _ _ _ _ => ?_
      simp only [wSet, wBin, wLst, wCall, wCons, wNil, wVar, wC, getV, setV, some!, oAdd, oSub, oI0]
      refine draw_of (isP ok5) (by omega) ⟨by omega, by omega⟩ fun e1 e10 e11 h6 ok6 => ?_
      rw [swap]
      refine ⟨by show 6 ≤ sizeLine; decide, ?_⟩
      refine draw_of (isP ok6) (by omega) (by decide) fun e2 e20 e21 h7 ok7 => ?_
      rw [swap]
      simp only [oIx, seqA, seqL, seqM, some!]
      obtain ⟨x, hx, ex⟩ := at_nat (xs := [.int tok, .int (tok + 1), .int (tok - 1), .int 1, .int (1 + e1), .int 2]) e20 e21
      rw [ex]
      obtain ⟨size, rfl⟩ : ∃ m, x = .int m := by
        simp only [List.mem_cons, List.not_mem_nil, or_false] at hx
        rcases hx with rfl | rfl | rfl | rfl | rfl | rfl <;> exact ⟨_, rfl⟩
      refine n2 _ _ ?_
      refine seq_k fun q2 n2 _ _ _ _ => ?_
      simp only [wSet, wCB, wCons, wNil, wVar, wC, getV, setV, some!, oMin2, oMax2, two, asI]
      refine n2 _ _ ?_
      have hz1 : 1 ≤ max 1 (min 1000 size) := by omega
      have hz2 : max 1 (min 1000 size) ≤ 1000 := by omega
      generalize max 1 (min 1000 size) = size at hz1 hz2
      refine seq_k fun q2 n2 _ _ _ _ => ?_
      have fin : ∀ t2, q2.nx [some (.ref p), some (.int room), some (.int each), some (.int many), some (.int limit), some (.ref a), some (.int later), some (.int t2), some (.int (0 + (i : Int))), some (.int kind), some (.int step), some (.int later), some (.int size)]
          (put (inPool S p g h7) a (.lst (l.map dPairL))) := fun t2 => by
        refine n2 _ _ ?_
        simp only [wDrop, wMt, wLst, wCons, wNil, wVar, getV, some!, oAppend, mutL, put_same, put_put, one, List.length_map]
        have e1 : l.map dPairL ++ [D.lst [.int later, .int size]] = (l ++ [(later, size)]).map dPairL := by simp [dPairL]
        rw [e1]
        refine ⟨by show 2 ≤ sizeLine; decide, by unfold sizeLine; omega, hq _ _ ⟨_, later, t2, h7, _, _, _, _, _, by simp [hl], ⟨by omega, ht2⟩, fun z hz => ?_, ?_, pool_mono ok7 (by omega), rfl, rfl⟩⟩
        · rcases List.mem_append.mp hz with hz | hz
          · have := hb z hz
            omega
          · rw [List.mem_singleton] at hz
            subst hz
            dsimp only
            omega
        · refine List.pairwise_append.mpr ⟨hpw, List.pairwise_singleton _ _, fun z hz y hy => ?_⟩
          rw [List.mem_singleton] at hy
          subst hy
          have := hb z hz
          dsimp only
          omega
      simp only [wIf, wTest, wBin, wVar, getV, some!, oLe, oI0, decide_eq_true_eq]
      split
      · simp only [wSet, wBin, wVar, getV, setV, some!, oSub, oI0]
        exact fin _
      · simp only [wNext]
        exact fin _
    simp only [wIf, wTest, wBin, wVar, wC, getV, some!, oEq, shD_int, eqD_int, true_and, decide_eq_true_eq]
    have second : ∀ step h5, 0 ≤ step → PoolOk (N + 7 * (i : Int) + 2) h5 → q2.nx [some (.ref p), some (.int room), some (.int each), some (.int many), some (.int limit), some (.ref a), some (.int tick), some (.int tokens), some (.int (0 + (i : Int))), some (.int kind), some (.int step), x11, x12]
          (put (inPool S p g h5) a (.lst (l.map dPairL))) := fun step h5 hstep ok5 => by
      refine n2 _ _ ?_
      refine seq_k fun q3 n3 _ _ _ _ => ?_
      simp only [wIf, wTest, wBin, wVar, wC, getV, some!, oEq, shD_int, eqD_int, true_and, decide_eq_true_eq]
      split
      · simp only [wSet, wCall, wBin, wCons, wNil, wVar, wC, getV, setV, some!, oDiv, oI]
        refine ⟨divw (by decide), draw_of (isP ok5) (by omega) ⟨by omega, by omega⟩ fun e1 e10 e11 h6 ok6 => ?_⟩
        rw [swap]
        exact rest e1 h6 e10 (pool_mono ok6 (by omega)) rfl q3 n3
      · simp only [wNext]
        exact rest step h5 hstep (pool_mono ok5 (by omega)) rfl q3 n3
    split
    · simp only [wSet, wCall, wBin, wCons, wNil, wVar, wC, getV, setV, some!, oMul, oI, oAdd]
      refine ⟨mulw2 (by decide) ⟨by omega, by omega⟩, draw_of (isP ok4) (by omega) ⟨by omega, by omega⟩ fun e1 e10 e11 h6 ok6 => ?_⟩
      rw [swap]
      exact second e1 h6 e10 (pool_mono ok6 (by omega))
    · simp only [wNext]
      exact second step h4 hstep (pool_mono ok4 (by omega))
  · rintro e S' ⟨l, tick, tokens, h3, x8, x9, x10, x11, x12, hl, ⟨k1, k2⟩, hb, hpw, ok3, rfl, rfl⟩
    rw [rngD_length] at hl ok3
    refine n1 _ _ ?_
    simp only [wRet, wFrz, wVar, getV, some!, frzD, put_same]
    have : (inPool S p g h3) a = none := by unfold inPool; rw [put_ne hag, put_ne hap]; exact ha
    rw [del_put this]
    refine h l h3 ⟨by omega, fun z hz => ?_, hpw⟩ (by omega) (pool_mono ok3 (by omega)) fun z hz => ?_
    · have := hb z hz
      omega
    · have := hb z hz
      omega
end K41
set_option Elab.async false
set_option linter.all false
set_option maxRecDepth 100000
set_option maxHeartbeats 1000000
namespace K41
open PySem PySem.Spec PyProof.Rows L2 DL
theorem lets_len {room each : Int} {l : List (Int × Int)} : (letsF room each l).length = l.length := by
  have key : ∀ (l : List (Int × Int)) st, (l.foldl (bStep room each) st).2.2.length = st.2.2.length + l.length := fun l => by
    induction l with
    | nil => intro st; rfl
    | cons x r ih =>
      intro st
      rw [List.foldl_cons, ih]
      show (st.2.2 ++ [_]).length + r.length = _
      rw [List.length_append]
      simp; omega
  have := key l (room, 0, [])
  unfold letsF bRun
  rw [this]; simp
theorem tr_dB {S : Sto} {bs : List Bool} : Tr S (dB bs) (dB bs) := ⟨_, rfl, trs_map (f := D.bl) fun _ => rfl⟩
theorem fits_dB {n : Nat} {bs : List Bool} (h : bs.length ≤ 1000) : fits (n + 1) (dB bs) := ⟨by rw [List.length_map]; exact h, fun x hx => by obtain ⟨i, _, rfl⟩ := List.mem_map.mp hx; cases n <;> trivial⟩
theorem noWrong {c : Cl} {S : Sto} {d t : D} {l : List (Int × Int)} {room each : Int} {E : XQ} (h : Tr S d t) (ht : PairsT t l) (hl : AsksG l) (hr : 1 ≤ room ∧ room ≤ 1000) (he : 1 ≤ each ∧ each ≤ 100) : Wrong c S (.int room) (.int each) d E := by
  have h1 : inR 1 1000 (.int room) = true := decide_eq_true hr
  have h2 : inR 1 100 (.int each) = true := decide_eq_true he
  have e : asksOf S d = .inl l := by rw [asksOf_tr h, asks_good ht hl]
  exact ⟨(fun z => by rw [h1] at z; cases z), (fun _ z => by rw [h2] at z; cases z), (fun _ _ p hp => by rw [e] at hp; cases hp)⟩
theorem lets_call {c : Cl} {S : Sto} {d t : D} {l : List (Int × Int)} {room each : Int} {Q : Qd} {E : XQ} (h : Tr S d t) (ht : PairsT t l) (hl : AsksG l) (hr : 1 ≤ room ∧ room ≤ 1000) (he : 1 ≤ each ∧ each ≤ 100) (q : ∀ S', Ext S S' → Q (dB (letsF room each l)) S') : sp_let_by c [.int room, .int each, d] S Q E := by
  have e : asksOf S d = .inl l := by rw [asksOf_tr h, asks_good ht hl]
  refine ⟨_, _, _, rfl, ⟨_, rfl⟩, ⟨_, rfl⟩, tr_knAsks h, noWrong h ht hl hr he, fun l' room' each' h1 h2 _ _ hl' => ?_⟩
  cases h1; cases h2
  rw [e] at hl'; cases hl'
  exact q
theorem ix_of2 {x y : D} {S : Sto} {Q : Qd} : (oIx S (.lst [x, y]) (.int 0) Q ↔ Q x S) ∧ (oIx S (.lst [x, y]) (.int 1) Q ↔ Q y S) := by
  constructor
  · show (some! (some [x, y]) fun xs => some! (atI xs 0) fun d => Q d S) ↔ _
    simp only [some!, (ix2_at x y).1]
  · show (some! (some [x, y]) fun xs => some! (atI xs 1) fun d => Q d S) ↔ _
    simp only [some!, (ix2_at x y).2]
/-! ### trees and draws -/
mutual
theorem TrF.ext2 {p g : Addr} {S S' : Sto} (e : Ext2 p g S S') : ∀ {t d : D} {fp : List Addr}, (∀ a, a ∈ fp → a ≠ p ∧ a ≠ g) → TrF S d t fp → TrF S' d t fp
  | .lst _, _, _, o, ⟨a, xs, r, h1, h2, h3, h4⟩ => by
    subst h3
    exact ⟨a, xs, r, h1, e _ _ (o a List.mem_cons_self).1 (o a List.mem_cons_self).2 h2, rfl, TrsF.ext2 e (fun b hb => o b (List.mem_cons_of_mem _ hb)) h4⟩
  | .tup _, _, _, o, ⟨xs, h1, h2⟩ => ⟨xs, h1, TrsF.ext2 e o h2⟩
  | .non, _, _, _, h => h
  | .bl _, _, _, _, h => h
  | .int _, _, _, _, h => h
  | .str _, _, _, _, h => h
  | .ref _, _, _, _, h => h
  | .fro _, _, _, _, h => h
  | .obj _ _ _, _, _, _, h => h
  | .exc _ _ _ _ _, _, _, _, h => h
theorem TrsF.ext2 {p g : Addr} {S S' : Sto} (e : Ext2 p g S S') : ∀ {ts ds : List D} {fp : List Addr}, (∀ a, a ∈ fp → a ≠ p ∧ a ≠ g) → TrsF S ds ts fp → TrsF S' ds ts fp
  | [], _, _, _, h => h
  | _ :: _, _, _, o, ⟨x, r, f1, f2, h1, h2, h3, h4⟩ => by
    subst h2
    exact ⟨x, r, f1, f2, h1, rfl, TrF.ext2 e (fun a ha => o a (List.mem_append.mpr (.inl ha))) h3, TrsF.ext2 e (fun a ha => o a (List.mem_append.mpr (.inr ha))) h4⟩
end
theorem trP_copy {p g : Addr} {N : Int} {S S1 : Sto} {d t : D} {fp : List Addr} (hp : IsPool S p g N) (h : TrF S1 d t fp) (fr : ∀ a, a ∈ fp → S a = none) : TrP p g S1 d t := fun S' e => (TrF.ext2 e (fun a ha => isPool_off hp (fr a ha)) h).tr
theorem TrP.grow {p g : Addr} {S S' : Sto} {d t : D} (h : TrP p g S d t) (e : Ext2 p g S S') : TrP p g S' d t := fun S2 e2 => h S2 (e.trans e2)
theorem TrP.tr {p g : Addr} {S : Sto} {d t : D} (h : TrP p g S d t) : Tr S d t := h S Ext2.refl
end K41
set_option Elab.async false
set_option linter.all false
set_option maxRecDepth 100000
set_option maxHeartbeats 1000000
namespace K41
open PySem PySem.Spec PyProof.Rows L2 DL
/-! ### the plain law: when a bucket lets all by -/
def sOk (R e b0 : Int) : Int → List (Int × Int) → Prop
  | _, [] => True
  | T, p :: r => T + p.2 - tb e b0 p.1 ≤ R ∧ sOk R e b0 (T + p.2) r
def prs (R e : Int) : List (Int × Int) → Prop
  | [] => True
  | p :: r => sOk R e p.1 0 (p :: r) ∧ prs R e r
def okF (R e : Int) : Int → Int → List (Int × Int) → Prop
  | _, _, [] => True
  | d, ti, p :: r => max 0 (d - tb e ti p.1) + p.2 ≤ R ∧ okF R e (max 0 (d - tb e ti p.1) + p.2) p.1 r
theorem run_more {R e : Int} : ∀ {l : List (Int × Int)} {t ti : Int} {bs : List Bool}, (l.foldl (bStep R e) (t, ti, bs)).2.2 = bs ++ (l.foldl (bStep R e) (t, ti, [])).2.2
  | [], _, _, _ => by simp
  | p :: r, t, ti, bs => by
    rw [List.foldl_cons, List.foldl_cons]
    show (r.foldl (bStep R e) (_, _, bs ++ [_])).2.2 = bs ++ (r.foldl (bStep R e) (_, _, [] ++ [_])).2.2
    rw [run_more (bs := bs ++ _), run_more (bs := [] ++ _), List.append_assoc, List.nil_append]
theorem lets_okF {R e : Int} : ∀ {l : List (Int × Int)} {d ti : Int}, ((l.foldl (bStep R e) (R - d, ti, [])).2.2.all id = true ↔ okF R e d ti l)
  | [], _, _ => by simp [okF]
  | (b, m) :: r, d, ti => by
    have e1 : min R (R - d + tb e ti b) = R - max 0 (d - tb e ti b) := by omega
    rw [List.foldl_cons]
    show ((r.foldl (bStep R e) ((if m ≤ min R (R - d + tb e ti b) then min R (R - d + tb e ti b) - m else min R (R - d + tb e ti b)), b, [] ++ [decide (m ≤ min R (R - d + tb e ti b))])).2.2.all id = true ↔ max 0 (d - tb e ti b) + m ≤ R ∧ okF R e (max 0 (d - tb e ti b) + m) b r)
    rw [run_more, e1]
    generalize max 0 (d - tb e ti b) = x
    by_cases h : m ≤ R - x
    · rw [if_pos h, decide_eq_true h, show R - x - m = R - (x + m) by omega, List.nil_append, List.cons_append, List.nil_append, List.all_cons]
      rw [show id true = true from rfl, Bool.true_and, lets_okF]
      exact ⟨fun z => ⟨by omega, z⟩, fun z => z.2⟩
    · rw [decide_eq_false h, List.nil_append, List.cons_append, List.all_cons]
      rw [show id false = false from rfl, Bool.false_and]
      exact ⟨fun z => (by cases z), fun z => absurd z.1 (by omega)⟩
theorem tb_add {e a b c : Int} : tb e a c = tb e a b + tb e b c := by unfold tb; omega
theorem sOk_max {R e b0 : Int} : ∀ {l : List (Int × Int)} {x y : Int}, sOk R e b0 (max x y) l ↔ sOk R e b0 x l ∧ sOk R e b0 y l
  | [], _, _ => ⟨fun _ => ⟨trivial, trivial⟩, fun _ => trivial⟩
  | p :: r, x, y => by
    show (max x y + p.2 - tb e b0 p.1 ≤ R ∧ sOk R e b0 (max x y + p.2) r) ↔ (x + p.2 - tb e b0 p.1 ≤ R ∧ sOk R e b0 (x + p.2) r) ∧ (y + p.2 - tb e b0 p.1 ≤ R ∧ sOk R e b0 (y + p.2) r)
    rw [show max x y + p.2 = max (x + p.2) (y + p.2) by omega, sOk_max]
    constructor
    · rintro ⟨h1, h2, h3⟩; exact ⟨⟨by omega, h2⟩, ⟨by omega, h3⟩⟩
    · rintro ⟨⟨h1, h2⟩, ⟨h3, h4⟩⟩; exact ⟨by omega, h2, h4⟩
theorem sOk_from {R e b0 b : Int} : ∀ {l : List (Int × Int)} {T : Int}, sOk R e b (T - tb e b0 b) l ↔ sOk R e b0 T l
  | [], _ => Iff.rfl
  | p :: r, T => by
    show (T - tb e b0 b + p.2 - tb e b p.1 ≤ R ∧ sOk R e b (T - tb e b0 b + p.2) r) ↔ (T + p.2 - tb e b0 p.1 ≤ R ∧ sOk R e b0 (T + p.2) r)
    rw [show T - tb e b0 b + p.2 = T + p.2 - tb e b0 b by omega, sOk_from, tb_add (a := b0) (b := b) (c := p.1)]
    constructor
    · rintro ⟨h1, h2⟩; exact ⟨by omega, h2⟩
    · rintro ⟨h1, h2⟩; exact ⟨by omega, h2⟩
theorem okF_iff {R e : Int} : ∀ {l : List (Int × Int)} {d ti : Int}, okF R e d ti l ↔ sOk R e ti d l ∧ prs R e l
  | [], _, _ => ⟨fun _ => ⟨trivial, trivial⟩, fun _ => trivial⟩
  | (b, m) :: r, d, ti => by
    have z : tb e b b = 0 := by unfold tb; omega
    show (max 0 (d - tb e ti b) + m ≤ R ∧ okF R e (max 0 (d - tb e ti b) + m) b r) ↔ (d + m - tb e ti b ≤ R ∧ sOk R e ti (d + m) r) ∧ ((0 + m - tb e b b ≤ R ∧ sOk R e b (0 + m) r) ∧ prs R e r)
    rw [okF_iff, show max 0 (d - tb e ti b) + m = max (0 + m) (d + m - tb e ti b) by omega, sOk_max, sOk_from, z]
    constructor
    · rintro ⟨h1, ⟨h2, h3⟩, h4⟩; exact ⟨⟨by omega, h3⟩, ⟨by omega, h2⟩, h4⟩
    · rintro ⟨⟨h1, h2⟩, ⟨h3, h4⟩, h5⟩; exact ⟨by omega, ⟨h4, h2⟩, h5⟩
theorem sOk_earlier {R e b0 b : Int} (h : 0 ≤ tb e b0 b) : ∀ {l : List (Int × Int)} {T : Int}, sOk R e b T l → sOk R e b0 T l
  | [], _, _ => trivial
  | p :: r, T, ⟨h1, h2⟩ => ⟨by have := tb_add (e := e) (a := b0) (b := b) (c := p.1); omega, sOk_earlier h h2⟩
theorem fold_le {R e b0 : Int} : ∀ {l : List (Int × Int)} {T M : Int}, (l.foldl (inF e b0) (T, M)).2 ≤ R ↔ M ≤ R ∧ sOk R e b0 T l
  | [], _, _ => ⟨fun h => ⟨h, trivial⟩, fun h => h.1⟩
  | p :: r, T, M => by
    rw [List.foldl_cons]
    show (r.foldl (inF e b0) (T + p.2, max M (T + p.2 - tb e b0 p.1))).2 ≤ R ↔ M ≤ R ∧ (T + p.2 - tb e b0 p.1 ≤ R ∧ sOk R e b0 (T + p.2) r)
    rw [fold_le]
    constructor
    · rintro ⟨h1, h2⟩; exact ⟨by omega, by omega, h2⟩
    · rintro ⟨h1, h2, h3⟩; exact ⟨by omega, h3⟩
theorem nbGo_le {R e : Int} : ∀ {l : List (Int × Int)} {M : Int}, nbGo e M l ≤ R ↔ M ≤ R ∧ prs R e l
  | [], _ => ⟨fun h => ⟨h, trivial⟩, fun h => h.1⟩
  | p :: r, M => by
    show nbGo e ((p :: r).foldl (inF e p.1) (0, M)).2 r ≤ R ↔ M ≤ R ∧ (sOk R e p.1 0 (p :: r) ∧ prs R e r)
    rw [nbGo_le, fold_le, and_assoc]
theorem nb_le {R e : Int} {l : List (Int × Int)} : nbF e l ≤ R ↔ 0 ≤ R ∧ prs R e l := nbGo_le
theorem lets_iff {R e : Int} {l : List (Int × Int)} (hR : 0 ≤ R) (he : 1 ≤ e) (hl : AsksG l) : (letsF R e l).all id = true ↔ nbF e l ≤ R := by
  have h1 := lets_okF (R := R) (e := e) (l := l) (d := 0) (ti := 0)
  rw [Int.sub_zero] at h1
  unfold letsF bRun
  rw [h1, okF_iff, nb_le]
  constructor
  · rintro ⟨_, h⟩; exact ⟨hR, h⟩
  · rintro ⟨_, h⟩
    refine ⟨?_, h⟩
    cases l with
    | nil => trivial
    | cons p r =>
      have hb := (hl.2.1 p List.mem_cons_self).1
      refine sOk_earlier ?_ h.1
      unfold tb
      have := Int.ediv_nonneg hb (show 0 ≤ e by omega)
      simp; omega
theorem sOk_bound {R e b0 : Int} (he : 1 ≤ e) : ∀ {l : List (Int × Int)} {T : Int}, (∀ p, p ∈ l → b0 ≤ p.1 ∧ p.2 ≤ 1000) → T + 1000 * (l.length : Int) ≤ R → (l.length = 0 ∨ True) → sOk R e b0 T l
  | [], _, _, _, _ => trivial
  | p :: r, T, h, hl, _ => by
    obtain ⟨h1, h2⟩ := h p List.mem_cons_self
    have h3 : b0 / e ≤ p.1 / e := Int.ediv_le_ediv (by omega) h1
    have h4 : ((p :: r).length : Int) = (r.length : Int) + 1 := by rw [List.length_cons]; omega
    rw [h4] at hl
    refine ⟨by unfold tb; omega, sOk_bound he (fun q hq => h q (List.mem_cons_of_mem _ hq)) (by omega) (.inr trivial)⟩
theorem prs_bound {e : Int} (he : 1 ≤ e) : ∀ {l : List (Int × Int)} {R : Int}, (∀ p, p ∈ l → p.2 ≤ 1000) → l.Pairwise (fun a b => a.1 ≤ b.1) → 1000 * (l.length : Int) ≤ R → prs R e l
  | [], _, _, _, _ => trivial
  | p :: r, R, h, hp, hl => by
    have hp' := List.pairwise_cons.mp hp
    have h4 : ((p :: r).length : Int) = (r.length : Int) + 1 := by rw [List.length_cons]; omega
    refine ⟨sOk_bound he (fun q hq => ⟨?_, h q hq⟩) (by omega) (.inr trivial), prs_bound he (fun q hq => h q (List.mem_cons_of_mem _ hq)) hp'.2 (by rw [h4] at hl; omega)⟩
    cases hq with
    | head => exact Int.le_refl _
    | tail _ hq => exact hp'.1 q hq
theorem nb_range {e : Int} (he : 1 ≤ e) {l : List (Int × Int)} (hl : AsksG l) : 0 ≤ nbF e l ∧ nbF e l ≤ 40000 :=
  ⟨(nb_le.mp (Int.le_refl _)).1, nb_le.mpr ⟨by decide, prs_bound he (fun p hp => (hl.2.1 p hp).2.2.2) hl.2.2 (by have := hl.1; omega)⟩⟩
theorem cutD_from {xs : List D} {i : Int} (h : 0 ≤ i) : DL.cutD xs (some i) none = xs.drop i.toNat := by
  unfold DL.cutD
  rw [sIx_pos h, HT.sIx_none]
  by_cases q : i.toNat ≤ xs.length
  · rw [Nat.min_eq_left q, List.take_of_length_le]
    rw [List.length_drop]; exact Nat.le_refl _
  · rw [Nat.min_eq_right (by omega), List.drop_length, List.drop_eq_nil_of_le (by omega), List.take_nil]
end K41
set_option Elab.async false
set_option linter.all false
set_option maxRecDepth 100000
set_option maxHeartbeats 1000000
namespace K41
open PySem PySem.Spec PyProof.Rows L2 DL

/-- the slot behind the last letter of the asks -/
def Gv (s : Int) (l : List (Int × Int)) : Int := l.foldl (fun g p => max (p.1 * s) g + p.2) 0
theorem gv_take {s : Int} {l : List (Int × Int)} {i : Nat} {p : Int × Int} (h : l[i]? = some p) : Gv s (l.take (i + 1)) = max (p.1 * s) (Gv s (l.take i)) + p.2 := by
  unfold Gv
  rw [List.take_add_one, h]; simp
/-- what the program's steps tell -/
theorem ends_at {s : Int} (hs : 1 ≤ s) {l : List (Int × Int)} (hl : ∀ p, p ∈ l → 0 ≤ p.1 ∧ 1 ≤ p.2) : ∀ i, i ≤ l.length → ∃ tick served acc, (l.take i).foldl (endStep s) (0, 0, []) = (tick, served, acc) ∧
    tick * s + served = Gv s (l.take i) ∧ 0 ≤ served ∧ served ≤ s ∧ (served = 0 → tick = 0) ∧ 0 ≤ tick ∧ acc = (List.range i).map (fun k => (Gv s (l.take (k + 1)) - 1) / s)
  | 0, _ => ⟨0, 0, [], rfl, by simp [Gv], Int.le_refl 0, by omega, fun _ => rfl, Int.le_refl 0, rfl⟩
  | i + 1, hi => by
    obtain ⟨tick, served, acc, e1, e2, h3, h4, h5, h6, e7⟩ := ends_at hs hl i (by omega)
    obtain ⟨⟨b, m⟩, hp⟩ : ∃ p, l[i]? = some p := ⟨_, List.getElem?_eq_getElem (by omega)⟩
    obtain ⟨hb, hm⟩ := hl _ (List.mem_of_getElem? hp)
    have g1 := gv_take (s := s) hp
    dsimp only at g1 hb hm
    have step : (l.take (i + 1)).foldl (endStep s) (0, 0, []) = endStep s (tick, served, acc) (b, m) := by
      rw [List.take_add_one, hp, List.foldl_append, e1]; rfl
    have key : ∀ t2 s2 : Int, 0 ≤ t2 → 0 ≤ s2 → t2 * s + s2 = max (b * s) (Gv s (l.take i)) → (t2 + (s2 + m - 1) / s = (Gv s (l.take (i + 1)) - 1) / s) ∧
        ((t2 + (s2 + m - 1) / s) * s + ((s2 + m - 1) % s + 1) = Gv s (l.take (i + 1))) ∧ 0 ≤ (s2 + m - 1) % s ∧ (s2 + m - 1) % s < s ∧ 0 ≤ t2 + (s2 + m - 1) / s := fun t2 s2 q1 q2 q3 => by
      have a1 : Gv s (l.take (i + 1)) - 1 = (s2 + m - 1) + t2 * s := by rw [g1, ← q3]; omega
      have a2 : (Gv s (l.take (i + 1)) - 1) / s = (s2 + m - 1) / s + t2 := by rw [a1, Int.add_mul_ediv_right _ _ (by omega)]
      have a3 := Int.emod_add_mul_ediv (s2 + m - 1) s
      have a4 : 0 ≤ (s2 + m - 1) / s := Int.ediv_nonneg (by omega) (by omega)
      refine ⟨by omega, ?_, Int.emod_nonneg _ (by omega), Int.emod_lt_of_pos _ (by omega), by omega⟩
      rw [Int.add_mul]
      have a5 : (s2 + m - 1) / s * s = s * ((s2 + m - 1) / s) := Int.mul_comm _ _
      omega
    have fin : ∀ t2 s2 : Int, (if tick < b then b else tick) = t2 → (if tick < b then 0 else served) = s2 → 0 ≤ t2 → 0 ≤ s2 → t2 * s + s2 = max (b * s) (Gv s (l.take i)) → ∃ tick served acc, (l.take (i + 1)).foldl (endStep s) (0, 0, []) = (tick, served, acc) ∧
        tick * s + served = Gv s (l.take (i + 1)) ∧ 0 ≤ served ∧ served ≤ s ∧ (served = 0 → tick = 0) ∧ 0 ≤ tick ∧ acc = (List.range (i + 1)).map (fun k => (Gv s (l.take (k + 1)) - 1) / s) := fun t2 s2 z1 z2 q1 q2 q3 => by
      obtain ⟨k1, k2, k3, k4, k5⟩ := key t2 s2 q1 q2 q3
      refine ⟨t2 + (s2 + m - 1) / s, (s2 + m - 1) % s + 1, acc ++ [t2 + (s2 + m - 1) / s], ?_, k2, by omega, by omega, by omega, k5, ?_⟩
      · rw [step]
        unfold endStep
        simp only [z1, z2]
      · rw [List.range_succ, List.map_append, ← e7, k1]; rfl
    by_cases c : tick < b
    · refine fin b 0 (if_pos c) (if_pos c) hb (Int.le_refl 0) ?_
      have : (tick + 1) * s ≤ b * s := Int.mul_le_mul_of_nonneg_right (by omega) (by omega)
      rw [Int.add_mul, Int.one_mul] at this
      omega
    · refine fin tick served (if_neg c) (if_neg c) h6 h3 ?_
      have : b * s ≤ tick * s := Int.mul_le_mul_of_nonneg_right (by omega) (by omega)
      omega
theorem ends_eq {s : Int} (hs : 1 ≤ s) {l : List (Int × Int)} (hl : ∀ p, p ∈ l → 0 ≤ p.1 ∧ 1 ≤ p.2) : endsF s l = (List.range l.length).map (fun k => (Gv s (l.take (k + 1)) - 1) / s) := by
  obtain ⟨tick, served, acc, e1, _, _, _, _, _, e7⟩ := ends_at hs hl l.length (Nat.le_refl _)
  rw [List.take_length] at e1
  unfold endsF
  rw [e1]; exact e7
/-- how many letters of ask k wait at the tick T -/
def wk (s T : Int) (l : List (Int × Int)) (k : Nat) : Nat := match l[k]? with
  | some p => (min p.2 (Gv s (l.take (k + 1)) - T * s)).toNat
  | none => 0
/-- who waits at the tick T, of the first n asks -/
def WL (s T : Int) (l : List (Int × Int)) : Nat → List Int
  | 0 => []
  | n + 1 => WL s T l n ++ List.replicate (wk s T l n) (n : Int)
section
variable {s T : Int} {l : List (Int × Int)}
theorem wl_len (hs : 1 ≤ s) (hl : ∀ p, p ∈ l → 0 ≤ p.1 ∧ 1 ≤ p.2) : ∀ n, n ≤ l.length → (∀ k p, k < n → l[k]? = some p → p.1 ≤ T) → ((WL s T l n).length : Int) = max 0 (Gv s (l.take n) - T * s) ∨ (n = 0 ∧ 0 < - (T * s))
  | 0, _, _ => by
    by_cases h : 0 < - (T * s)
    · exact .inr ⟨rfl, h⟩
    · left
      simp [WL, Gv]; omega
  | n + 1, hn, hb => by
    obtain ⟨⟨b, m⟩, hp⟩ : ∃ p, l[n]? = some p := ⟨_, List.getElem?_eq_getElem (by omega)⟩
    have g1 := gv_take (s := s) hp
    obtain ⟨z1, z2⟩ := hl _ (List.mem_of_getElem? hp)
    have hbT := hb n _ (Nat.lt_succ_self n) hp
    dsimp only at g1 z1 z2 hbT
    have hm : b * s ≤ T * s := Int.mul_le_mul_of_nonneg_right hbT (by omega)
    have hb0 : 0 ≤ b * s := Int.mul_nonneg z1 (by omega)
    have ew : wk s T l n = (min m (Gv s (l.take (n + 1)) - T * s)).toNat := by unfold wk; rw [hp]
    left
    show ((WL s T l n ++ List.replicate (wk s T l n) (n : Int)).length : Int) = _
    rw [List.length_append, List.length_replicate, ew]
    rcases wl_len hs hl n (by omega) (fun k p hk => hb k p (by omega)) with h | ⟨h, h2⟩
    · omega
    · omega
theorem wl_len' (hs : 1 ≤ s) (hT : 0 ≤ T) (hl : ∀ p, p ∈ l → 0 ≤ p.1 ∧ 1 ≤ p.2) {n : Nat} (hn : n ≤ l.length) (hb : ∀ k p, k < n → l[k]? = some p → p.1 ≤ T) : ((WL s T l n).length : Int) = max 0 (Gv s (l.take n) - T * s) := by
  have : 0 ≤ T * s := Int.mul_nonneg hT (by omega)
  rcases wl_len hs hl n hn hb with h | ⟨_, h⟩
  · exact h
  · omega
theorem wl_drop (hs : 1 ≤ s) (hT : 0 ≤ T) (hl : ∀ p, p ∈ l → 0 ≤ p.1 ∧ 1 ≤ p.2) : ∀ n, n ≤ l.length → (∀ k p, k < n → l[k]? = some p → p.1 ≤ T) → (WL s T l n).drop s.toNat = WL s (T + 1) l n
  | 0, _, _ => by simp [WL]
  | n + 1, hn, hb => by
    have hb' : ∀ k p, k < n → l[k]? = some p → p.1 ≤ T := fun k p hk => hb k p (by omega)
    have ih := wl_drop hs hT hl n (by omega) hb'
    have len := wl_len' (s := s) hs hT hl (n := n) (by omega) hb'
    obtain ⟨⟨b, m⟩, hp⟩ : ∃ p, l[n]? = some p := ⟨_, List.getElem?_eq_getElem (by omega)⟩
    have g1 := gv_take (s := s) hp
    obtain ⟨z1, z2⟩ := hl _ (List.mem_of_getElem? hp)
    have hbT := hb n _ (Nat.lt_succ_self n) hp
    dsimp only at g1 z1 z2 hbT
    have hm : b * s ≤ T * s := Int.mul_le_mul_of_nonneg_right hbT (by omega)
    have e1 : (T + 1) * s = T * s + s := by rw [Int.add_mul, Int.one_mul]
    have ew : ∀ T', wk s T' l n = (min m (Gv s (l.take (n + 1)) - T' * s)).toNat := fun T' => by unfold wk; rw [hp]
    show (WL s T l n ++ List.replicate (wk s T l n) (n : Int)).drop s.toNat = WL s (T + 1) l n ++ List.replicate (wk s (T + 1) l n) (n : Int)
    rw [List.drop_append, ih, List.drop_replicate]
    congr 2
    rw [ew T, ew (T + 1), e1]
    omega
theorem wl_mem : ∀ {n : Nat} {k : Int}, k ∈ WL s T l n → 0 ≤ k ∧ k < n ∧ 0 < wk s T l k.toNat
  | 0, k, h => by simp [WL] at h
  | n + 1, k, h => by
    have h' : k ∈ WL s T l n ++ List.replicate (wk s T l n) (n : Int) := h
    rcases List.mem_append.mp h' with h | h
    · obtain ⟨a, b, c⟩ := wl_mem h
      exact ⟨a, by omega, c⟩
    · obtain ⟨h1, h2⟩ := List.mem_replicate.mp h
      subst h2
      exact ⟨by omega, by omega, by simpa using Nat.pos_of_ne_zero h1⟩
theorem wl_split : ∀ {n k : Nat}, k < n → 0 < wk s T l k → ∃ r, WL s T l n = WL s T l k ++ (k : Int) :: r
  | 0, k, h, _ => absurd h (Nat.not_lt_zero _)
  | n + 1, k, h, w => by
    by_cases e : k = n
    · subst e
      refine ⟨List.replicate (wk s T l k - 1) (k : Int), ?_⟩
      show WL s T l k ++ List.replicate (wk s T l k) (k : Int) = _
      rw [← List.replicate_succ, show wk s T l k - 1 + 1 = wk s T l k by omega]
    · obtain ⟨r, hr⟩ := wl_split (n := n) (k := k) (by omega) w
      refine ⟨r ++ List.replicate (wk s T l n) (n : Int), ?_⟩
      show WL s T l n ++ List.replicate (wk s T l n) (n : Int) = _
      rw [hr]; simp
/-- whose last letter is served in this tick is served in it -/
theorem wl_served (hs : 1 ≤ s) (hT : 0 ≤ T) (hl : ∀ p, p ∈ l → 0 ≤ p.1 ∧ 1 ≤ p.2) {n k : Nat} (hn : n ≤ l.length) (hb : ∀ k p, k < n → l[k]? = some p → p.1 ≤ T) (hk : k < n)
    (h1 : T * s < Gv s (l.take (k + 1))) (h2 : Gv s (l.take (k + 1)) ≤ (T + 1) * s) : (k : Int) ∈ (WL s T l n).take s.toNat := by
  obtain ⟨⟨b, m⟩, hp⟩ : ∃ p, l[k]? = some p := ⟨_, List.getElem?_eq_getElem (by omega)⟩
  have g1 := gv_take (s := s) hp
  obtain ⟨z1, z2⟩ := hl _ (List.mem_of_getElem? hp)
  dsimp only at g1 z1 z2
  have e1 : (T + 1) * s = T * s + s := by rw [Int.add_mul, Int.one_mul]
  have ew : wk s T l k = (min m (Gv s (l.take (k + 1)) - T * s)).toNat := by unfold wk; rw [hp]
  obtain ⟨r, hr⟩ := wl_split (s := s) (T := T) (l := l) hk (by omega)
  have len := wl_len' (s := s) hs hT hl (n := k) (by omega) (fun k p hk => hb k p (by omega))
  rw [hr, List.take_append]
  refine List.mem_append.mpr (.inr ?_)
  have : 0 < s.toNat - (WL s T l k).length := by omega
  obtain ⟨z, hz⟩ : ∃ z, s.toNat - (WL s T l k).length = z + 1 := ⟨_, (Nat.succ_pred_eq_of_pos this).symm⟩
  rw [hz, List.take_succ_cons]
  exact List.mem_cons_self
theorem wk_new {n : Nat} {b m : Int} (hs : 1 ≤ s) (hp : l[n]? = some (b, m)) (hm : 1 ≤ m) (hb : T ≤ b) : wk s T l n = m.toNat := by
  have g1 := gv_take (s := s) hp
  dsimp only at g1
  have : T * s ≤ b * s := Int.mul_le_mul_of_nonneg_right hb (by omega)
  unfold wk
  rw [hp]
  show (min m (Gv s (l.take (n + 1)) - T * s)).toNat = m.toNat
  omega
theorem wk_none {k : Nat} (h : Gv s (l.take (k + 1)) ≤ T * s) : wk s T l k = 0 := by
  unfold wk
  split <;> omega
theorem wl_le (hl : ∀ p, p ∈ l → 0 ≤ p.1 ∧ 1 ≤ p.2) : ∀ n, n ≤ l.length → ((WL s T l n).length : Int) ≤ ((l.take n).map Prod.snd).sum
  | 0, _ => by simp [WL]
  | n + 1, hn => by
    obtain ⟨⟨b, m⟩, hp⟩ : ∃ p, l[n]? = some p := ⟨_, List.getElem?_eq_getElem (by omega)⟩
    obtain ⟨z1, z2⟩ := hl _ (List.mem_of_getElem? hp)
    have ih := wl_le hl n (by omega)
    have ew : wk s T l n = (min m (Gv s (l.take (n + 1)) - T * s)).toNat := by unfold wk; rw [hp]
    show ((WL s T l n ++ List.replicate (wk s T l n) (n : Int)).length : Int) ≤ _
    have e9 : (List.map Prod.snd (some (b, m)).toList).sum = m := by simp
    rw [List.length_append, List.length_replicate, List.take_add_one, hp, List.map_append, List.sum_append, ew, e9]
    dsimp only at z2
    omega
theorem sum_take_le (hl : ∀ p, p ∈ l → 0 ≤ p.1 ∧ 1 ≤ p.2) {n : Nat} : ((l.take n).map Prod.snd).sum ≤ (l.map Prod.snd).sum := by
  have e : (l.map Prod.snd).sum = ((l.take n).map Prod.snd).sum + ((l.drop n).map Prod.snd).sum := by
    rw [← List.sum_append, ← List.map_append, List.take_append_drop]
  have : ∀ r : List (Int × Int), (∀ p, p ∈ r → 0 ≤ p.1 ∧ 1 ≤ p.2) → 0 ≤ (r.map Prod.snd).sum := fun r => by
    induction r with
    | nil => intro _; exact Int.le_refl 0
    | cons x r ih =>
      intro h
      have := ih fun p hp => h p (List.mem_cons_of_mem _ hp)
      have := (h x List.mem_cons_self).2
      rw [List.map_cons, List.sum_cons]; omega
  have := this (l.drop n) fun p hp => hl p (List.mem_of_mem_drop hp)
  omega
theorem gv_le (hs : 1 ≤ s) {B : Int} (hB : 0 ≤ B) (hl : ∀ p, p ∈ l → p.1 ≤ B) (hm : ∀ p, p ∈ l → 1 ≤ p.2) : ∀ n, n ≤ l.length → Gv s (l.take n) ≤ B * s + ((l.take n).map Prod.snd).sum
  | 0, _ => by
    have : 0 ≤ B * s := Int.mul_nonneg hB (by omega)
    simpa [Gv] using this
  | n + 1, hn => by
    obtain ⟨⟨b, m⟩, hp⟩ : ∃ p, l[n]? = some p := ⟨_, List.getElem?_eq_getElem (by omega)⟩
    have ih := gv_le hs hB hl hm n (by omega)
    have hb := hl _ (List.mem_of_getElem? hp)
    have hm1 := hm _ (List.mem_of_getElem? hp)
    have g1 := gv_take (s := s) hp
    dsimp only at g1 hb hm1
    have h1 : b * s ≤ B * s := Int.mul_le_mul_of_nonneg_right hb (by omega)
    have : ∀ r : List (Int × Int), (∀ p, p ∈ r → 1 ≤ p.2) → 0 ≤ (r.map Prod.snd).sum := fun r => by
      induction r with
      | nil => intro _; exact Int.le_refl 0
      | cons x r ih =>
        intro h
        have := ih fun p hp => h p (List.mem_cons_of_mem _ hp)
        have := h x List.mem_cons_self
        rw [List.map_cons, List.sum_cons]; omega
    have := this (l.take n) fun p hp => hm p (List.mem_of_mem_take hp)
    have e9 : (List.map Prod.snd (some (b, m)).toList).sum = m := by simp
    rw [g1, List.take_add_one, hp, List.map_append, List.sum_append, e9]
    omega
/-- the tick in which the last letter is served -/
theorem end_tick (hs : 1 ≤ s) {g : Int} (h1 : T * s < g) (h2 : g ≤ (T + 1) * s) : (g - 1) / s = T := by
  have e1 : (T + 1) * s = T * s + s := by rw [Int.add_mul, Int.one_mul]
  have : g - 1 = (g - 1 - T * s) + T * s := by omega
  rw [this, Int.add_mul_ediv_right _ _ (by omega), Int.ediv_eq_zero_of_lt (by omega) (by omega)]
  omega
/-- an ask that has not come has no letter served -/
theorem gv_late {n : Nat} {b m : Int} (hs : 1 ≤ s) (hp : l[n]? = some (b, m)) (hm : 1 ≤ m) (hb : T ≤ b) : T * s < Gv s (l.take (n + 1)) := by
  have g1 := gv_take (s := s) hp
  dsimp only at g1
  have : T * s ≤ b * s := Int.mul_le_mul_of_nonneg_right hb (by omega)
  omega
end
end K41
set_option Elab.async false
set_option linter.all false
set_option maxRecDepth 100000
set_option maxHeartbeats 1000000
namespace K41
open PySem PySem.Spec PyProof.Rows L2 DL
theorem len_least_room (c : Cl) : ∀ ds S Q E, sp_least_room c ds S Q E → ds.length = 2 := by
  rintro ds S Q E ⟨_, _, rfl, _⟩; rfl
theorem rd_least_room (c : Cl) : ∀ ds S Q X1, sp_least_room c ds S Q X1 → w_least_room c (startD N_least_room_ ds) S (endQ Q X1) := by
  rintro ds S Q X1 ⟨e0, d, rfl, ke, kd, hE, hA, hg⟩
  show w_least_room c [some e0, some d, none, none, none, none, none, none] S (endQ Q X1)
  unfold w_least_room
  refine seq_k fun q1 n1 r1 _ _ x1 => ?_
  simp only [wDrop, wCall, wCons, wNil, wVar, wC, getV, some!]
  refine ⟨e0, 1, 100, rfl, ke, fun hin => n1 _ _ ?_, fun hin => ?_⟩
  · obtain ⟨each, rfl, he⟩ := in_each hin
    refine seq_k fun q1 n1 r1 _ _ x1 => ?_
    simp only [wSet, wCall, wCons, wNil, wVar, getV, setV, some!]
    refine ⟨d, rfl, kd, fun l hl => n1 _ _ ?_, fun z hz S' es => ?_⟩
    · have h := hg l each rfl he hl
      have hlen := asks_len hl
      refine seq_k fun q1 n1 r1 _ _ x1 => ?_
      simp only [wSet, wC, setV]
      refine n1 _ _ ?_
      refine seq_k fun q1 n1 r1 _ _ x1 => ?_
      simp only [wFor, wRg1, wCB, wCons, wNil, wVar, getV, some!, oLen, one, seqA, seqL, seqM, asI, List.length_map]
      refine ⟨by omega, ?_⟩
      refine forI_invq (fun i e S' => ∃ most x4 x5 x6 x7, nbGo each most (l.drop i) = nbF each l ∧ S' = S ∧ e = [some (.int each), some d, some (.lst (l.map dPair)), some (.int most), x4, x5, x6, x7]) ⟨0, none, none, none, none, rfl, rfl, rfl⟩ (fun _ _ _ _ => trivial) ?_ ?_
      · rintro i d' e' S' hi ⟨most, x4, x5, x6, x7, hm, rfl, rfl⟩ q hq _ _ _ _
        obtain ⟨hlt, rfl⟩ := rngD_get hi
        have hil : i < l.length := by omega
        obtain ⟨⟨b0, m0⟩, hp⟩ : ∃ p, l[i]? = some p := ⟨_, List.getElem?_eq_getElem hil⟩
        have hp' : (l.map dPair)[i]? = some (dPair (b0, m0)) := by rw [List.getElem?_map, hp]; rfl
        rw [Int.zero_add]
        simp only [gN, setV]
        refine seq_k fun q2 n2 _ _ _ _ => ?_
        simp only [wSet, wC, setV]
        refine n2 _ _ ?_
        simp only [wFor, wIt, wSl, wNoP, wP, wVar, getV, some!, oSl, seqA, seqL, seqM, cutD_from (show (0 : Int) ≤ (i : Int) by omega), Int.toNat_natCast, ← List.map_drop]
        refine forI_invq (fun j e S2 => ∃ tot most2 x6 x7, ((l.drop i).take j).foldl (inF each b0) (0, most) = (tot, most2) ∧ S2 = S' ∧ e = [some (.int each), some d, some (.lst (l.map dPair)), some (.int most2), some (.int (i : Int)), some (.int tot), x6, x7]) ⟨0, most, x6, x7, rfl, rfl, rfl⟩ (fun _ _ _ _ => trivial) ?_ ?_
        · rintro j d' e' S' hj ⟨tot, most2, x6, x7, ef, rfl, rfl⟩ q5 hq5 _ _ _ _
          rw [List.getElem?_map] at hj
          obtain ⟨⟨b, m⟩, hpj, rfl⟩ := Option.map_eq_some_iff.mp hj
          have key := fold_take (inF each b0) (0, most) hpj
          rw [ef] at key
          simp only [gT, gAll, gN, setV, dPair]
          refine ⟨rfl, ?_⟩
          simp only [wSeq, wAug, wSet, wCB, wCall, wBin, wCons, wNil, wVar, wC, getV, setV, some!, oI0, oIx, seqA, seqL, seqM, at_k hp', dPair, (ix2_at (D.int b0) (D.int m0)).1]
          refine ⟨each, b0, b, rfl, he, ?_⟩
          simp only [oSub, oI0, oMax2, two, asI]
          refine hq5 _ _ ⟨_, _, _, _, ?_, rfl, rfl⟩
          rw [key]; rfl
        · rintro e' S' ⟨tot, most2, x6, x7, ef, rfl, rfl⟩
          rw [List.length_map, List.take_length] at ef
          refine hq _ _ ⟨most2, _, _, _, _, ?_, rfl, rfl⟩
          rw [← hm]
          have hdr : l.drop i = (b0, m0) :: l.drop (i + 1) := by
            rw [List.drop_eq_getElem_cons hil]
            rw [List.getElem?_eq_getElem hil] at hp
            rw [Option.some.inj hp]
          rw [hdr]
          show nbGo each most2 (l.drop (i + 1)) = nbGo each (((b0, m0) :: l.drop (i + 1)).foldl (inF each b0) (0, most)).2 (l.drop (i + 1))
          rw [← hdr, ef]
      · rintro e' S' ⟨most, x4, x5, x6, x7, hm, rfl, rfl⟩
        rw [rngD_length, Int.toNat_natCast, List.drop_length] at hm
        refine n1 _ _ ?_
        simp only [wRet, wVar, getV, some!]
        have hm' : most = nbF each l := hm
        rw [hm']
        exact h
    · simp only [xcQ]
      rw [x1]
      exact hA hin z hz S' es
  · simp only [xcQ]
    rw [x1]
    exact hE hin
theorem room_call {c : Cl} {S : Sto} {d t : D} {l : List (Int × Int)} {each : Int} {Q : Qd} {E : XQ} (h : Tr S d t) (ht : PairsT t l) (hl : AsksG l) (he : 1 ≤ each ∧ each ≤ 100) (q : Q (.int (nbF each l)) S) : sp_least_room c [.int each, d] S Q E := by
  have e : asksOf S d = .inl l := by rw [asksOf_tr h, asks_good ht hl]
  have hin : inR 1 100 (.int each) = true := decide_eq_true he
  refine ⟨_, _, rfl, ⟨_, rfl⟩, tr_knAsks h, fun z => ?_, fun _ p hp => ?_, fun l' each' h1 _ hl' => ?_⟩
  · rw [hin] at z; cases z
  · rw [e] at hp; cases hp
  · cases h1
    rw [e] at hl'; cases hl'
    exact q
theorem ends_len {s : Int} (hs : 1 ≤ s) {l : List (Int × Int)} (hl : AsksG l) : (endsF s l).length = l.length := by
  rw [ends_eq hs fun p hp => ⟨(hl.2.1 p hp).1, (hl.2.1 p hp).2.2.1⟩]
  simp
/-- a call of queue_ends with good asks -/
theorem ends_call {c : Cl} {S : Sto} {d t : D} {l : List (Int × Int)} {s : Int} {Q : Qd} {E : XQ} (h : Tr S d t) (ht : PairsT t l) (hl : AsksG l) (hs : 1 ≤ s ∧ s ≤ 100) (q : Q (dT (endsF s l)) S) : sp_queue_ends c [d, .int s] S Q E := by
  have e : asksOf S d = .inl l := by rw [asksOf_tr h, asks_good ht hl]
  have hin : inR 1 100 (.int s) = true := decide_eq_true hs
  refine ⟨d, .int s, rfl, tr_knAsks h, ⟨_, rfl⟩, fun p hp => (by rw [e] at hp; cases hp), fun l' hl' => ?_⟩
  rw [e] at hl'
  cases hl'
  exact ⟨(fun z => by rw [hin] at z; cases z), (fun s' hs' _ => by cases hs'; exact q)⟩
end K41
set_option Elab.async false
set_option linter.all false
set_option maxRecDepth 100000
set_option maxHeartbeats 1000000
namespace K41
open PySem PySem.Spec PyProof.Rows L2 DL
/-! ### asks however held -/
theorem seqA_ext {S S' : Sto} (e : Ext S S') {d : D} {xs : List D} (h : seqA S d = some xs) : seqA S' d = some xs := by
  cases d with
  | ref a => exact seqM_ext (d := .ref a) e h
  | _ => exact h
theorem PAt.ext {S S' : Sto} {d : D} {l : List (Int × Int)} (e : Ext S S') (h : PAt S d l) : PAt S' d l := by
  obtain ⟨xs, h1, h2, h3⟩ := h
  exact ⟨xs, seqA_ext e h1, h2, fun k p hp => let ⟨x, a, b⟩ := h3 k p hp; ⟨x, a, seqA_ext e b⟩⟩
theorem pat_of {S : Sto} {d t : D} {l : List (Int × Int)} (h : Tr S d t) (ht : PairsT t l) : PAt S d l := by
  have two : ∀ {p : Int × Int} {xs : List D}, Trs S xs [.int p.1, .int p.2] → xs = [.int p.1, .int p.2] := fun {p xs} h => by
    obtain ⟨x, r, rfl, h1, y, r2, rfl, h2, h3⟩ := h
    rw [show r2 = [] from h3, show x = _ from h1, show y = _ from h2]
  rcases ht with rfl | rfl
  · obtain ⟨xs, e1, h1⟩ := h
    have := trs_len h1
    rw [List.length_map] at this
    refine ⟨xs, (tr_lst e1).2, this, fun k p hp => ?_⟩
    obtain ⟨x, e2, h2⟩ := trs_get h1 (show (l.map dPairL)[k]? = some (dPairL p) by rw [List.getElem?_map, hp]; rfl)
    obtain ⟨ys, e3, h3⟩ := h2
    exact ⟨x, e2, by rw [(tr_lst e3).2, two h3]⟩
  · obtain ⟨xs, rfl, h1⟩ := h
    have := trs_len h1
    rw [List.length_map] at this
    refine ⟨xs, rfl, this, fun k p hp => ?_⟩
    obtain ⟨x, e2, h2⟩ := trs_get h1 (show (l.map dPair)[k]? = some (dPair p) by rw [List.getElem?_map, hp]; rfl)
    obtain ⟨ys, rfl, h3⟩ := h2
    exact ⟨_, e2, by rw [two h3]; rfl⟩
theorem len__law_ticks (c : Cl) : ∀ ds S Q E, sp__law_ticks c ds S Q E → ds.length = 4 := by
  rintro ds S Q E ⟨_, _, _, _, _, rfl, _⟩; rfl
theorem rd__law_ticks (c : Cl) : ∀ ds S Q X1, sp__law_ticks c ds S Q X1 → w__law_ticks c (startD N__law_ticks_ ds) S (endQ Q X1) := by
  rintro ds S Q X1 ⟨room, each, d0, l, u, rfl, hpa, ⟨⟨hr1, hr2⟩, ⟨he1, he2⟩, hl⟩, ⟨hu1, hu2⟩, h⟩
  have hu0 : 0 ≤ u := by have := last_nn hl; omega
  have hl40 := hl.1
  show w__law_ticks c [some (.int room), some (.int each), some d0, some (.int u), none, none, none, none] S (endQ Q X1)
  unfold w__law_ticks
  refine seq_k fun q1 n1 r1 _ _ x1 => ?_
  simp only [wSet, wVar, getV, setV, some!]
  refine n1 _ _ ?_
  refine seq_k fun q1 n1 r1 _ _ x1 => ?_
  simp only [wSet, wLstM, wNil, setV]
  refine ⟨Nat.zero_le _, fun p hp => n1 _ _ ?_⟩
  refine seq_k fun q1 n1 r1 _ _ x1 => ?_
  simp only [wFor, wRg1, wBin, wVar, wC, getV, some!, oAdd, asI]
  refine ⟨by omega, ?_⟩
  refine forI_invq (fun i e S' => ∃ (n : Nat) (st : Int × Int × List Bool) (tok : Int) (x6 x7 : Option D), (l.take n).foldl (bStep room each) (room, 0, []) = st ∧ n ≤ l.length ∧ (∀ k p, k < n → l[k]? = some p → p.1 < (i : Int)) ∧ (∀ k p, n ≤ k → l[k]? = some p → (i : Int) ≤ p.1) ∧
    ((i = 0 ∧ tok = room ∧ st = (room, 0, [])) ∨ (0 < i ∧ tok = cur room each st ((i : Int) - 1))) ∧ st.1 ≤ room ∧ st.2.2.length = n ∧ S' = put S p (.lst (st.2.2.map D.bl)) ∧
    e = [some (.int room), some (.int each), some d0, some (.int u), some (.int tok), some (.ref p), x6, x7])
    ⟨0, _, room, none, none, rfl, Nat.zero_le _, fun k p hk => absurd hk (Nat.not_lt_zero _), fun k p _ hp => (hl.2.1 p (List.mem_of_getElem? hp)).1, .inl ⟨rfl, rfl, rfl⟩, Int.le_refl _, rfl, rfl, rfl⟩ (fun _ _ _ _ => trivial) ?_ ?_
  · rintro i d e S' hi ⟨n, st, tok, x6, x7, ef, hn, hb1, hb2, htok, hst, hsl, rfl, rfl⟩ q hq _ _ _ _
    obtain ⟨hlt, rfl⟩ := rngD_get hi
    rw [Int.zero_add]
    simp only [gN, setV]
    refine seq_k fun q2 n2 _ _ _ _ => ?_
    have rest : q2.nx [some (.int room), some (.int each), some d0, some (.int u), some (.int (cur room each st (i : Int))), some (.ref p), some (.int (i : Int)), x7] (put S p (.lst (st.2.2.map D.bl))) := by
      refine n2 _ _ ?_
      clear htok
      have fin : ∀ (cm : Nat) (st : Int × Int × List Bool) x7, (l.take cm).foldl (bStep room each) (room, 0, []) = st → cm ≤ l.length → (∀ k p, k < cm → l[k]? = some p → p.1 ≤ (i : Int)) → (∀ k p, cm ≤ k → l[k]? = some p → (i : Int) < p.1) → st.1 ≤ room → st.2.2.length = cm →
          q.nx [some (.int room), some (.int each), some d0, some (.int u), some (.int (cur room each st (i : Int))), some (.ref p), some (.int (i : Int)), x7] (put S p (.lst (st.2.2.map D.bl))) := fun cm st x7 h1 h2 h3 h4 h5 h6 =>
        hq _ _ ⟨cm, st, _, _, _, h1, h2, fun k p hk hp => by have := h3 k p hk hp; omega, fun k p hk hp => by have := h4 k p hk hp; omega, .inr ⟨by omega, by rw [show ((i + 1 : Nat) : Int) - 1 = (i : Int) by omega]⟩, h5, h6, rfl, rfl⟩
      obtain ⟨ys, ey, eyl, _⟩ := hpa.ext (Ext.put (m := .lst (st.2.2.map D.bl)) hp)
      simp only [wFor, wRg2, wCB, wCons, wNil, wVar, getV, some!]
      refine oLen_of (d := .ref p) (xs := st.2.2.map D.bl) (by show (match put S p _ p with | some (MO.lst xs) => some xs | _ => none) = _; rw [put_same]) ?_
      simp only [asI]
      refine oLen_of ey ?_
      rw [List.length_map, hsl, eyl]
      refine ⟨by omega, ?_⟩
      refine forI_invq (fun j e S' => ∃ (st : Int × Int × List Bool) (x7 : Option D), (l.take (n + j)).foldl (bStep room each) (room, 0, []) = st ∧ n + j ≤ l.length ∧ (∀ k p, k < n + j → l[k]? = some p → p.1 ≤ (i : Int)) ∧ st.1 ≤ room ∧ st.2.2.length = n + j ∧ S' = put S p (.lst (st.2.2.map D.bl)) ∧
        e = [some (.int room), some (.int each), some d0, some (.int u), some (.int (cur room each st (i : Int))), some (.ref p), some (.int (i : Int)), x7])
        ⟨st, x7, ef, hn, fun k p hk hp => by have := hb1 k p hk hp; omega, hst, hsl, rfl, rfl⟩ (fun _ _ _ _ => trivial) ?_ ?_
      · rintro j d e S' hj ⟨st, x7, ef, hcj, hbj, hst, hsl, rfl, rfl⟩ q5 hq5 _ hbk _ _
        obtain ⟨hlt2, rfl⟩ := rngD_get hj
        have hj2 : n + j < l.length := by omega
        obtain ⟨⟨b, m⟩, hp2⟩ : ∃ p, l[n + j]? = some p := ⟨_, List.getElem?_eq_getElem hj2⟩
        obtain ⟨ys, ey, eyl, hy⟩ := hpa.ext (Ext.put (m := .lst (st.2.2.map D.bl)) hp)
        obtain ⟨y, hp', ey2⟩ := hy _ _ hp2
        rw [show (n : Int) + (j : Int) = ((n + j : Nat) : Int) by omega]
        obtain ⟨z1, z2, z3, z4⟩ := hl.2.1 _ (List.mem_of_getElem? hp2)
        dsimp only at z1 z2 z3 z4
        have hTb := hb2 _ _ (Nat.le_add_right n j) hp2
        dsimp only at hTb
        have key := fold_take (bStep room each) (room, 0, []) hp2
        rw [ef] at key
        simp only [gN, setV]
        refine seq_k fun q6 n6 _ b6 _ _ => ?_
        simp only [wIf, wTest, wBin, wVar, wC, getV, some!, oIx, ey, at_k hp', ey2, (ix2_at (D.int b) (D.int m)).1, oGt, oI0, decide_eq_true_eq]
        split
        · rename_i g
          simp only [wBreak]
          rw [b6, hbk]
          refine fin _ st _ ef (by omega) hbj (fun k p hk hkp => ?_) hst hsl
          have := sorted_at hl _ _ _ _ hk hp2 hkp
          dsimp only at this
          omega
        · rename_i g
          refine n6 _ _ ?_
          have hb : b = (i : Int) := by omega
          subst hb
          have hbj' : ∀ k p, k < n + (j + 1) → l[k]? = some p → p.1 ≤ (i : Int) := fun k p hk hkp => by
            by_cases e : k < n + j
            · exact hbj k p e hkp
            · have : k = n + j := by omega
              subst this
              rw [hp2] at hkp; cases hkp
              exact Int.le_refl _
          have tz : tb each (i : Int) (i : Int) = 0 := by unfold tb; omega
          have e1 : bStep room each st ((i : Int), m) = (if m ≤ cur room each st (i : Int) then cur room each st (i : Int) - m else cur room each st (i : Int), (i : Int), st.2.2 ++ [decide (m ≤ cur room each st (i : Int))]) := rfl
          have hcr : cur room each st (i : Int) ≤ room := by unfold cur; omega
          have nx : ∀ t2, (if m ≤ cur room each st (i : Int) then cur room each st (i : Int) - m else cur room each st (i : Int)) = t2 → q5.nx [some (.int room), some (.int each), some d0, some (.int u), some (.int t2), some (.ref p), some (.int (i : Int)), some (.int ((n + j : Nat) : Int))]
              (put S p (.lst (st.2.2.map D.bl ++ [.bl (decide (m ≤ cur room each st (i : Int)))]))) := fun t2 ht2 => by
            have h2 : t2 ≤ room := by rw [← ht2]; split <;> omega
            refine hq5 _ _ ⟨bStep room each st ((i : Int), m), some (.int ((n + j : Nat) : Int)), key, by omega, hbj', by rw [e1, ht2]; exact h2, by rw [e1]; simp [hsl]; omega, by rw [e1]; simp, ?_⟩
            have e2 : cur room each (bStep room each st ((i : Int), m)) (i : Int) = t2 := by
              rw [e1, ht2]
              show min room (t2 + tb each (i : Int) (i : Int)) = t2
              rw [tz]; omega
            rw [e2]
          refine seq_k fun q7 n7 _ _ _ _ => ?_
          simp only [wDrop, wMt, wBin, wVar, wC, wCons, wNil, getV, some!, mutL, put_same, put_put, oIx, ey, at_k hp', ey2, (ix2_at (D.int (i : Int)) (D.int m)).2, oLe, oI0, oAppend, one, List.length_map]
          refine ⟨by unfold sizeLine; omega, n7 _ _ ?_⟩
          obtain ⟨ys, ey, eyl, hy⟩ := hpa.ext (Ext.put (m := .lst (st.2.2.map D.bl ++ [.bl (decide (m ≤ cur room each st (i : Int)))])) hp)
          obtain ⟨y, hp', ey2⟩ := hy _ _ hp2
          simp only [wIf, wTest, wBin, wVar, wC, getV, some!, oIx, ey, at_k hp', ey2, (ix2_at (D.int (i : Int)) (D.int m)).2, oLe, oI0, decide_eq_true_eq]
          split
          · rename_i g2
            simp only [wSet, wBin, wVar, wC, getV, setV, some!, oIx, ey, at_k hp', ey2, (ix2_at (D.int (i : Int)) (D.int m)).2, oSub, oI0]
            exact nx _ (if_pos g2)
          · rename_i g2
            simp only [wNext]
            exact nx _ (if_neg g2)
      · rintro e S' ⟨st, x7, ef, hcj, hbj, hst, hsl, rfl, rfl⟩
        rw [rngD_length] at ef hcj hbj hsl
        have e1 : n + ((l.length : Int) - (n : Int)).toNat = l.length := by omega
        rw [e1] at ef hbj hsl
        exact fin _ st _ ef (Nat.le_refl _) hbj (fun k p hk hkp => absurd (lt_of_some hkp) (by omega)) hst hsl
    have go : ∀ t2, cur room each st (i : Int) = t2 → q2.nx [some (.int room), some (.int each), some d0, some (.int u), some (.int t2), some (.ref p), some (.int (i : Int)), x7] (put S p (.lst (st.2.2.map D.bl))) := fun t2 e => by rw [← e]; exact rest
    have cu : cur room each st (i : Int) = (if 0 < (i : Int) ∧ (i : Int) % each = 0 ∧ tok < room then tok + 1 else tok) := by
      rcases htok with ⟨hi0, ht0, hs0⟩ | ⟨h0, rfl⟩
      · subst hi0 hs0
        rw [if_neg (by omega), ht0]
        show min room (room + (((0 : Nat) : Int) / each - 0 / each)) = room
        simp
      · have := cur_next (room := room) (st := st) (T := (i : Int) - 1) he1
        rw [Int.sub_add_cancel] at this
        rw [this]
        by_cases g : (i : Int) % each = 0 ∧ cur room each st ((i : Int) - 1) < room
        · rw [if_pos g, if_pos ⟨by omega, g⟩]
        · rw [if_neg g, if_neg fun z => g z.2]
    simp only [wIf, wAnd, wTest, wBin, wCB, wCons, wNil, wVar, wC, getV, some!, oGt, oI0, oInt, one, oMod, oI, oEq, shD_int, eqD_int, true_and, oLt, decide_eq_true_eq]
    split
    · rename_i g1
      refine ⟨by omega, ?_⟩
      split
      · rename_i g2
        split
        · rename_i g3
          simp only [wSet, wBin, wVar, wC, getV, setV, some!, oAdd]
          exact go _ (by rw [cu, if_pos ⟨g1, g2, g3⟩])
        · rename_i g3
          exact go _ (by rw [cu, if_neg fun z => g3 z.2.2])
      · rename_i g2
        exact go _ (by rw [cu, if_neg fun z => g2 z.2.1])
    · rename_i g1
      exact go _ (by rw [cu, if_neg fun z => g1 z.1])
  · rintro e S' ⟨n, st, tok, x6, x7, ef, hn, hb1, hb2, htok, hst, hsl, rfl, rfl⟩
    rw [rngD_length] at hb1 hb2 htok
    have en : ((u + 1).toNat : Int) = u + 1 := by omega
    have hnl : n = l.length := by
      by_cases z : n < l.length
      · exfalso
        have := hb2 n _ (Nat.le_refl _) (List.getElem?_eq_getElem z)
        have := last_le hl (List.getElem_mem z)
        omega
      · omega
    subst hnl
    rw [List.take_length] at ef
    have hst' : bRun room each l = st := ef
    rcases htok with ⟨h0, _, _⟩ | ⟨_, rfl⟩
    · omega
    rw [en] at *
    refine n1 _ _ ?_
    simp only [wRet, wLst, wCons, wNil, wCB, wFrz, wVar, getV, some!, frzD, put_same, oTuple, one, seqA, seqL, seqM]
    rw [del_put hp]
    refine ⟨by show 2 ≤ sizeLine; decide, ?_⟩
    unfold letsF atF at h
    rw [hst'] at h
    rw [show u + 1 - 1 = u by omega]
    exact h
theorem len__law_leaps (c : Cl) : ∀ ds S Q E, sp__law_leaps c ds S Q E → ds.length = 4 := by
  rintro ds S Q E ⟨_, _, _, _, _, rfl, _⟩; rfl
theorem rd__law_leaps (c : Cl) : ∀ ds S Q X1, sp__law_leaps c ds S Q X1 → w__law_leaps c (startD N__law_leaps_ ds) S (endQ Q X1) := by
  rintro ds S Q X1 ⟨room, each, d0, l, u, rfl, hpa, ⟨⟨hr1, hr2⟩, ⟨he1, he2⟩, hl⟩, h⟩
  have hl40 := hl.1
  show w__law_leaps c [some (.int room), some (.int each), some d0, some (.int u), none, none, none, none] S (endQ Q X1)
  unfold w__law_leaps
  refine seq_k fun q1 n1 r1 _ _ x1 => ?_
  simp only [wSet, wVar, getV, setV, some!]
  refine n1 _ _ ?_
  refine seq_k fun q1 n1 r1 _ _ x1 => ?_
  simp only [wSet, wC, setV]
  refine n1 _ _ ?_
  refine seq_k fun q1 n1 r1 _ _ x1 => ?_
  simp only [wSet, wLstM, wNil, setV]
  refine ⟨Nat.zero_le _, fun p hp => n1 _ _ ?_⟩
  refine seq_k fun q1 n1 r1 _ _ x1 => ?_
  obtain ⟨ys, ey, eyl, hy⟩ := hpa
  simp only [wFor, wIt, wVar, getV, some!, seqA_ext (Ext.put (m := .lst []) hp) ey]
  refine forI_invq (fun i e S' => ∃ tk ti bs x7, (l.take i).foldl (bStep room each) (room, 0, []) = (tk, ti, bs) ∧ bs.length = i ∧ S' = put S p (.lst (bs.map D.bl)) ∧
    e = [some (.int room), some (.int each), some d0, some (.int u), some (.int tk), some (.int ti), some (.ref p), x7]) ⟨room, 0, [], none, rfl, rfl, rfl, rfl⟩ (fun i e S' ⟨_, _, _, _, _, _, h3, _⟩ => by rw [h3]; exact seqA_ext (Ext.put hp) ey) ?_ ?_
  · rintro i d e S' hi ⟨tk, ti, bs, x7, ef, hbl, rfl, rfl⟩ q hq _ _ _ _
    have hi40 : i < l.length := by rw [← eyl]; exact lt_of_some hi
    obtain ⟨⟨b, m⟩, hpr⟩ : ∃ p, l[i]? = some p := ⟨_, List.getElem?_eq_getElem hi40⟩
    obtain ⟨y, hy1, ey2⟩ := hy _ _ hpr
    rw [hi] at hy1
    cases hy1
    have ey3 := seqA_ext (Ext.put (m := .lst (bs.map D.bl)) hp) ey2
    have key := fold_take (bStep room each) (room, 0, []) hpr
    rw [ef] at key
    simp only [gN, setV]
    have e1 : min room (tk + b / each - ti / each) = min room (tk + tb each ti b) := by unfold tb; omega
    have nx : ∀ t2, (if m ≤ min room (tk + tb each ti b) then min room (tk + tb each ti b) - m else min room (tk + tb each ti b)) = t2 → q.nx [some (.int room), some (.int each), some d0, some (.int u), some (.int t2), some (.int b), some (.ref p), some d]
        (put S p (.lst (bs.map D.bl ++ [.bl (decide (m ≤ min room (tk + tb each ti b)))]))) := fun t2 ht => by
      refine hq _ _ ⟨t2, b, bs ++ [decide (m ≤ min room (tk + tb each ti b))], _, ?_, by simp [hbl], by simp, rfl⟩
      rw [key, ← ht]; rfl
    refine seq_k fun q2 n2 _ _ _ _ => ?_
    simp only [wSet, wBin, wCB, wCons, wNil, wVar, wC, getV, setV, some!, oIx, ey3, (ix2_at (D.int b) (D.int m)).1, oInt, one, oDiv, oI, oAdd, oSub, oI0, oMin2, two, asI]
    refine ⟨divw (by omega), divw (by omega), ?_⟩
    rw [e1]
    refine n2 _ _ ?_
    refine seq_k fun q2 n2 _ _ _ _ => ?_
    simp only [wSet, wBin, wVar, wC, getV, setV, some!, oIx, ey3, (ix2_at (D.int b) (D.int m)).1]
    refine n2 _ _ ?_
    refine seq_k fun q2 n2 _ _ _ _ => ?_
    simp only [wDrop, wMt, wBin, wVar, wC, wCons, wNil, getV, some!, mutL, put_same, put_put, oIx, ey3, (ix2_at (D.int b) (D.int m)).2, oLe, oI0, oAppend, one, List.length_map]
    refine ⟨by unfold sizeLine; omega, n2 _ _ ?_⟩
    have ey3 := seqA_ext (Ext.put (m := .lst (bs.map D.bl ++ [.bl (decide (m ≤ min room (tk + tb each ti b)))])) hp) ey2
    simp only [wIf, wTest, wBin, wVar, wC, getV, some!, oIx, ey3, (ix2_at (D.int b) (D.int m)).2, oLe, oI0, decide_eq_true_eq]
    split
    · rename_i g2
      simp only [wSet, wBin, wVar, wC, getV, setV, some!, oIx, ey3, (ix2_at (D.int b) (D.int m)).2, oSub, oI0]
      exact nx _ (if_pos g2)
    · rename_i g2
      simp only [wNext]
      exact nx _ (if_neg g2)
  · rintro e S' ⟨tk, ti, bs, x7, ef, hbl, rfl, rfl⟩
    rw [eyl, List.take_length] at ef
    have hst' : bRun room each l = (tk, ti, bs) := ef
    refine n1 _ _ ?_
    simp only [wRet, wLst, wCons, wNil, wCB, wFrz, wBin, wVar, getV, some!, frzD, put_same, oTuple, one, seqA, seqL, seqM, oInt, oDiv, oI, oAdd, oSub, oI0, oMin2, two, asI]
    rw [del_put hp]
    refine ⟨divw (by omega), divw (by omega), by show 2 ≤ sizeLine; decide, ?_⟩
    unfold letsF atF at h
    rw [hst'] at h
    have e1 : min room (tk + u / each - ti / each) = min room (tk + tb each ti u) := by unfold tb; omega
    rw [e1]
    exact h
theorem small_div {n s : Int} (h1 : 1 ≤ n) (h2 : n ≤ s) : (n - 1) / s = 0 ∧ (n - 1) % s + 1 = n := by
  have e1 : (n - 1) / s = 0 := Int.ediv_eq_zero_of_lt (by omega) (by omega)
  have e2 : (n - 1) % s = n - 1 := Int.emod_eq_of_lt (by omega) (by omega)
  exact ⟨e1, by omega⟩
end K41
set_option Elab.async false
set_option linter.all false
set_option maxRecDepth 100000
set_option maxHeartbeats 1000000
namespace K41
open PySem PySem.Spec PyProof.Rows L2 DL
theorem len__law_whole_ticks (c : Cl) : ∀ ds S Q E, sp__law_whole_ticks c ds S Q E → ds.length = 2 := by
  rintro ds S Q E ⟨_, _, _, rfl, _⟩; rfl
theorem rd__law_whole_ticks (c : Cl) : ∀ ds S Q X1, sp__law_whole_ticks c ds S Q X1 → w__law_whole_ticks c (startD N__law_whole_ticks_ ds) S (endQ Q X1) := by
  rintro ds S Q X1 ⟨d0, l, s, rfl, hpa, ⟨hl, hb, _⟩, ⟨hs1, hs2⟩, h⟩
  show w__law_whole_ticks c [some d0, some (.int s), none, none, none, none, none, none] S (endQ Q X1)
  unfold w__law_whole_ticks
  refine seq_k fun q1 n1 r1 _ _ x1 => ?_
  simp only [wSet, wLstM, wNil, setV]
  refine ⟨Nat.zero_le _, fun p hp => n1 _ _ ?_⟩
  refine seq_k fun q1 n1 r1 _ _ x1 => ?_
  simp only [wSet, wC, setV]
  refine n1 _ _ ?_
  refine seq_k fun q1 n1 r1 _ _ x1 => ?_
  simp only [wSet, wVar, getV, setV, some!]
  refine n1 _ _ ?_
  refine seq_k fun q1 n1 r1 _ _ x1 => ?_
  obtain ⟨ys, ey, eyl, hy⟩ := hpa
  simp only [wFor, wIt, wVar, getV, some!, seqA_ext (Ext.put (m := .lst []) hp) ey]
  refine forI_invq (fun i e S' => ∃ tick served fd x5 x6 x7, (l.take i).foldl (endStep s) (0, 0, []) = (tick, served, fd) ∧ (0 ≤ served ∧ served ≤ s) ∧ fd.length = i ∧ S' = put S p (.lst (fd.map D.int)) ∧
    e = [some d0, some (.int s), some (.ref p), some (.int tick), some (.int (s - served)), x5, x6, x7]) ⟨0, 0, [], none, none, none, rfl, ⟨by omega, by omega⟩, rfl, rfl, by rw [Int.sub_zero]⟩ (fun i e S' ⟨_, _, _, _, _, _, _, _, _, h3, _⟩ => by rw [h3]; exact seqA_ext (Ext.put hp) ey) ?_ ?_
  · rintro i d' e' S' hi ⟨tick, served, fd, x5, x6, x7, ef, ⟨hv1, hv2⟩, hfl, rfl, rfl⟩ q hq _ _ _ _
    have hi40 : i < l.length := by rw [← eyl]; exact lt_of_some hi
    obtain ⟨⟨a, b⟩, hpr⟩ : ∃ p, l[i]? = some p := ⟨_, List.getElem?_eq_getElem hi40⟩
    obtain ⟨y, hy1, ey2⟩ := hy _ _ hpr
    rw [hi] at hy1
    cases hy1
    have ey3 := seqA_ext (Ext.put (m := .lst (fd.map D.int)) hp) ey2
    obtain ⟨ha1, ha2, hb1, hb2⟩ := hb _ (List.mem_of_getElem? hpr)
    have key := fold_take (endStep s) (0, 0, []) hpr
    rw [ef] at key
    dsimp only at ha1 ha2 hb1 hb2
    simp only [gN, setV]
    -- the state ahead of the ask
    have go : ∀ t2 s2 (q2 : QS), (if tick < a then a else tick) = t2 → (if tick < a then 0 else served) = s2 → q2 = q →
        (wSeq (wSet 6 (wBin oIx (wVar 5) (wC (.int 1))))
        (wSeq (wIf (wTest (wBin oLe (wVar 6) (wVar 4))) (wSet 4 (wBin oSub (wVar 4) (wVar 6))) (wSeq (wSet 7 (wBin oDiv (wBin oSub (wBin oAdd (wBin oSub (wVar 6) (wVar 4)) (wVar 1)) (wC (.int 1))) (wVar 1)))
        (wSeq (wSet 4 (wBin oSub (wBin oAdd (wVar 4) (wBin oMul (wVar 7) (wVar 1))) (wVar 6)))
        (wSet 3 (wBin oAdd (wVar 3) (wVar 7))))))
        (wDrop (wMt oAppend (wVar 2) (wCons (wVar 3) wNil))))) [some d0, some (.int s), some (.ref p), some (.int t2), some (.int (s - s2)), some d', x6, x7] (put S p (.lst (fd.map D.int))) q2 := fun t2 s2 q2 h1 h2 hq2 => by
      subst hq2
      have hs2' : 0 ≤ s2 ∧ s2 ≤ s := by rw [← h2]; split <;> omega
      have fin : ∀ t3 l3 x7, t3 = t2 + (s2 + b - 1) / s → l3 = s - ((s2 + b - 1) % s + 1) → q2.nx [some d0, some (.int s), some (.ref p), some (.int t3), some (.int l3), some d', some (.int b), x7] (put S p (.lst (fd.map D.int ++ [.int t3]))) := fun t3 l3 x7 e1 e2 => by
        have m1 : 0 ≤ (s2 + b - 1) % s := Int.emod_nonneg _ (by omega)
        have m2 : (s2 + b - 1) % s < s := Int.emod_lt_of_pos _ (by omega)
        refine hq _ _ ⟨t3, (s2 + b - 1) % s + 1, fd ++ [t3], _, _, _, ?_, ⟨by omega, by omega⟩, by simp [hfl], by simp, by rw [e2]⟩
        rw [key]
        unfold endStep
        simp only [h1, h2, e1]
      simp only [wSeq, wSet, wIf, wTest, wDrop, wMt, wBin, wVar, wC, wCons, wNil, getV, setV, some!, oIx, ey3, (ix2_at (D.int a) (D.int b)).2, oLe, oI0, oI, oSub, oAdd, oMul, oDiv, oAppend, mutL, put_same, put_put, one, List.length_map, decide_eq_true_eq]
      split
      · rename_i g
        obtain ⟨z1, z2⟩ := small_div (n := s2 + b) (s := s) (by omega) (by omega)
        exact ⟨by unfold sizeLine; omega, fin _ _ _ (by rw [z1]; omega) (by rw [z2]; omega)⟩
      · rename_i g
        have e3 : b - (s - s2) + s - 1 = s2 + b - 1 := by omega
        rw [e3]
        have m0 : 0 ≤ (s2 + b - 1) / s := Int.ediv_nonneg (by omega) (by omega)
        have m1 : (s2 + b - 1) / s ≤ s2 + b - 1 := Int.ediv_le_self _ (by omega)
        have dm := Int.emod_add_mul_ediv (s2 + b - 1) s
        refine ⟨divw (by omega), mulw2 ⟨by omega, by omega⟩ ⟨by omega, by omega⟩, by unfold sizeLine; omega, fin _ _ _ rfl ?_⟩
        have cm : (s2 + b - 1) / s * s = s * ((s2 + b - 1) / s) := Int.mul_comm _ _
        omega
    refine seq_k fun q2 n2 _ _ _ _ => ?_
    simp only [wIf, wTest, wBin, wVar, wC, getV, some!, oIx, ey3, (ix2_at (D.int a) (D.int b)).1, oGt, oI0, decide_eq_true_eq]
    split
    · rename_i g
      simp only [wSeq, wSet, wBin, wVar, wC, getV, setV, some!, oIx, ey3, (ix2_at (D.int a) (D.int b)).1]
      have := go a 0 q (if_pos g) (if_pos g) rfl
      rw [Int.sub_zero] at this
      exact n2 _ _ this
    · rename_i g
      exact n2 _ _ (go tick served q (if_neg g) (if_neg g) rfl)
  · rintro e' S' ⟨tick, served, fd, x5, x6, x7, ef, _, hfl, rfl, rfl⟩
    rw [eyl, List.take_length] at ef
    refine n1 _ _ ?_
    simp only [wRet, wFrz, wCB, wCons, wNil, wVar, getV, some!, frzD, put_same, oTuple, one, seqA, seqL, seqM]
    rw [del_put hp]
    have e2 : endsF s l = fd := by unfold endsF; rw [ef]
    rw [e2] at h
    exact h
end K41
set_option Elab.async false
set_option linter.all false
set_option maxRecDepth 100000
set_option maxHeartbeats 1000000
namespace K41
open PySem PySem.Spec PyProof.Rows L2 DL
theorem oIx_eq {S : Sto} {x d : D} {i : Int} {xs : List D} (h : seqA S x = some xs) (h2 : atI xs i = some d) (Q : Qd) : oIx S x (.int i) Q = Q d S := by
  show some! (seqA S x) _ = _
  rw [h]
  show some! (atI xs i) _ = _
  rw [h2]
  rfl
theorem len__law_neighbors (c : Cl) : ∀ ds S Q E, sp__law_neighbors c ds S Q E → ds.length = 2 := by
  rintro ds S Q E ⟨_, _, _, rfl, _⟩; rfl
theorem rd__law_neighbors (c : Cl) : ∀ ds S Q X1, sp__law_neighbors c ds S Q X1 → w__law_neighbors c (startD N__law_neighbors_ ds) S (endQ Q X1) := by
  rintro ds S Q X1 ⟨each, d0, l, rfl, hpa, he, hl, h⟩
  have hlen := hl.1
  obtain ⟨ys, ey, eyl, hy⟩ := hpa
  show w__law_neighbors c [some (.int each), some d0, none, none, none, none] S (endQ Q X1)
  unfold w__law_neighbors
  refine seq_k fun q1 n1 r1 _ _ x1 => ?_
  simp only [wSet, wC, setV]
  refine n1 _ _ ?_
  refine seq_k fun q1 n1 r1 _ _ x1 => ?_
  simp only [wFor, wRg1, wCB, wCons, wNil, wVar, getV, some!]
  refine oLen_of ey ?_
  rw [eyl]
  simp only [asI]
  refine ⟨by omega, ?_⟩
  refine forI_invq (fun i e S' => ∃ most x4 x5 x6, nbGo each most (l.drop i) = nbF each l ∧ S' = S ∧ e = [some (.int each), some d0, some (.int most), x4, x5, x6]) ⟨0, none, none, none, rfl, rfl, rfl⟩ (fun _ _ _ _ => trivial) ?_ ?_
  · rintro i d' e' S' hi ⟨most, x4, x5, x6, hm, rfl, rfl⟩ q hq _ _ _ _
    obtain ⟨hlt, rfl⟩ := rngD_get hi
    have hil : i < l.length := by omega
    obtain ⟨⟨b0, m0⟩, hp⟩ : ∃ p, l[i]? = some p := ⟨_, List.getElem?_eq_getElem hil⟩
    obtain ⟨y0, hp', ey0⟩ := hy _ _ hp
    rw [Int.zero_add]
    simp only [gN, setV]
    refine seq_k fun q2 n2 _ _ _ _ => ?_
    simp only [wSet, wC, setV]
    refine n2 _ _ ?_
    simp only [wFor, wRg2, wCB, wCons, wNil, wVar, getV, some!, asI]
    refine oLen_of ey ?_
    rw [eyl]
    simp only [asI]
    refine ⟨by omega, ?_⟩
    refine forI_invq (fun j e S2 => ∃ tot most2 x6, ((l.drop i).take j).foldl (inF each b0) (0, most) = (tot, most2) ∧ S2 = S' ∧ e = [some (.int each), some d0, some (.int most2), some (.int (i : Int)), some (.int tot), x6]) ⟨0, most, x6, rfl, rfl, rfl⟩ (fun _ _ _ _ => trivial) ?_ ?_
    · rintro j d' e' S' hj ⟨tot, most2, x6, ef, rfl, rfl⟩ q5 hq5 _ _ _ _
      obtain ⟨hlt2, rfl⟩ := rngD_get hj
      have hjl : i + j < l.length := by omega
      obtain ⟨⟨b, m⟩, hpj⟩ : ∃ p, l[i + j]? = some p := ⟨_, List.getElem?_eq_getElem hjl⟩
      obtain ⟨yj, hpj', eyj⟩ := hy _ _ hpj
      have hpd : (l.drop i)[j]? = some (b, m) := by rw [List.getElem?_drop]; exact hpj
      have key := fold_take (inF each b0) (0, most) hpd
      rw [ef] at key
      rw [show (i : Int) + (j : Int) = ((i + j : Nat) : Int) by omega]
      simp only [gN, setV]
      have a1 := fun Q => oIx_eq ey (at_k hp') Q
      have a2 := fun Q => oIx_eq ey0 (ix2_at (D.int b0) (D.int m0)).1 Q
      have a3 := fun Q => oIx_eq ey (at_k hpj') Q
      have a4 := fun Q => oIx_eq eyj (ix2_at (D.int b) (D.int m)).1 Q
      have a5 := fun Q => oIx_eq eyj (ix2_at (D.int b) (D.int m)).2 Q
      clear ey ey0 eyj hp' hpj' hpd
      refine seq_k fun q6 n6 _ _ _ _ => ?_
      simp only [wSet, wBin, wVar, wC, getV, setV, some!, a3, a5, oAdd]
      refine n6 _ _ ?_
      simp only [wSet, wCB, wBin, wCons, wNil, wVar, wC, getV, setV, some!, a1, a2, a3, a4, oInt, one, oDiv, oI, oSub, oI0, oMax2, two, asI]
      refine ⟨divw (by omega), divw (by omega), ?_⟩
      refine hq5 _ _ ⟨tot + m, max most2 (tot + m - (b / each - b0 / each)), _, ?_, rfl, rfl⟩
      rw [key]
      simp only [inF, tb]
    · rintro e' S' ⟨tot, most2, x6, ef, rfl, rfl⟩
      rw [rngD_length, List.take_of_length_le (by rw [List.length_drop]; omega)] at ef
      refine hq _ _ ⟨most2, _, _, _, ?_, rfl, rfl⟩
      rw [← hm]
      have hdr : l.drop i = (b0, m0) :: l.drop (i + 1) := by
        rw [List.drop_eq_getElem_cons hil]
        rw [List.getElem?_eq_getElem hil] at hp
        rw [Option.some.inj hp]
      rw [hdr]
      show nbGo each most2 (l.drop (i + 1)) = nbGo each (((b0, m0) :: l.drop (i + 1)).foldl (inF each b0) (0, most)).2 (l.drop (i + 1))
      rw [← hdr, ef]
  · rintro e' S' ⟨most, x4, x5, x6, hm, rfl, rfl⟩
    rw [rngD_length, Int.toNat_natCast, List.drop_length] at hm
    refine n1 _ _ ?_
    simp only [wRet, wVar, getV, some!]
    have hm' : most = nbF each l := hm
    rw [hm']
    exact h
end K41
set_option Elab.async false
set_option linter.all false
set_option maxRecDepth 100000
set_option maxHeartbeats 1000000
namespace K41
open PySem PySem.Spec PyProof.Rows L2 DL
/-! ### the plain law of delays -/
theorem tb_nn {e a b : Int} (he : 1 ≤ e) (h : a ≤ b) : 0 ≤ tb e a b := by
  have := Int.ediv_le_ediv (show 0 < e by omega) h
  unfold tb; omega
theorem tb_le {e a b : Int} (he : 1 ≤ e) (h : a ≤ b) : tb e a b ≤ b - a := by
  have h1 : b ≤ a + (b - a) * e := by
    have : (b - a) * 1 ≤ (b - a) * e := Int.mul_le_mul_of_nonneg_left he (by omega)
    omega
  have h2 := Int.ediv_le_ediv (show 0 < e by omega) h1
  rw [Int.add_mul_ediv_right _ _ (by omega)] at h2
  unfold tb; omega
theorem backlog {R e s : Int} (he : 1 ≤ e) (hs : 1 ≤ s) : ∀ {l : List (Int × Int)} {d ti g : Int}, g ≤ ti * s + d → (∀ p, p ∈ l → ti ≤ p.1) → l.Pairwise (fun a b => a.1 ≤ b.1) → okF R e d ti l →
    ∀ (k : Nat) p, l[k]? = some p → (l.take (k + 1)).foldl (fun g (p : Int × Int) => max (p.1 * s) g + p.2) g ≤ p.1 * s + R
  | [], _, _, _, _, _, _, _, k, p, hp => by simp at hp
  | (b, m) :: r, d, ti, g, hg, hl, hp, ⟨h1, h2⟩, k, p, hk => by
    have hp' := List.pairwise_cons.mp hp
    have hb := hl _ List.mem_cons_self
    dsimp only at hb h1 h2
    have t1 := tb_le he hb
    have t2 : (b - ti) * 1 ≤ (b - ti) * s := Int.mul_le_mul_of_nonneg_left hs (by omega)
    have t3 : (b - ti) * s = b * s - ti * s := Int.sub_mul _ _ _
    have key : max (b * s) g + m ≤ b * s + (max 0 (d - tb e ti b) + m) := by omega
    cases k with
    | zero =>
      cases hk
      show max (b * s) g + m ≤ b * s + R
      omega
    | succ k =>
      have hk' : r[k]? = some p := hk
      show (r.take (k + 1)).foldl _ (max (b * s) g + m) ≤ _
      exact backlog he hs key hp'.1 hp'.2 h2 k p hk'
theorem del_eq {room s : Int} (hs : 1 ≤ s) : delF room s = (room - 1) / s := by
  unfold delF
  have : room + s - 1 = (room - 1) + 1 * s := by omega
  rw [this, Int.add_mul_ediv_right _ _ (by omega)]; omega
theorem delay_le {room e s : Int} (he : 1 ≤ e) (hs : 1 ≤ s) (hr : 0 ≤ room) {l : List (Int × Int)} (hl : AsksG l) (ha : (letsF room e l).all id = true) {k : Nat} {p : Int × Int} (hp : l[k]? = some p) :
    (Gv s (l.take (k + 1)) - 1) / s - p.1 ≤ delF room s := by
  have h1 := lets_okF (R := room) (e := e) (l := l) (d := 0) (ti := 0)
  rw [Int.sub_zero] at h1
  have ok := h1.mp ha
  have := backlog (g := 0) he hs (by simp) (fun p hp => (hl.2.1 p hp).1) hl.2.2 ok k p hp
  have h3 : Gv s (l.take (k + 1)) - 1 ≤ (room - 1) + p.1 * s := by unfold Gv; omega
  have h4 := Int.ediv_le_ediv (show 0 < s by omega) h3
  rw [Int.add_mul_ediv_right _ _ (by omega)] at h4
  rw [del_eq hs]; omega
/-! ### what is let by, alone -/
def letsR (room e : Int) : Int → Int → List (Int × Int) → List Bool
  | _, _, [] => []
  | tk, ti, p :: r => decide (p.2 ≤ min room (tk + tb e ti p.1)) :: letsR room e (if p.2 ≤ min room (tk + tb e ti p.1) then min room (tk + tb e ti p.1) - p.2 else min room (tk + tb e ti p.1)) p.1 r
theorem letsR_eq {room e : Int} : ∀ {l : List (Int × Int)} {tk ti : Int}, (l.foldl (bStep room e) (tk, ti, [])).2.2 = letsR room e tk ti l
  | [], _, _ => rfl
  | p :: r, tk, ti => by
    rw [List.foldl_cons]
    show (r.foldl (bStep room e) (_, _, [] ++ [_])).2.2 = _
    rw [run_more, letsR_eq]; rfl
theorem lets_eq {room e : Int} {l : List (Int × Int)} : letsF room e l = letsR room e room 0 l := letsR_eq
def keepB {α : Type} : List α → List Bool → List α
  | x :: xs, b :: bs => if b = true then x :: keepB xs bs else keepB xs bs
  | _, _ => []
theorem keepB_sub {α : Type} : ∀ {xs : List α} {bs : List Bool}, (keepB xs bs).Sublist xs
  | [], _ => by unfold keepB; exact List.Sublist.refl _
  | x :: xs, [] => by unfold keepB; exact List.nil_sublist _
  | x :: xs, b :: bs => by
    show (if b = true then x :: keepB xs bs else keepB xs bs).Sublist _
    split
    · exact keepB_sub.cons₂ x
    · exact keepB_sub.cons x
theorem keepB_snoc {α : Type} {x : α} {b : Bool} : ∀ {xs : List α} {bs : List Bool}, xs.length = bs.length → keepB (xs ++ [x]) (bs ++ [b]) = keepB xs bs ++ (if b = true then [x] else [])
  | [], [], _ => by cases b <;> rfl
  | [], _ :: _, h => by simp at h
  | _ :: _, [], h => by simp at h
  | y :: ys, c :: cs, h => by
    show (if c = true then y :: keepB (ys ++ [x]) (cs ++ [b]) else keepB (ys ++ [x]) (cs ++ [b])) = (if c = true then y :: keepB ys cs else keepB ys cs) ++ _
    rw [keepB_snoc (by simpa using h)]
    split <;> rfl
theorem kept_ok {room e : Int} (he : 1 ≤ e) : ∀ {l : List (Int × Int)} {tk ti tk1 ti1 T : Int}, (∀ c, T ≤ c → min room (tk1 + tb e ti1 c) = min room (tk + tb e ti c)) → (∀ p, p ∈ l → T ≤ p.1) → l.Pairwise (fun a b => a.1 ≤ b.1) →
    (letsR room e tk1 ti1 (keepB l (letsR room e tk ti l))).all id = true
  | [], _, _, _, _, _, _, _, _ => by unfold letsR; rfl
  | (b, m) :: r, tk, ti, tk1, ti1, T, h, hl, hp => by
    have hp' := List.pairwise_cons.mp hp
    have hT := hl _ List.mem_cons_self
    dsimp only at hT
    have eb := h b hT
    show (letsR room e tk1 ti1 (if decide (m ≤ min room (tk + tb e ti b)) = true then (b, m) :: keepB r (letsR room e (if m ≤ min room (tk + tb e ti b) then min room (tk + tb e ti b) - m else min room (tk + tb e ti b)) b r) else keepB r (letsR room e (if m ≤ min room (tk + tb e ti b) then min room (tk + tb e ti b) - m else min room (tk + tb e ti b)) b r))).all id = true
    by_cases g : m ≤ min room (tk + tb e ti b)
    · rw [if_pos (decide_eq_true g), if_pos g]
      show (decide (m ≤ min room (tk1 + tb e ti1 b)) :: letsR room e (if m ≤ min room (tk1 + tb e ti1 b) then min room (tk1 + tb e ti1 b) - m else min room (tk1 + tb e ti1 b)) b _).all id = true
      rw [eb, if_pos g, decide_eq_true g, List.all_cons]
      exact kept_ok he (T := b) (fun c _ => rfl) hp'.1 hp'.2
    · rw [if_neg (by rw [decide_eq_false g]; exact Bool.false_ne_true), if_neg g]
      refine kept_ok he (T := b) (fun c hc => ?_) hp'.1 hp'.2
      rw [h c (by omega)]
      have t1 := tb_nn he hc
      have t2 := tb_add (e := e) (a := ti) (b := b) (c := c)
      omega
theorem asks_sub {l l2 : List (Int × Int)} (h : AsksG l) (hs : l2.Sublist l) : AsksG l2 :=
  ⟨Nat.le_trans hs.length_le h.1, fun p hp => h.2.1 p (hs.subset hp), h.2.2.sublist hs⟩
theorem kept_lets {room e : Int} (he : 1 ≤ e) {l : List (Int × Int)} (hl : AsksG l) : (letsF room e (keepB l (letsF room e l))).all id = true := by
  rw [lets_eq, lets_eq]
  exact kept_ok he (T := 0) (fun c _ => rfl) (fun p hp => (hl.2.1 p hp).1) hl.2.2
/-! ### a burst behind all -/
def dS (e : Int) (st : Int × Int) (p : Int × Int) : Int × Int := (max 0 (st.1 - tb e st.2 p.1) + p.2, p.1)
theorem okF_app {R e : Int} {l2 : List (Int × Int)} : ∀ {l : List (Int × Int)} {d ti : Int}, okF R e d ti (l ++ l2) ↔ okF R e d ti l ∧ okF R e (l.foldl (dS e) (d, ti)).1 (l.foldl (dS e) (d, ti)).2 l2
  | [], d, ti => ⟨fun h => ⟨trivial, h⟩, fun h => h.2⟩
  | p :: r, d, ti => by
    show (_ ∧ okF R e _ _ (r ++ l2)) ↔ (_ ∧ okF R e _ _ r) ∧ _
    rw [okF_app, and_assoc]; rfl
theorem dS_le {R e : Int} : ∀ {l : List (Int × Int)} {d ti : Int}, d ≤ R → okF R e d ti l → (l.foldl (dS e) (d, ti)).1 ≤ R
  | [], _, _, h, _ => h
  | p :: r, d, ti, _, ⟨h1, h2⟩ => dS_le (l := r) h1 h2
theorem dS_last {e : Int} : ∀ {l : List (Int × Int)} {d ti : Int}, (l.foldl (dS e) (d, ti)).2 = (match l.getLast? with | some p => p.1 | none => ti)
  | [], _, _ => rfl
  | p :: r, d, ti => by
    rw [List.foldl_cons, dS_last (l := r)]
    cases r with
    | nil => rfl
    | cons y r => rw [List.getLast?_cons_cons]; cases e : (y :: r).getLast? with
      | none => simp at e
      | some z => rfl
theorem lets_ok {R e : Int} {l : List (Int × Int)} : (letsF R e l).all id = true ↔ okF R e 0 0 l := by
  have h1 := lets_okF (R := R) (e := e) (l := l) (d := 0) (ti := 0)
  rw [Int.sub_zero] at h1
  exact h1
theorem full_at {e room last L at_ : Int} (he : 1 ≤ e) (hr : 0 ≤ room) (hL : 0 ≤ L) (ha : at_ = e * (room + 1) + L + last) : room ≤ tb e last at_ := by
  have h1 : last + room * e ≤ at_ := by
    rw [ha, Int.mul_add, Int.mul_comm e room, Int.mul_one]; omega
  have h2 := Int.ediv_le_ediv (show 0 < e by omega) h1
  rw [Int.add_mul_ediv_right _ _ (by omega)] at h2
  unfold tb; omega
theorem burst_ok {room e L at_ : Int} (he : 1 ≤ e) (hr : 0 ≤ room) (hL : 0 ≤ L) {l l2 : List (Int × Int)} (ha : at_ = e * (room + 1) + L + lastF l) (hok : (letsF room e l).all id = true) (h2 : ∀ d, d ≤ 0 → okF room e d at_ l2 → True) (part : Int) (hp : 0 ≤ part ∧ part ≤ room) :
    (letsF room e (l ++ [(at_, part), (at_, room - part)])).all id = true ∧ (letsF room e (l ++ [(at_, room)])).all id = true := by
  have ok := lets_ok.mp hok
  have d1 := dS_le (l := l) hr ok
  have e1 : (l.foldl (dS e) (0, 0)).2 = lastF l := by
    rw [dS_last]; rfl
  have f1 := full_at he hr hL ha
  have z : tb e at_ at_ = 0 := by unfold tb; omega
  constructor
  · refine lets_ok.mpr (okF_app.mpr ⟨ok, ?_⟩)
    rw [e1]
    show max 0 ((l.foldl (dS e) (0, 0)).1 - tb e (lastF l) at_) + part ≤ room ∧ max 0 ((max 0 ((l.foldl (dS e) (0, 0)).1 - tb e (lastF l) at_) + part) - tb e at_ at_) + (room - part) ≤ room ∧ True
    rw [z]
    refine ⟨by omega, by omega, trivial⟩
  · refine lets_ok.mpr (okF_app.mpr ⟨ok, ?_⟩)
    rw [e1]
    show max 0 ((l.foldl (dS e) (0, 0)).1 - tb e (lastF l) at_) + room ≤ room ∧ True
    exact ⟨by omega, trivial⟩
theorem gv_app {s : Int} {l l2 : List (Int × Int)} : Gv s (l ++ l2) = l2.foldl (fun g (p : Int × Int) => max (p.1 * s) g + p.2) (Gv s l) := by
  unfold Gv; rw [List.foldl_append]
theorem gv_before {e room at_ s : Int} (he : 1 ≤ e) (hr : 0 ≤ room) (hs : 1 ≤ s) {l : List (Int × Int)} (hl : AsksG l) (ha : at_ = e * (room + 1) + (l.map Prod.snd).sum + lastF l) : Gv s l ≤ at_ * s := by
  have h0 := last_nn hl
  have h1 := gv_le (s := s) hs (B := lastF l) h0.1 (fun p hp => last_le hl hp) (fun p hp => (hl.2.1 p hp).2.2.1) l.length (Nat.le_refl _)
  rw [List.take_length] at h1
  have hS : 0 ≤ (l.map Prod.snd).sum := sum_take_le (n := 0) (fun p hp => ⟨(hl.2.1 p hp).1, (hl.2.1 p hp).2.2.1⟩)
  have hE : 0 ≤ e * (room + 1) := Int.mul_nonneg (by omega) (by omega)
  have h2 : (e * (room + 1) + (l.map Prod.snd).sum) * 1 ≤ (e * (room + 1) + (l.map Prod.snd).sum) * s := Int.mul_le_mul_of_nonneg_left hs (by omega)
  rw [ha, Int.add_mul]
  omega
theorem gv_burst {e room at_ s part : Int} (he : 1 ≤ e) (hr : 0 ≤ room) (hs : 1 ≤ s) {l : List (Int × Int)} (hl : AsksG l) (ha : at_ = e * (room + 1) + (l.map Prod.snd).sum + lastF l) (hp : 0 ≤ part ∧ part ≤ room) :
    Gv s (l ++ [(at_, part), (at_, room - part)]) = at_ * s + room ∧ Gv s (l ++ [(at_, room)]) = at_ * s + room := by
  have h1 := gv_before he hr hs hl ha
  rw [gv_app, gv_app]
  constructor
  · show max (at_ * s) (max (at_ * s) (Gv s l) + part) + (room - part) = _
    omega
  · show max (at_ * s) (Gv s l) + room = _
    omega
theorem burst_tick {at_ s room : Int} (hs : 1 ≤ s) : (at_ * s + room - 1) / s - at_ = delF room s := by
  rw [del_eq hs, show at_ * s + room - 1 = (room - 1) + at_ * s by omega, Int.add_mul_ediv_right _ _ (by omega)]; omega
theorem lets_too {room e at_ : Int} {l : List (Int × Int)} : letsF room e (l ++ [(at_, room + 1)]) = letsF room e l ++ [false] := by
  unfold letsF bRun
  rw [List.foldl_append]
  show _ ++ [decide (room + 1 ≤ min room _)] = _
  rw [decide_eq_false (by omega)]
theorem any_not_all {bs : List Bool} (h : bs.all id = true) : (bs.any fun b => b == false) = false := by
  rw [List.any_eq_false]
  intro b hb
  have := List.all_eq_true.mp h b hb
  cases b
  · cases this
  · decide
end K41
set_option Elab.async false
set_option linter.all false
set_option maxRecDepth 100000
set_option maxHeartbeats 1000000
namespace K41
open PySem PySem.Spec PyProof.Rows L2 DL
theorem len_longest_delay (c : Cl) : ∀ ds S Q E, sp_longest_delay c ds S Q E → ds.length = 3 := by
  rintro ds S Q E ⟨_, _, _, rfl, _⟩; rfl
theorem rd_longest_delay (c : Cl) : ∀ ds S Q X1, sp_longest_delay c ds S Q X1 → w_longest_delay c (startD N_longest_delay_ ds) S (endQ Q X1) := by
  rintro ds S Q X1 ⟨r, e, s, rfl, kr, ke, ks, h1, h2, h3, h4⟩
  show w_longest_delay c [some r, some e, some s] S (endQ Q X1)
  unfold w_longest_delay
  refine seq_k fun q1 n1 r1 _ _ x1 => ?_
  simp only [wDrop, wCall, wCons, wNil, wVar, getV, some!]
  refine ⟨r, e, rfl, kr, ke, fun i1 => ?_, fun i1 i2 => ?_, fun i1 i2 => n1 _ _ ?_⟩
  · simp only [xcQ]
    rw [x1]
    exact h1 i1
  · simp only [xcQ]
    rw [x1]
    exact h2 i1 i2
  · refine seq_k fun q1 n1 r1 _ _ x1 => ?_
    simp only [wDrop, wCall, wCons, wNil, wVar, wC, getV, some!]
    refine ⟨s, 1, 100, rfl, ks, fun i3 => n1 _ _ ?_, fun i3 => ?_⟩
    · obtain ⟨room, rfl, hr⟩ := in_room i1
      obtain ⟨each, rfl, he⟩ := in_each i2
      obtain ⟨sp, rfl, hs⟩ := in_each i3
      simp only [wRet, wBin, wVar, wC, getV, some!, oAdd, oSub, oI0, oDiv, oI]
      exact ⟨divw (by omega), h4 room each sp rfl rfl rfl ⟨hr, he, hs⟩⟩
    · simp only [xcQ]
      rw [x1]
      exact h3 i1 i2 i3
/-- a state of the tower and the queue: phase, tokens, letters that wait -/
def dSt (s : Int × Int × Int) : D := .tup [.int s.1, .int s.2.1, .int s.2.2]
theorem keyD_st {s : Int × Int × Int} : keyD (dSt s) = some (.tup [.num s.1, .num s.2.1, .num s.2.2]) := by
  unfold keyD dSt
  simp [nkD, nksD, NestedKey.depth, NestedKey.depthAll]
theorem ix3_at {α : Type} (a b c : α) : atI [a, b, c] 0 = some a ∧ atI [a, b, c] 1 = some b ∧ atI [a, b, c] 2 = some c := ⟨rfl, rfl, rfl⟩
def okSt (room : Int) (s : Int × Int × Int) : Prop := 0 ≤ s.2.1 ∧ 0 ≤ s.2.2 ∧ s.2.1 + s.2.2 ≤ room
theorem len__law_waits (c : Cl) : ∀ ds S Q E, sp__law_waits c ds S Q E → ds.length = 3 := by
  rintro ds S Q E ⟨_, _, _, rfl, _⟩; rfl
end K41
set_option Elab.async false
set_option linter.all false
set_option maxRecDepth 100000
set_option maxHeartbeats 1000000
namespace K41
open PySem PySem.Spec PyProof.Rows L2 DL
theorem seqA_at {S : Sto} {p : Addr} {xs : List D} (h : S p = some (.lst xs)) : seqA S (.ref p) = some xs := by
  show (match S p with | some (MO.lst xs) => some xs | _ => none) = _
  rw [h]
theorem at_map {α : Type} {f : α → D} {l : List α} {k : Nat} {x : α} (h : l[k]? = some x) : atI (l.map f) (k : Int) = some (f x) := at_k (by rw [List.getElem?_map, h]; rfl)
/-- what stands while the states are gathered -/
structure WSt (S0 S : Sto) (p q : Addr) (room : Int) (sts : List (Int × Int × Int)) (kvs : List (D × D)) : Prop where
  ne : p ≠ q
  new : S0 p = none ∧ S0 q = none
  atp : S p = some (.lst (sts.map dSt))
  atq : S q = some (.dN q kvs)
  ext : Ext S0 S
  ok : ∀ st, st ∈ sts → okSt room st
  head : sts[0]? = some (0, room, 0)
  klen : kvs.length ≤ sts.length
theorem WSt.grow {S0 S : Sto} {p q : Addr} {room : Int} {sts : List (Int × Int × Int)} {kvs kvs2 : List (D × D)} (h : WSt S0 S p q room sts kvs) {st : Int × Int × Int} (hst : okSt room st) (hk : kvs2.length ≤ kvs.length + 1) :
    WSt S0 (put (put S q (.dN q kvs2)) p (.lst (sts.map dSt ++ [dSt st]))) p q room (sts ++ [st]) kvs2 where
  ne := h.ne
  new := h.new
  atp := by rw [put_same, List.map_append]; rfl
  atq := by rw [put_ne (Ne.symm h.ne), put_same]
  ext := fun a m e => by
    have e1 : a ≠ p := fun z => by rw [z, h.new.1] at e; cases e
    have e2 : a ≠ q := fun z => by rw [z, h.new.2] at e; cases e
    rw [put_ne e1, put_ne e2]; exact h.ext a m e
  ok := fun x hx => by
    rcases List.mem_append.mp hx with hx | hx
    · exact h.ok x hx
    · rw [List.mem_singleton.mp hx]; exact hst
  head := by
    have := h.head
    rw [List.getElem?_append_left (lt_of_some this)]; exact this
  klen := by rw [List.length_append]; have := h.klen; show _ ≤ _ + 1; omega
theorem del_mono {s a b : Int} (hs : 1 ≤ s) (h : a ≤ b) : (a + s - 1) / s - 1 ≤ (b + s - 1) / s - 1 := by
  have := Int.ediv_le_ediv (show 0 < s by omega) (show a + s - 1 ≤ b + s - 1 by omega)
  omega
theorem rd__law_waits (c : Cl) : ∀ ds S Q X1, sp__law_waits c ds S Q X1 → w__law_waits c (startD N__law_waits_ ds) S (endQ Q X1) := by
  rintro ds S Q X1 ⟨room, each, s, rfl, ⟨⟨hr1, hr2⟩, ⟨he1, he2⟩, ⟨hs1, hs2⟩⟩, h⟩
  show w__law_waits c [some (.int room), some (.int each), some (.int s), none, none, none, none, none, none, none, none, none, none] S (endQ Q X1)
  unfold w__law_waits
  refine seq_k fun q1 n1 r1 _ _ x1 => ?_
  simp only [wSet, wLstM, wTup, wCons, wNil, wVar, wC, getV, setV, some!]
  refine ⟨by show 3 ≤ sizeLine; decide, by show 1 ≤ sizeLine; decide, fun p hp => n1 _ _ ?_⟩
  refine seq_k fun q1 n1 r1 _ _ x1 => ?_
  have z0 : seqA (put S p (.lst [dSt (0, room, 0)])) (.ref p) = some [dSt (0, room, 0)] := seqA_at put_same
  have z1 := fun Q => oIx_eq (i := 0) z0 rfl Q
  simp only [wSet, wDict1, wBin, wVar, wC, getV, setV, some!]
  refine (z1 _).mpr ?_
  simp only [keyD_st, some!]
  refine fun q hq => n1 _ _ ?_
  refine seq_k fun q1 n1 r1 _ _ x1 => ?_
  simp only [wSet, wC, setV]
  refine n1 _ _ ?_
  have hqp : q ≠ p := fun z => by rw [z, put_same] at hq; cases hq
  have W0 : WSt S (put (put S p (.lst [dSt (0, room, 0)])) q (.dN q [(dSt (0, room, 0), .bl true)])) p q room [(0, room, 0)] [(dSt (0, room, 0), .bl true)] := by
    refine ⟨Ne.symm hqp, ⟨hp, by rw [put_ne hqp] at hq; exact hq⟩, by rw [put_ne (Ne.symm hqp), put_same]; rfl, put_same, fun a m e => ?_, fun st hst => ?_, rfl, Nat.le_refl _⟩
    · have e1 : a ≠ p := fun z => by rw [z, hp] at e; cases e
      have e2 : a ≠ q := fun z => by rw [put_ne hqp] at hq; rw [z, hq] at e; cases e
      rw [put_ne e2, put_ne e1]; exact e
    · rw [List.mem_singleton.mp hst]
      exact ⟨by show 0 ≤ room; omega, Int.le_refl _, by show room + 0 ≤ room; omega⟩
  show wSeq _ _ _ (put (put S p (.lst [dSt (0, room, 0)])) q (.dN q [(dSt (0, room, 0), .bl true)])) _
  generalize put (put S p (.lst [dSt (0, room, 0)])) q (.dN q [(dSt (0, room, 0), .bl true)]) = S1 at W0
  refine seq_k fun q1 n1 r1 _ _ x1 => ?_
  simp only [wFor, wRg1, wC, asI]
  refine ⟨⟨by decide, by decide⟩, ?_⟩
  have D0 : 0 ≤ delF room s := by
    have := Int.ediv_le_ediv (show 0 < s by omega) (show 1 * s ≤ room + s - 1 by omega)
    rw [Int.mul_ediv_cancel _ (by omega)] at this
    unfold delF; omega
  have fin : ∀ (worst : Int) x6 x7 x8 x9 x10 x11 x12 S', Ext S S' → worst = delF room s → q1.nx [some (.int room), some (.int each), some (.int s), some (.ref p), some (.ref q), some (.int worst), x6, x7, x8, x9, x10, x11, x12] S' := fun worst x6 x7 x8 x9 x10 x11 x12 S' e1 e2 => by
    refine n1 _ _ ?_
    simp only [wRet, wVar, getV, some!]
    rw [e2]
    exact h S' e1
  refine forI_invq (fun i e S' => ∃ (sts : List (Int × Int × Int)) (kvs : List (D × D)) (worst : Int) (x6 x7 x8 x9 x10 x11 x12 : Option D), WSt S S' p q room sts kvs ∧ sts.length ≤ 1 + 1001 * i ∧ (0 < i → worst = delF room s) ∧ worst ≤ delF room s ∧
    e = [some (.int room), some (.int each), some (.int s), some (.ref p), some (.ref q), some (.int worst), x6, x7, x8, x9, x10, x11, x12])
    ⟨_, _, 0, none, none, none, none, none, none, none, W0, by simp, fun z => absurd z (Nat.lt_irrefl _), D0, rfl⟩ (fun _ _ _ _ => trivial) ?_ ?_
  · clear W0 z0 z1 hp hq hqp
    rintro i d e S' hi ⟨sts, kvs, worst, x6, x7, x8, x9, x10, x11, x12, W, hlen, hw1, hw2, rfl⟩ q5 hq5 _ hbk _ _
    obtain ⟨hlt, rfl⟩ := rngD_get hi
    have hi2 : i < 2000 := hlt
    rw [Int.zero_add]
    simp only [gN, setV]
    refine seq_k fun q6 n6 _ b6 _ _ => ?_
    simp only [wIf, wTest, wBin, wCB, wCons, wNil, wVar, getV, some!]
    refine oLen_of (seqA_at W.atp) ?_
    rw [List.length_map]
    simp only [oGe, oI0, decide_eq_true_eq]
    have hpos := lt_of_some W.head
    split
    · rename_i g
      simp only [wBreak]
      rw [b6, hbk]
      exact fin _ _ _ _ _ _ _ _ _ W.ext (hw1 (by omega))
    · rename_i g
      refine n6 _ _ ?_
      obtain ⟨⟨ph, tk, wt⟩, hst⟩ : ∃ st, sts[i]? = some st := ⟨_, List.getElem?_eq_getElem (show i < sts.length by omega)⟩
      have h0 : i = 0 → tk = room ∧ wt = 0 := fun z => by
        subst z
        have e := W.head
        rw [hst] at e
        cases e
        exact ⟨rfl, rfl⟩
      obtain ⟨o1, o2, o3⟩ := W.ok _ (List.mem_of_getElem? hst)
      dsimp only at o1 o2 o3
      refine seq_k fun q6 n6 _ _ _ _ => ?_
      simp only [wSet, wBin, wVar, getV, setV, some!]
      refine (oIx_eq (seqA_at W.atp) (at_map hst) _).mpr (n6 _ _ ?_)
      have a0 := fun S Q => oIx_eq (S := S) (x := dSt (ph, tk, wt)) (i := 0) rfl rfl Q
      have a1 := fun S Q => oIx_eq (S := S) (x := dSt (ph, tk, wt)) (i := 1) rfl rfl Q
      have a2 := fun S Q => oIx_eq (S := S) (x := dSt (ph, tk, wt)) (i := 2) rfl rfl Q
      generalize dSt (ph, tk, wt) = dst at a0 a1 a2
      simp only [wFor, wRg1, wBin, wVar, wC, getV, some!, a1, oAdd, asI]
      refine ⟨by omega, ?_⟩
      refine forI_invq (fun j e S' => ∃ (sts : List (Int × Int × Int)) (kvs : List (D × D)) (worst : Int) (x8 x9 x10 x11 x12 : Option D), WSt S S' p q room sts kvs ∧ sts.length ≤ 1 + 1001 * i + j ∧ (0 < i → worst = delF room s) ∧ worst ≤ delF room s ∧ (1 < j → (wt + ((j : Int) - 1) + s - 1) / s - 1 ≤ worst) ∧
        e = [some (.int room), some (.int each), some (.int s), some (.ref p), some (.ref q), some (.int worst), some (.int (i : Int)), some dst, x8, x9, x10, x11, x12])
        ⟨sts, kvs, worst, _, _, _, _, _, W, by omega, hw1, hw2, fun z => absurd z (by omega), rfl⟩ (fun _ _ _ _ => trivial) ?_ ?_
      · clear W hlen hw1 hw2 hst hpos g
        rintro j d e S' hj ⟨sts, kvs, worst, x8, x9, x10, x11, x12, W, hlen, hw1, hw2, hw3, rfl⟩ q7 hq7 _ _ _ _
        obtain ⟨hlt, rfl⟩ := rngD_get hj
        have hj2 : (j : Int) ≤ tk := by omega
        rw [Int.zero_add]
        simp only [gN, setV]
        refine seq_k fun q6 n6 _ _ _ _ => ?_
        simp only [wSet, wBin, wVar, wC, getV, setV, some!, a2, oAdd]
        refine n6 _ _ ?_
        refine seq_k fun q6 n6 _ _ _ _ => ?_
        have hd := del_mono hs1 (show wt + (j : Int) ≤ room by omega)
        have rest : ∀ worst2 : Int, (0 < i → worst2 = delF room s) → worst2 ≤ delF room s → (0 < j → (wt + (j : Int) + s - 1) / s - 1 ≤ worst2) → q6.nx [some (.int room), some (.int each), some (.int s), some (.ref p), some (.ref q), some (.int worst2), some (.int (i : Int)), some dst, some (.int (j : Int)), some (.int (wt + (j : Int))), x10, x11, x12] S' := by
          intro worst2 v1 v2 v3
          clear hw1 hw2 hw3
          refine n6 _ _ ?_
          refine seq_k fun q6 n6 _ _ _ _ => ?_
          simp only [wSet, wBin, wVar, wC, getV, setV, some!, a0, oAdd]
          refine n6 _ _ ?_
          refine seq_k fun q6 n6 _ _ _ _ => ?_
          simp only [wSet, wBin, wVar, wC, getV, setV, some!, a1, oSub, oI0]
          refine n6 _ _ ?_
          refine seq_k fun q6 n6 _ _ _ _ => ?_
          have rest2 : ∀ ph2 tk2 : Int, okSt room (ph2, tk2, max 0 (wt + (j : Int) - s)) → q6.nx [some (.int room), some (.int each), some (.int s), some (.ref p), some (.ref q), some (.int worst2), some (.int (i : Int)), some dst, some (.int (j : Int)), some (.int (wt + (j : Int))), some (.int ph2), some (.int tk2), x12] S' := by
            intro ph2 tk2 hok
            refine n6 _ _ ?_
            refine seq_k fun q6 n6 _ _ _ _ => ?_
            simp only [wSet, wTup, wCB, wBin, wCons, wNil, wVar, wC, getV, setV, some!, oSub, oI0, oMax2, two, asI]
            refine ⟨by show 3 ≤ sizeLine; decide, n6 _ _ ?_⟩
            have hk := keyD_st (s := (ph2, tk2, max 0 (wt + (j : Int) - s)))
            have go : ∀ (sts2 : List (Int × Int × Int)) kvs2 S2, WSt S S2 p q room sts2 kvs2 → sts2.length ≤ sts.length + 1 → q7.nx [some (.int room), some (.int each), some (.int s), some (.ref p), some (.ref q), some (.int worst2), some (.int (i : Int)), some dst, some (.int (j : Int)), some (.int (wt + (j : Int))), some (.int ph2), some (.int tk2), some (dSt (ph2, tk2, max 0 (wt + (j : Int) - s)))] S2 := fun sts2 kvs2 S2 W2 hl2 =>
              hq7 _ _ ⟨sts2, kvs2, worst2, _, _, _, _, _, W2, by omega, v1, v2, fun hz => by rw [show ((j + 1 : Nat) : Int) - 1 = (j : Int) by omega]; exact v3 (by omega), rfl⟩
            show wIf _ _ _ [some (.int room), some (.int each), some (.int s), some (.ref p), some (.ref q), some (.int worst2), some (.int (i : Int)), some dst, some (.int (j : Int)), some (.int (wt + (j : Int))), some (.int ph2), some (.int tk2), some (dSt (ph2, tk2, max 0 (wt + (j : Int) - s)))] S' q7
            generalize hst2 : dSt (ph2, tk2, max 0 (wt + (j : Int) - s)) = st2 at go hk
            simp only [wIf, wTest, wBin, wVar, getV, some!, oInN, dnAt, W.atq, hk, if_true]
            refine ⟨trivial, ?_⟩
            split
            · refine seq_k fun q8 n8 _ _ _ _ => ?_
              have hkl := W.klen
              simp only [wSetN, wVar, wC, getV, some!, setN, dnAt, W.atq, hk]
              refine ⟨trivial, by unfold sizeLine; omega, n8 _ _ ?_⟩
              have e1 : put S' q (.dN q (putN kvs (.tup [.num ph2, .num tk2, .num (max 0 (wt + (j : Int) - s))]) st2 (.bl true))) p = some (.lst (sts.map dSt)) := by rw [put_ne W.ne]; exact W.atp
              simp only [wDrop, wMt, wCons, wNil, wVar, getV, some!, oAppend, mutL, one, e1, List.length_map]
              refine ⟨by unfold sizeLine; omega, ?_⟩
              subst hst2
              exact go (sts ++ [_]) _ _ (W.grow hok putN_len) (by rw [List.length_append]; exact Nat.le_refl _)
            · simp only [wNext]
              exact go _ _ _ W (by omega)
          have w1 : max 0 (wt + (j : Int) - s) ≤ room - (tk - (j : Int)) := by omega
          have w2 : max 0 (wt + (j : Int) - s) = 0 ∨ max 0 (wt + (j : Int) - s) + 1 ≤ room - (tk - (j : Int)) := by omega
          simp only [wIf, wTest, wBin, wVar, getV, some!, oEq, shD_int, eqD_int, true_and, decide_eq_true_eq]
          split
          · refine seq_k fun q8 n8 _ _ _ _ => ?_
            simp only [wSet, wC, setV]
            refine n8 _ _ ?_
            simp only [wSet, wCB, wBin, wCons, wNil, wVar, wC, getV, setV, some!, oInt, one, oAdd, oMin2, two, asI]
            refine rest2 0 _ ⟨?_, ?_, ?_⟩
            · show 0 ≤ min room (tk - (j : Int) + 1); omega
            · show 0 ≤ max 0 (wt + (j : Int) - s); omega
            · show min room (tk - (j : Int) + 1) + max 0 (wt + (j : Int) - s) ≤ room; omega
          · simp only [wNext]
            refine rest2 _ _ ⟨?_, ?_, ?_⟩
            · show 0 ≤ tk - (j : Int); omega
            · show 0 ≤ max 0 (wt + (j : Int) - s); omega
            · show tk - (j : Int) + max 0 (wt + (j : Int) - s) ≤ room; omega
        simp only [wIf, wTest, wBin, wVar, wC, getV, some!, oGt, oI0, decide_eq_true_eq]
        split
        · simp only [wSet, wCB, wBin, wCons, wNil, wVar, wC, getV, setV, some!, oInt, one, oAdd, oSub, oI0, oDiv, oI, oMax2, two, asI]
          refine ⟨divw (by omega), rest _ (fun z => ?_) ?_ (fun z => by omega)⟩
          · have := hw1 z
            unfold delF at this ⊢; omega
          · unfold delF at hw2 ⊢; omega
        · simp only [wNext]
          exact rest _ hw1 hw2 fun z => by omega
      · clear W hlen hw1 hw2
        rintro e S' ⟨sts2, kvs, worst, x8, x9, x10, x11, x12, W, hlen, hw1, hw2, hw3, rfl⟩
        rw [rngD_length] at hlen hw3
        refine hq5 _ _ ⟨sts2, kvs, worst, _, _, _, _, _, _, _, W, by omega, fun _ => ?_, hw2, rfl⟩
        by_cases z : 0 < i
        · exact hw1 z
        · have i0 : i = 0 := by omega
          obtain ⟨rfl, rfl⟩ := h0 i0
          have := hw3 (by omega)
          rw [show (0 : Int) + (((tk + 1).toNat : Nat) - 1 : Int) + s - 1 = tk + s - 1 by omega] at this
          unfold delF at hw2 ⊢; omega
  · rintro e S' ⟨sts, kvs, worst, x6, x7, x8, x9, x10, x11, x12, W, hlen, hw1, hw2, rfl⟩
    exact fin _ _ _ _ _ _ _ _ _ W.ext (hw1 (by rw [rngD_length]; decide))
end K41
set_option Elab.async false
set_option linter.all false
set_option maxRecDepth 100000
set_option maxHeartbeats 1000000
namespace K41
open PySem PySem.Spec PyProof.Rows L2 DL
theorem len__law_due (c : Cl) : ∀ ds S Q E, sp__law_due c ds S Q E → ds.length = 3 := by
  rintro ds S Q E ⟨_, _, _, rfl, _⟩; rfl
theorem rd__law_due (c : Cl) : ∀ ds S Q X1, sp__law_due c ds S Q X1 → w__law_due c (startD N__law_due_ ds) S (endQ Q X1) := by
  rintro ds S Q X1 ⟨room, each, s, rfl, hR, h⟩
  obtain ⟨⟨hr1, hr2⟩, ⟨he1, he2⟩, ⟨hs1, hs2⟩⟩ := id hR
  show w__law_due c [some (.int room), some (.int each), some (.int s)] S (endQ Q X1)
  unfold w__law_due
  refine seq_k fun q1 n1 r1 _ _ x1 => ?_
  have rest : q1.nx [some (.int room), some (.int each), some (.int s)] S := by
    refine n1 _ _ ?_
    simp only [wRet, wBin, wVar, wC, getV, some!, oAdd, oSub, oI0, oDiv, oI]
    exact ⟨divw (by omega), h S Ext.refl⟩
  simp only [wIf, wAnd, wTest, wBin, wVar, wC, getV, some!, oLe, oI0, decide_eq_true_eq]
  split
  · split
    · split
      · simp only [wRet, wCall, wCons, wNil, wVar, getV, some!]
        rw [r1]
        exact ⟨room, each, s, rfl, hR, h⟩
      · simp only [wNext]; exact rest
    · simp only [wNext]; exact rest
  · simp only [wNext]; exact rest
theorem len__law_refused (c : Cl) : ∀ ds S Q E, sp__law_refused c ds S Q E → ds.length = 3 := by
  rintro ds S Q E ⟨_, _, _, rfl, _⟩; rfl
theorem rd__law_refused (c : Cl) : ∀ ds S Q X1, sp__law_refused c ds S Q X1 → w__law_refused c (startD N__law_refused_ ds) S (endQ Q X1) := by
  rintro ds S Q X1 ⟨r, e0, s, rfl, kr, ke, ks, e⟩
  show w__law_refused c [some r, some e0, some s, none] S (endQ Q X1)
  unfold w__law_refused
  refine seq_k fun q1 n1 r1 _ _ x1 => ?_
  simp only [wTry, wDrop, wCall, wCons, wNil, wVar, getV, some!, xcQ]
  refine ⟨r, e0, s, rfl, kr, ke, ks, fun h1 => ?_, fun h1 h2 => ?_, fun h1 h2 h3 => ?_, fun room each sp hr he hs hR => ?_⟩
  · unfold tellOf at e
    rw [h1, if_neg Bool.false_ne_true] at e
    refine ⟨true, c.exN, fun _ => ⟨_, _, rfl, fun a dd => ?_⟩, fun z => by cases z⟩
    simp only [wSeq, wIf, wTest, wAnd, wNot, wIsET, wIsE, wExF, wVar, getV, setV, some!, List.map_cons, List.map_nil, c.anyN, c.nn, c.isN, c.xfN, true_and, and_true, Bool.false_eq_true, if_false, if_true, wNext, Bool.not_false, wRet, wLst, wCons, wNil, wC, r1]
    exact ⟨by show 2 ≤ sizeLine; decide, e⟩
  · unfold tellOf at e
    rw [h1, if_pos rfl, h2, if_neg Bool.false_ne_true] at e
    refine ⟨true, c.exN, fun _ => ⟨_, _, rfl, fun a dd => ?_⟩, fun z => by cases z⟩
    simp only [wSeq, wIf, wTest, wAnd, wNot, wIsET, wIsE, wExF, wVar, getV, setV, some!, List.map_cons, List.map_nil, c.anyN, c.nn, c.isN, c.xfN, true_and, and_true, Bool.false_eq_true, if_false, if_true, wNext, Bool.not_false, wRet, wLst, wCons, wNil, wC, r1]
    exact ⟨by show 2 ≤ sizeLine; decide, e⟩
  · unfold tellOf at e
    rw [h1, if_pos rfl, h2, if_pos rfl, h3, if_neg Bool.false_ne_true] at e
    refine ⟨true, c.exN, fun _ => ⟨_, _, rfl, fun a dd => ?_⟩, fun z => by cases z⟩
    simp only [wSeq, wIf, wTest, wAnd, wNot, wIsET, wIsE, wExF, wVar, getV, setV, some!, List.map_cons, List.map_nil, c.anyN, c.nn, c.isN, c.xfN, true_and, and_true, Bool.false_eq_true, if_false, if_true, wNext, Bool.not_false, wRet, wLst, wCons, wNil, wC, r1]
    exact ⟨by show 2 ≤ sizeLine; decide, e⟩
  · subst hr he hs
    unfold tellOf at e
    rw [if_pos (show inR 1 1000 (.int room) = true from decide_eq_true hR.1), if_pos (show inR 1 100 (.int each) = true from decide_eq_true hR.2.1), if_pos (show inR 1 100 (.int sp) = true from decide_eq_true hR.2.2)] at e
    refine n1 _ _ ?_
    simp only [wRet, wLst, wCons, wNil, wC]
    exact ⟨by show 1 ≤ sizeLine; decide, e⟩
theorem refused_go {c : Cl} {S : Sto} {r e s v : D} {Q : Qd} {E E' : XQ} (kr : Kn S r) (ke : Kn S e) (ks : Kn S s) (tell : tellOf r e s = .lst [.str "number", v]) (hv : ∀ S, Tr S v v) (hf : fits 4 v)
    (q : Q (.bl true) S) : sp__law_refused c [r, e, s] S (fun told S1 => 2 ≤ sizeLine ∧ sp__law_like c [told, .lst [.str "number", v]] S1 Q E) E' := by
  refine ⟨r, e, s, rfl, kr, ke, ks, ⟨by show 2 ≤ sizeLine; decide, ?_⟩⟩
  rw [tell]
  exact like_told (n := 0) (tr_word (hv S)) (tr_word (hv S)) (fits_word (by decide +kernel) hf) q
theorem inR_yes {lo hi i : Int} (h : lo ≤ i ∧ i ≤ hi) : inR lo hi (.int i) = true := decide_eq_true h
theorem len__law_refusals (c : Cl) : ∀ ds S Q E, sp__law_refusals c ds S Q E → ds.length = 4 := by
  rintro ds S Q E ⟨_, _, _, _, _, _, rfl, _⟩; rfl
theorem rd__law_refusals (c : Cl) : ∀ ds S Q X1, sp__law_refusals c ds S Q X1 → w__law_refusals c (startD N__law_refusals_ ds) S (endQ Q X1) := by
  rintro ds S Q X1 ⟨p, g, N, room, each, s, rfl, ⟨hr, he, hs⟩, hp, hN, h⟩
  have hne : p ≠ g := hp.1
  show w__law_refusals c [some (.ref p), some (.int room), some (.int each), some (.int s), none, none, none, none] S (endQ Q X1)
  unfold w__law_refusals
  refine seq_k fun q1 n1 r6 _ _ x1 => ?_
  simp only [wFor, wRg1, wC, asI]
  refine ⟨⟨by decide, by decide⟩, ?_⟩
  refine forI_invq (fun i e S' => (Ext2 p g S S' ∧ IsPool S' p g (N + 10 * (i : Int))) ∧ ∃ x3 x4 x5 x6, e = [some (.ref p), some (.int room), some (.int each), some (.int s), x3, x4, x5, x6])
    ⟨⟨Ext2.refl, by simpa using hp⟩, _, _, _, _, rfl⟩ (fun _ _ _ _ => trivial) ?_ ?_
  · rintro i d e S' hi ⟨⟨E, P⟩, x3, x4, x5, x6, rfl⟩ q hq _ _ _ _
    obtain ⟨hlt, rfl⟩ := rngD_get hi
    have hlt' : i < 2 := hlt
    rw [Int.zero_add]
    simp only [gN, setV]
    refine seq_k fun q2 n2 _ _ _ _ => ?_
    simp only [wSet, wCall, wCons, wNil, wVar, wC, getV, setV, some!]
    refine ⟨p, g, _, 1000, rfl, .inr rfl, P, by omega, fun v hv k ok => n2 _ _ ?_⟩
    have E := E.trans (Ext2.pool (h := k))
    have P := IsPool.mk (S := S') hne ok
    generalize inPool S' p g k = S2 at P E
    refine seq_k fun q2 n2 _ _ _ _ => ?_
    simp only [wSet, wCall, wCons, wNil, wVar, wC, getV, setV, some!]
    refine ⟨p, g, _, 100, rfl, .inl rfl, P, by omega, fun u hu k ok => n2 _ _ ?_⟩
    have E := E.trans (Ext2.pool (h := k))
    have P := IsPool.mk (S := S2) hne ok
    generalize inPool S2 p g k = S3 at P E
    refine seq_k fun q2 n2 _ _ _ _ => ?_
    simp only [wSet, wCall, wCons, wNil, wVar, wC, getV, setV, some!]
    refine ⟨p, g, _, 100, rfl, .inl rfl, P, by omega, fun t ht k ok => n2 _ _ ?_⟩
    have E := E.trans (Ext2.pool (h := k))
    have P := IsPool.mk (S := S3) hne ok
    generalize inPool S3 p g k = S4 at P E
    have kn : ∀ {top : Int} {v : D}, BadV top v → Kn S4 v := fun h => tr_kn (h.1 _)
    have ki : ∀ {i : Int}, Kn S4 (.int i) := ⟨_, rfl⟩
    have kx : ∀ {i : Nat} {a b x : D}, i < 2 → Kn S4 a → Kn S4 b → atI [a, b] (i : Int) = some x → Kn S4 x := fun {i a b x} hi ha hb hx => by
      rcases (show i = 0 ∨ i = 1 by omega) with rfl | rfl
      · cases (show some a = some x from hx); exact ha
      · cases (show some b = some x from hx); exact hb
    have xe : ∀ {a b : D}, ∃ x, atI [a, b] (i : Int) = some x := fun {a b} => by
      rcases (show i = 0 ∨ i = 1 by omega) with rfl | rfl
      · exact ⟨a, rfl⟩
      · exact ⟨b, rfl⟩
    refine seq_k fun q2 n2 _ _ _ _ => ?_
    simp only [wIf, wNot, wTest, wCall, wBin, wLst, wCons, wNil, wVar, wC, getV, setV, some!]
    refine refused_go (kn hv) (kn hu) (kn ht) (by unfold tellOf; rw [hv.2.2, if_neg Bool.false_ne_true]) hv.1 (hv.2.1 3) ?_
    simp only [Bool.not_true, Bool.false_eq_true, if_false, wNext]
    refine n2 _ _ ?_
    refine seq_k fun q2 n2 _ _ _ _ => ?_
    obtain ⟨y, ey⟩ := xe (a := .int s) (b := t)
    simp only [wIf, wNot, wTest, wCall, wBin, wLst, wCons, wNil, wVar, wC, getV, setV, some!, oIx, seqA, seqL, seqM, ey]
    refine ⟨by show 2 ≤ sizeLine; decide, refused_go (kn hv) ki (kx hlt' ki (kn ht) ey) (by unfold tellOf; rw [hv.2.2, if_neg Bool.false_ne_true]) hv.1 (hv.2.1 3) ?_⟩
    simp only [Bool.not_true, Bool.false_eq_true, if_false, wNext]
    refine n2 _ _ ?_
    refine seq_k fun q2 n2 _ _ _ _ => ?_
    obtain ⟨y, ey⟩ := xe (a := t) (b := .int s)
    simp only [wIf, wNot, wTest, wCall, wBin, wLst, wCons, wNil, wVar, wC, getV, setV, some!, oIx, seqA, seqL, seqM, ey]
    refine ⟨by show 2 ≤ sizeLine; decide, refused_go ki (kn hu) (kx hlt' (kn ht) ki ey) (by unfold tellOf; rw [if_pos (inR_yes hr), hu.2.2, if_neg Bool.false_ne_true]) hu.1 (hu.2.1 3) ?_⟩
    simp only [Bool.not_true, Bool.false_eq_true, if_false, wNext]
    refine n2 _ _ ?_
    simp only [wIf, wNot, wTest, wCall, wBin, wLst, wCons, wNil, wVar, wC, getV, setV, some!]
    refine refused_go ki ki (kn ht) (by unfold tellOf; rw [if_pos (inR_yes hr), if_pos (inR_yes he), ht.2.2, if_neg Bool.false_ne_true]) ht.1 (ht.2.1 3) ?_
    simp only [Bool.not_true, Bool.false_eq_true, if_false, wNext]
    exact hq _ _ ⟨⟨E, P.mono (by omega)⟩, _, _, _, _, rfl⟩
  · rintro e S' ⟨⟨E, P⟩, x3, x4, x5, x6, rfl⟩
    rw [rngD_length] at P
    refine n1 _ _ ?_
    simp only [wRet, wC]
    exact h _ E (P.mono (by show N + 10 * 2 ≤ N + 50; omega))
end K41
set_option Elab.async false
set_option linter.all false
set_option maxRecDepth 100000
set_option maxHeartbeats 1000000
namespace K41
open PySem PySem.Spec PyProof.Rows L2 DL
theorem len__law_lets (c : Cl) : ∀ ds S Q E, sp__law_lets c ds S Q E → ds.length = 3 := by
  rintro ds S Q E ⟨_, _, _, _, rfl, _⟩; rfl
theorem at_last {α : Type} {xs : List α} {x : α} (h : xs[xs.length - 1]? = some x) : atI xs (-1) = some x := by
  have hn := lt_of_some h
  unfold atI ixN
  rw [if_neg (by decide), if_pos (by omega)]
  show xs[(-1 + (xs.length : Int)).toNat]? = _
  rw [show (-1 + (xs.length : Int)).toNat = xs.length - 1 by omega, h]
theorem rd__law_lets (c : Cl) : ∀ ds S Q X1, sp__law_lets c ds S Q X1 → w__law_lets c (startD N__law_lets_ ds) S (endQ Q X1) := by
  rintro ds S Q X1 ⟨room, each, d, l, rfl, hr, he, hl, td, h⟩
  have hb : BuOk room each l := ⟨⟨by omega, by omega⟩, he, hl⟩
  have pa := pat_of td (.inl rfl)
  have hl40 := hl.1
  show w__law_lets c [some (.int room), some (.int each), some d, none, none] S (endQ Q X1)
  unfold w__law_lets
  refine seq_k fun q1 n1 r1 _ _ x1 => ?_
  simp only [wSet, wBin, wCall, wCons, wNil, wVar, wC, getV, setV, some!, oPow, oI, pow6]
  refine ⟨⟨by decide, by decide, by decide⟩, room, each, d, l, 1000000, rfl, pa, hb, ix_of2.1.mpr (n1 _ _ ?_)⟩
  refine seq_k fun q1 n1 r1 _ _ x1 => ?_
  have rest : q1.nx [some (.int room), some (.int each), some d, some (dB (letsF room each l)), none] S := by
    refine n1 _ _ ?_
    refine seq_k fun q1 n1 r1 _ _ x1 => ?_
    simp only [wSet, wCall, wCons, wNil, wVar, getV, setV, some!]
    refine ⟨d, .lst (l.map dPairL), rfl, td, fits_asks (.inl rfl) (by omega), fun S2 d' fp ext tf _ _ => n1 _ _ ?_⟩
    refine seq_k fun q1 n1 r1 _ _ x1 => ?_
    simp only [wIf, wOr, wNot, wTest, wCall, wCons, wNil, wVar, wC, getV, some!]
    refine lets_call tf.tr (.inl rfl) hl hr he fun S3 e3 => ?_
    refine ⟨_, _, dB (letsF room each l), rfl, tr_dB, tr_dB, fits_dB (by rw [lets_len]; omega), ?_⟩
    simp only [Bool.not_true, Bool.false_eq_true, if_false]
    refine like_told (n := 0) (tf.tr.ext e3) ((td.ext ext).ext e3) (fits_asks (.inl rfl) (by omega)) ?_
    simp only [Bool.not_true, Bool.false_eq_true, if_false, wNext]
    refine n1 _ _ ?_
    simp only [wRet, wVar, getV, some!]
    exact h _ (ext.trans e3)
  obtain ⟨xs, ex, exl, hx⟩ := id pa
  simp only [wIf, wAnd, wTest, wCB, wBin, wUn, wCons, wNil, wVar, wC, getV, some!]
  refine oLen_of ex ?_
  simp only [oGt, oI0, decide_eq_true_eq]
  split
  · rename_i g
    obtain ⟨⟨a, b⟩, hp⟩ : ∃ p, l[l.length - 1]? = some p := ⟨_, List.getElem?_eq_getElem (by omega)⟩
    obtain ⟨y, hy, ey⟩ := hx _ _ hp
    have b1 := fun Q => oIx_eq ex (at_last (by rw [exl]; exact hy)) Q
    have b2 := fun Q => oIx_eq ey (ix2_at (D.int a) (D.int b)).1 Q
    simp only [oNeg, b1, b2, oLe, oI0, decide_eq_true_eq]
    split
    · simp only [wSet, wBin, wUn, wCall, wCons, wNil, wVar, wC, getV, setV, some!, oNeg, b1, b2]
      exact ⟨room, each, d, l, a, rfl, pa, hb, ⟨by rw [last_at, hp]; exact Int.le_refl _, by omega⟩, ix_of2.1.mpr rest⟩
    · simp only [wNext]; exact rest
  · simp only [wNext]; exact rest
theorem len__law_behind (c : Cl) : ∀ ds S Q E, sp__law_behind c ds S Q E → ds.length = 5 := by
  rintro ds S Q E ⟨_, _, _, _, _, rfl, _⟩; rfl
theorem rd__law_behind (c : Cl) : ∀ ds S Q X1, sp__law_behind c ds S Q X1 → w__law_behind c (startD N__law_behind_ ds) S (endQ Q X1) := by
  rintro ds S Q X1 ⟨room, each, s, d, l, rfl, ⟨hr, he, hs⟩, hl, hall, td, h⟩
  have pa := pat_of td (.inl rfl)
  have hl40 := hl.1
  show w__law_behind c [some (.int room), some (.int each), some (.int s), some d, some (.int (delF room s)), none, none, none, none] S (endQ Q X1)
  unfold w__law_behind
  refine seq_k fun q1 n1 r1 _ _ x1 => ?_
  simp only [wSet, wCall, wCons, wNil, wVar, getV, setV, some!]
  refine ⟨d, l, s, rfl, pa, hl, hs, n1 _ _ ?_⟩
  refine seq_k fun q1 n1 r1 _ _ x1 => ?_
  obtain ⟨xs, ex, exl, hx⟩ := id pa
  simp only [wFor, wRg1, wCB, wCons, wNil, wVar, getV, some!]
  refine oLen_of ex ?_
  rw [exl]
  simp only [asI]
  refine ⟨by omega, ?_⟩
  refine forI_invq (fun i e S' => S' = S ∧ ∃ x6, e = [some (.int room), some (.int each), some (.int s), some d, some (.int (delF room s)), some (dT (endsF s l)), x6, none, none]) ⟨rfl, none, rfl⟩ (fun _ _ _ _ => trivial) ?_ ?_
  · rintro i e' e S' hi ⟨rfl, x6, rfl⟩ q hq _ _ _ _
    obtain ⟨hlt, rfl⟩ := rngD_get hi
    have hil : i < l.length := by omega
    obtain ⟨⟨a, b⟩, hp⟩ : ∃ p, l[i]? = some p := ⟨_, List.getElem?_eq_getElem hil⟩
    obtain ⟨y, hy, ey⟩ := hx _ _ hp
    have he1 : (endsF s l)[i]? = some ((Gv s (l.take (i + 1)) - 1) / s) := by
      rw [ends_eq hs.1 fun p hp => ⟨(hl.2.1 p hp).1, (hl.2.1 p hp).2.2.1⟩, List.getElem?_map, List.getElem?_range hil]; rfl
    have b0 := fun S Q => oIx_eq (S := S) (x := dT (endsF s l)) rfl (at_map (f := D.int) he1) Q
    have b1 := fun Q => oIx_eq ex (at_k hy) Q
    have b2 := fun Q => oIx_eq ey (ix2_at (D.int a) (D.int b)).1 Q
    have hd := delay_le he.1 hs.1 (by omega) hl hall hp
    dsimp only at hd
    rw [Int.zero_add]
    simp only [gN, setV, wIf, wTest, wBin, wVar, wC, getV, some!, b0, b1, b2, oSub, oI0, oGt, decide_eq_true_eq]
    rw [if_neg (by omega)]
    simp only [wNext]
    exact hq _ _ ⟨rfl, _, rfl⟩
  · rintro e S' ⟨rfl, x6, rfl⟩
    refine n1 _ _ ?_
    refine seq_k fun q1 n1 r1 _ _ x1 => ?_
    simp only [wSet, wCall, wCons, wNil, wVar, getV, setV, some!]
    refine ⟨d, .lst (l.map dPairL), rfl, td, fits_asks (.inl rfl) (by omega), fun S2 d' fp ext tf _ _ => n1 _ _ ?_⟩
    have td2 := td.ext ext
    have tc2 := tf.tr
    refine seq_k fun q1 n1 r1 _ _ x1 => ?_
    simp only [wIf, wOr, wNot, wTest, wCall, wCons, wNil, wVar, wC, getV, some!]
    refine ends_call tc2 (.inl rfl) hl hs ?_
    refine like_told (n := 0) (t := dT (endsF s l)) ⟨_, rfl, trs_ints⟩ ⟨_, rfl, trs_ints⟩ (fits_dT (by rw [ends_len hs.1 hl]; omega)) ?_
    simp only [Bool.not_true, Bool.false_eq_true, if_false]
    refine like_told (n := 0) tc2 td2 (fits_asks (.inl rfl) (by omega)) ?_
    simp only [Bool.not_true, Bool.false_eq_true, if_false, wNext]
    refine n1 _ _ ?_
    refine seq_k fun q1 n1 r1 _ _ x1 => ?_
    simp only [wSet, wCall, wCons, wNil, wVar, getV, setV, some!]
    refine ⟨each, d, l, rfl, pa.ext ext, he, hl, n1 _ _ ?_⟩
    have hn : nbF each l ≤ room := (lets_iff (by omega) he.1 hl).mp hall
    simp only [wRet, wAndV, wBin, wCall, wCons, wNil, wVar, getV, some!, oLe, oI0, decide_eq_true hn, if_true]
    refine room_call tc2 (.inl rfl) hl he ?_
    exact like_told (n := 0) (t := .int (nbF each l)) rfl rfl trivial (h _ ext)
end K41
set_option Elab.async false
set_option linter.all false
set_option maxRecDepth 100000
set_option maxHeartbeats 1000000
namespace K41
open PySem PySem.Spec PyProof.Rows L2 DL
def sndA (S : Sto) (x : D) : Option D := match seqA S x with
  | some [_, y] => some y
  | _ => none
theorem fm_sndA {S : Sto} : ∀ {l : List (Int × Int)} {xs : List D}, xs.length = l.length → (∀ (k : Nat) p, l[k]? = some p → ∃ x, xs[k]? = some x ∧ seqA S x = some [.int p.1, .int p.2]) → xs.filterMap (sndA S) = (l.map Prod.snd).map D.int
  | [], [], _, _ => rfl
  | [], _ :: _, h, _ => by simp at h
  | _ :: _, [], h, _ => by simp at h
  | p :: l, x :: xs, h, hx => by
    obtain ⟨y, e1, e2⟩ := hx 0 p rfl
    cases (show some x = some y from e1)
    have e3 : sndA S x = some (.int p.2) := by unfold sndA; rw [e2]
    rw [List.filterMap_cons, e3, fm_sndA (by simpa using h) fun k q hq => hx (k + 1) q hq]
    rfl
theorem sum_rngA : ∀ {l : List (Int × Int)}, (∀ p, p ∈ l → 1 ≤ p.2 ∧ p.2 ≤ 1000) → 0 ≤ (l.map Prod.snd).sum ∧ (l.map Prod.snd).sum ≤ 1000 * (l.length : Int)
  | [], _ => ⟨Int.le_refl _, Int.le_refl _⟩
  | p :: l, h => by
    have h1 := h p List.mem_cons_self
    have h2 := sum_rngA (l := l) fun q hq => h q (List.mem_cons_of_mem _ hq)
    rw [List.map_cons, List.sum_cons, List.length_cons]
    constructor <;> omega
theorem oAdd_lst {S : Sto} {d : D} {xs ys : List D} {Q : Qd} (h : seqM S d = some xs) (hz : xs.length + ys.length ≤ sizeLine) (q : Q (.lst (xs ++ ys)) S) : oAdd S d (.lst ys) Q := by
  have e : oCatL S d (.lst ys) Q := by
    show some! (seqM S d) _
    rw [h]
    exact ⟨hz, q⟩
  cases d with
  | ref a => exact e
  | lst zs => exact e
  | _ => cases h
theorem trs_app {S : Sto} {d2 t2 : List D} (h2 : Trs S d2 t2) : ∀ {ts ds : List D}, Trs S ds ts → Trs S (ds ++ d2) (ts ++ t2)
  | [], _, h => by rw [show _ = [] from h]; exact h2
  | t :: ts, _, h => by
    obtain ⟨x, r, rfl, h1, h3⟩ := h
    exact ⟨x, r ++ d2, rfl, h1, trs_app h2 h3⟩
theorem len__law_burst (c : Cl) : ∀ ds S Q E, sp__law_burst c ds S Q E → ds.length = 6 := by
  rintro ds S Q E ⟨_, _, _, _, _, _, _, _, rfl, _⟩; rfl
theorem rd__law_burst (c : Cl) : ∀ ds S Q X1, sp__law_burst c ds S Q X1 → w__law_burst c (startD N__law_burst_ ds) S (endQ Q X1) := by
  rintro ds S Q X1 ⟨p, g, N, room, each, s, d, l, rfl, hR, hl, hl38, hlast, hall, tP, hp, hN, h⟩
  obtain ⟨⟨hr1, hr2⟩, ⟨he1, he2⟩, ⟨hs1, hs2⟩⟩ := id hR
  have hne := hp.1
  have td := tP.tr
  have pa := pat_of td (.inl rfl)
  obtain ⟨xs, ex, exl, hx⟩ := id pa
  have hls := last_nn hl
  obtain ⟨hs0, hs9⟩ := sum_rngA (l := l) fun p hp => ⟨(hl.2.1 p hp).2.2.1, (hl.2.1 p hp).2.2.2⟩
  have hm0 : 0 ≤ each * (room + 1) := Int.mul_nonneg (by omega) (by omega)
  have hm9 : each * (room + 1) ≤ 100 * 1001 := Int.mul_le_mul (by omega) (by omega) (by omega) (by omega)
  obtain ⟨at_, hat⟩ : ∃ v, v = each * (room + 1) + (l.map Prod.snd).sum + lastF l := ⟨_, rfl⟩
  show w__law_burst c [some (.ref p), some (.int room), some (.int each), some (.int s), some d, some (.int (delF room s)), none, none, none, none, none, none] S (endQ Q X1)
  unfold w__law_burst
  refine seq_k fun q1 n1 r1 _ _ x1 => ?_
  simp only [wSet, wCB, wCons, wNil, wLc, wIt, wVar, getV, some!, ex]
  refine ⟨by unfold sizeLine; omega, compI_map (sndA S) ex (fun x hxm R hR => ?_) ?_⟩
  · obtain ⟨k, hk⟩ := List.mem_iff_getElem?.mp hxm
    have hkl : k < l.length := by have := lt_of_some hk; omega
    obtain ⟨y, e1, e2⟩ := hx k _ (List.getElem?_eq_getElem hkl)
    rw [hk] at e1
    cases e1
    have e3 : sndA S x = some (.int l[k].2) := by unfold sndA; rw [e2]
    rw [e3] at hR
    simp only [gN, delVs, delV, setV, wYes, if_true, wBin, wVar, wC, getV, some!]
    exact (oIx_eq e2 rfl _).mpr hR
  rw [fm_sndA exl hx]
  simp only [oSum, one, seqL, seqM, some!, toInts_map, setV]
  refine n1 _ _ ?_
  refine seq_k fun q1 n1 r1 _ _ x1 => ?_
  simp only [wSet, wBin, wVar, wC, getV, setV, some!, oAdd, oMul]
  refine ⟨mulw2 ⟨by omega, by omega⟩ ⟨by omega, by omega⟩, n1 _ _ ?_⟩
  refine seq_k fun q1 n1 r1 _ _ x1 => ?_
  have rest : q1.nx [some (.ref p), some (.int room), some (.int each), some (.int s), some d, some (.int (delF room s)), some (.int (l.map Prod.snd).sum), some (.int at_), none, none, none, none] S := by
    refine n1 _ _ ?_
    refine seq_k fun q1 n1 r1 _ _ x1 => ?_
    simp only [wSet, wCall, wCons, wNil, wVar, getV, setV, some!]
    refine draw_of hp (by omega) ⟨by omega, by omega⟩ fun part p0 p1 k ok => n1 _ _ ?_
    have P : IsPool (inPool S p g k) p g (N + 1) := IsPool.mk hne ok
    have E0 : Ext2 p g S (inPool S p g k) := Ext2.pool
    generalize inPool S p g k = S1 at P E0
    refine seq_k fun q1 n1 r1 _ _ x1 => ?_
    simp only [wSet, wCall, wCons, wNil, wVar, getV, setV, some!]
    refine ⟨d, .lst (l.map dPairL), rfl, (tP.grow E0).tr, fits_asks (.inl rfl) (by omega), fun S2 d' fp ext tf nd fr => n1 _ _ ?_⟩
    obtain ⟨a, cs, rfl, RC, e2, e3⟩ := rows_of_copy P ext tf nd fr
    clear tf nd fr ext
    have hcl : ∀ {cs : List Cell} {l : List (Int × Int)}, cs.map Cell.t = l.map dPairL → cs.length = l.length := fun e => by
      have := congrArg List.length e
      simpa using this
    have hla : ∀ p, p ∈ l → p.1 ≤ at_ := fun p hp => by have := last_le hl hp; omega
    refine seq_k fun q1 n1 r1 _ _ x1 => ?_
    have rest2 : ∀ (l1 : List (Int × Int)) (cs1 : List Cell) (S3 : Sto), RowsC p g (N + 1) S1 S3 a cs1 → cs1.map Cell.t = l1.map dPairL → AsksG (l1 ++ [(at_, room - part)]) → (letsF room each (l1 ++ [(at_, room - part)])).all id = true → Gv s (l1 ++ [(at_, room - part)]) = at_ * s + room →
        q1.nx [some (.ref p), some (.int room), some (.int each), some (.int s), some d, some (.int (delF room s)), some (.int (l.map Prod.snd).sum), some (.int at_), some (.int part), some (.ref a), none, none] S3 := by
      clear RC e2 e3
      intro l1 cs1 S3 RC e2 hl2 hall2 hgv
      have hl2n : l1.length ≤ 39 := by have := hl2.1; rw [List.length_append] at this; simpa using this
      refine n1 _ _ ?_
      refine seq_k fun q1 n1 r1 _ _ x1 => ?_
      simp only [wDrop, wMt, wBin, wLst, wCons, wNil, wVar, wC, getV, some!, oSub, oI0, oAppend, mutL, RC.at_, one, List.length_map, hcl e2]
      refine ⟨by show 2 ≤ sizeLine; decide, by unfold sizeLine; omega, n1 _ _ ?_⟩
      have RC := RC.addVal (v := .lst [.int at_, .int (room - part)]) (plain_of rfl)
      have tr : ∀ {S4 : Sto} {M : Int}, RowsC p g M S1 S4 a (cs1 ++ [.val (.lst [.int at_, .int (room - part)])]) → Tr S4 (.ref a) (.lst ((l1 ++ [(at_, room - part)]).map dPairL)) := fun R => by
        have := R.tr
        rw [List.map_append, e2] at this
        rw [List.map_append]; exact this
      generalize put S3 a _ = S4 at RC
      have elast : (l1 ++ [(at_, room - part)]).length - 1 = l1.length := by rw [List.length_append]; rfl
      have ends_last : atI ((endsF s (l1 ++ [(at_, room - part)])).map D.int) (-1) = some (.int ((at_ * s + room - 1) / s)) := by
        refine at_last ?_
        rw [List.length_map, ends_len hs1 hl2, elast, List.getElem?_map, ends_eq hs1 fun p hp => ⟨(hl2.2.1 p hp).1, (hl2.2.1 p hp).2.2.1⟩, List.getElem?_map, List.getElem?_range (by rw [List.length_append]; show l1.length < l1.length + 1; omega)]
        show some (D.int ((Gv s ((l1 ++ [(at_, room - part)]).take (l1.length + 1)) - 1) / s)) = _
        rw [show (l1 ++ [(at_, room - part)]).take (l1.length + 1) = l1 ++ [(at_, room - part)] from List.take_of_length_le (by rw [List.length_append]; exact Nat.le_refl _), ← hgv]
        all_goals rfl
      generalize l1 ++ [(at_, room - part)] = l2 at hl2 hall2 hgv tr ends_last
      have bd := burst_tick (at_ := at_) (s := s) (room := room) hs1
      -- what is let by
      refine seq_k fun q1 n1 r1 _ _ x1 => ?_
      simp only [wSet, wCall, wCons, wNil, wVar, getV, setV, some!]
      refine ⟨room, each, .ref a, l2, rfl, ⟨hr1, hr2⟩, ⟨he1, he2⟩, hl2, tr RC, fun S5 ext5 => n1 _ _ ?_⟩
      have RC := RC.grow ext5.to2 (RC.pool.ext ext5)
      clear ext5
      refine seq_k fun q1 n1 r1 _ _ x1 => ?_
      simp only [wIf, wOr, wTest, wBin, wVar, wC, getV, some!, oIsN, dB, isNon, Bool.false_eq_true, if_false, oInB, seqA, toBls_map, any_not_all hall2, wNext]
      refine n1 _ _ ?_
      -- the last end
      refine seq_k fun q1 n1 r1 _ _ x1 => ?_
      simp only [wIf, wTest, wBin, wUn, wCall, wCons, wNil, wVar, wC, getV, some!]
      refine ⟨.ref a, l2, s, rfl, pat_of (tr RC) (.inl rfl), hl2, ⟨hs1, hs2⟩, ?_⟩
      have b0 := fun S Q => oIx_eq (S := S) (x := dT (endsF s l2)) rfl ends_last Q
      simp only [oNeg, b0, oSub, oI0, bd, oNe, shD_int, eqD_int, true_and, decide_true, Bool.not_true, Bool.false_eq_true, if_false, wNext]
      refine n1 _ _ ?_
      -- behind it
      refine seq_k fun q1 n1 r1 _ _ x1 => ?_
      simp only [wIf, wNot, wTest, wCall, wCons, wNil, wVar, wC, getV, some!]
      refine ⟨room, each, s, .ref a, l2, rfl, hR, hl2, hall2, tr RC, fun S6 ext6 => ?_⟩
      have RC := RC.grow ext6.to2 (RC.pool.ext ext6)
      clear ext6
      simp only [Bool.not_true, Bool.false_eq_true, if_false, wNext]
      refine n1 _ _ ?_
      have E6 : Ext2 p g S S6 := E0.trans RC.ext
      -- one more
      refine seq_k fun q1 n1 r1 _ _ x1 => ?_
      have fin : ∀ e S', Ext S6 S' → q1.nx e S' := fun e S' e1 => by
        refine n1 _ _ ?_
        simp only [wRet, wC]
        exact h _ (E6.trans e1.to2) ((RC.pool.ext e1).mono (by omega))
      simp only [wIf, wTest, wBin, wVar, wC, getV, some!, oLt, oI0, decide_eq_true_eq]
      split
      · rename_i g9
        refine seq_k fun q2 n2 _ _ _ _ => ?_
        have tk := (tP.grow E6).tr
        obtain ⟨ks, ek, tks⟩ := id tk
        have ekl := trs_len tks
        rw [List.length_map] at ekl
        simp only [wSet, wCall, wBin, wLst, wCons, wNil, wVar, wC, getV, setV, some!]
        refine ⟨by show 2 ≤ sizeLine; decide, by show 1 ≤ sizeLine; decide, oAdd_lst ek (by show _ + 1 ≤ _; unfold sizeLine; omega) ?_⟩
        refine ⟨room, each, _, l ++ [(at_, room + 1)], rfl, ⟨hr1, hr2⟩, ⟨he1, he2⟩, asks_add hl (by omega) ⟨by omega, by omega⟩ hla ⟨by omega, by omega⟩, ⟨_, rfl, by rw [List.map_append]; exact trs_app (trs_map (f := dPairL) (l := [(at_, room + 1)]) fun _ => tr_pairL) tks⟩, fun S7 e7 => ?_⟩
        rw [lets_too]
        refine n2 _ _ ?_
        have el : atI ((letsF room each l ++ [false]).map D.bl) (-1) = some (.bl false) := at_last (by simp)
        have b0 := fun S Q => oIx_eq (S := S) (x := dB (letsF room each l ++ [false])) rfl el Q
        generalize hdb : dB (letsF room each l ++ [false]) = db at b0
        have hnn : isNon db = false := by rw [← hdb]; rfl
        simp only [wIf, wOr, wTest, wBin, wUn, wVar, wC, getV, some!, oIsN, hnn, Bool.false_eq_true, if_false, oNeg, b0, wNext]
        exact fin _ _ e7
      · simp only [wNext]
        exact fin _ _ Ext.refl
    simp only [wIf, wTest, wBin, wVar, wC, getV, some!, oGt, oI0, decide_eq_true_eq]
    have hat1 : at_ = each * (room + 1) + ((l.map Prod.snd).sum) + lastF l := hat
    obtain ⟨bo1, bo2⟩ := burst_ok (l2 := []) he1 (by omega) hs0 hat hall (fun _ _ _ => trivial) part ⟨by omega, by omega⟩
    obtain ⟨gv1, gv2⟩ := gv_burst he1 (by omega) hs1 hl hat (part := part) ⟨by omega, by omega⟩
    split
    · rename_i g2
      simp only [wDrop, wMt, wBin, wLst, wCons, wNil, wVar, wC, getV, some!, oAppend, mutL, RC.at_, one, List.length_map, hcl e2]
      refine ⟨by show 2 ≤ sizeLine; decide, by unfold sizeLine; omega, ?_⟩
      have e9 : l ++ [(at_, part)] ++ [(at_, room - part)] = l ++ [(at_, part), (at_, room - part)] := by rw [List.append_assoc]; rfl
      have l9 := asks_add hl (by omega) (t := at_) (m := part) ⟨by omega, by omega⟩ hla ⟨by omega, by omega⟩
      refine rest2 (l ++ [(at_, part)]) _ _ (RC.addVal (v := .lst [.int at_, .int part]) (plain_of rfl)) (by rw [List.map_append, e2, List.map_append]; rfl) (asks_add l9 (by rw [List.length_append]; show l.length + 1 ≤ 39; omega) ⟨by omega, by omega⟩ (fun p hp => ?_) ⟨by omega, by omega⟩) (by rw [e9]; exact bo1) (by rw [e9]; exact gv1)
      rcases List.mem_append.mp hp with e | e
      · exact hla p e
      · rw [List.mem_singleton.mp e]; exact Int.le_refl _
    · rename_i g2
      simp only [wNext]
      have z : part = 0 := by omega
      subst z
      rw [Int.sub_zero] at rest2
      exact rest2 l cs S2 RC e2 (asks_add hl (by omega) ⟨by omega, by omega⟩ hla ⟨by omega, by omega⟩) bo2 gv2
  simp only [wIf, wTest, wCB, wBin, wCons, wNil, wVar, wC, getV, some!]
  refine oLen_of ex ?_
  simp only [oGt, oI0, decide_eq_true_eq]
  split
  · rename_i g1
    obtain ⟨⟨a, b⟩, hp1⟩ : ∃ p, l[l.length - 1]? = some p := ⟨_, List.getElem?_eq_getElem (by omega)⟩
    obtain ⟨y, hy, ey⟩ := hx _ _ hp1
    have el : lastF l = a := by rw [last_at, hp1]
    have b1 := fun Q => oIx_eq ex (at_last (by rw [exl]; exact hy)) Q
    have b2 := fun Q => oIx_eq ey (ix2_at (D.int a) (D.int b)).1 Q
    simp only [wSet, wBin, wUn, wVar, wC, getV, setV, some!, oNeg, b1, b2, oAdd]
    rw [← el, ← hat]
    exact rest
  · simp only [wNext]
    have hl0 : l = [] := List.eq_nil_of_length_eq_zero (by omega)
    have el : lastF l = 0 := by rw [hl0]; rfl
    rw [el, Int.add_zero] at hat
    rw [← hat]
    exact rest
end K41
set_option Elab.async false
set_option linter.all false
set_option maxRecDepth 100000
set_option maxHeartbeats 1000000
namespace K41
open PySem PySem.Spec PyProof.Rows L2 DL
theorem delay_call {c : Cl} {S : Sto} {room each s : Int} {Q : Qd} {E : XQ} (hR : Rm room each s) (q : Q (.int (delF room s)) S) : sp_longest_delay c [.int room, .int each, .int s] S Q E := by
  have h1 := inR_yes hR.1
  have h2 := inR_yes hR.2.1
  have h3 := inR_yes hR.2.2
  refine ⟨_, _, _, rfl, ⟨_, rfl⟩, ⟨_, rfl⟩, ⟨_, rfl⟩, (fun z => ?_), (fun _ z => ?_), (fun _ _ z => ?_), fun r e t e1 e2 e3 _ => ?_⟩
  · rw [h1] at z; cases z
  · rw [h2] at z; cases z
  · rw [h3] at z; cases z
  · cases e1; cases e2; cases e3
    exact q
theorem del_zero {room s : Int} (hr : 1 ≤ room) (hs : 1 ≤ s) : delF (min room s) s = 0 := by
  rw [del_eq hs]
  exact Int.ediv_eq_zero_of_lt (by omega) (by omega)
theorem trP_ref {p g a : Addr} {N : Int} {S : Sto} {l : List (Int × Int)} (hp : IsPool S p g N) (ha : S a = none) : TrP p g (put S a (.lst (l.map dPairL))) (.ref a) (.lst (l.map dPairL)) := fun S' e => by
  obtain ⟨o1, o2⟩ := isPool_off hp ha
  have e1 := e a _ o1 o2 put_same
  refine ⟨l.map dPairL, ?_, trs_map fun _ => tr_pairL⟩
  show (match S' a with | some (.lst xs) => some xs | _ => none) = _
  rw [e1]
theorem keep_take {l : List (Int × Int)} {bs : List Bool} {i : Nat} {p : Int × Int} {b : Bool} (hl : l[i]? = some p) (hb : bs[i]? = some b) : keepB (l.take (i + 1)) (bs.take (i + 1)) = keepB (l.take i) (bs.take i) ++ (if b = true then [p] else []) := by
  have h1 := lt_of_some hl
  have h2 := lt_of_some hb
  rw [List.take_add_one, List.take_add_one, hl, hb]
  exact keepB_snoc (by rw [List.length_take, List.length_take]; omega)
theorem last_mem {l : List (Int × Int)} {b : Int} (h0 : 0 ≤ b) (h : ∀ p, p ∈ l → p.1 ≤ b) : lastF l ≤ b := by
  rw [last_at]
  cases e : l[l.length - 1]? with
  | none => exact h0
  | some p => exact h p (List.mem_of_getElem? e)
end K41
set_option Elab.async false
set_option linter.all false
set_option maxRecDepth 100000
set_option maxHeartbeats 1000000
namespace K41
open PySem PySem.Spec PyProof.Rows L2 DL
theorem len_law (c : Cl) : ∀ ds S Q E, sp_law c ds S Q E → ds.length = 1 := by
  rintro ds S Q E ⟨_, rfl, _⟩; rfl
theorem rd_law (c : Cl) : ∀ ds S Q X1, sp_law c ds S Q X1 → w_law c (startD N_law_ ds) S (endQ Q X1) := by
  rintro ds S Q X1 ⟨cells, rfl, hc, h⟩
  show w_law c [some (.fro (cells.map D.int)), none, none, none, none, none, none, none, none, none, none, none, none] S (endQ Q X1)
  unfold w_law
  refine seq_k fun q1 n1 r1 _ _ x1 => ?_
  simp only [wSet, wCall, wCons, wNil, wVar, getV, setV, some!]
  refine ⟨cells, rfl, hc, fun p g k0 hne hp hg ok0 => n1 _ _ ?_⟩
  generalize D.fro (cells.map D.int) = d0
  have P : IsPool (inPool S p g k0) p g 0 := IsPool.mk hne ok0
  generalize inPool S p g k0 = S at P
  -- the room
  refine seq_k fun q1 n1 r2 _ _ x1 => ?_
  simp only [wSet, wBin, wLst, wCons, wNil, wC, wVar, wCall, getV, setV, some!, oAdd]
  refine draw_of P (by decide) (by decide) fun a1 a10 a11 k ok => ?_
  have P := IsPool.mk (S := S) hne ok
  generalize inPool S p g k = S at P
  refine draw_of P (by decide) (by decide) fun a2 a20 a21 k ok => ?_
  have P := IsPool.mk (S := S) hne ok
  generalize inPool S p g k = S at P
  refine draw_of P (by decide) (by decide) fun a3 a30 a31 k ok => ?_
  have P := IsPool.mk (S := S) hne ok
  generalize inPool S p g k = S at P
  refine ⟨by show 5 ≤ sizeLine; decide, draw_of P (by decide) (by decide) fun a4 a40 a41 k ok => ?_⟩
  have P := IsPool.mk (S := S) hne ok
  generalize inPool S p g k = S at P
  simp only [oIx, seqA, seqL, seqM, some!]
  obtain ⟨x, hx, ex⟩ := at_nat (xs := [.int 1, .int (1 + a1), .int (1 + a2), .int (1 + a3), .int 1000]) a40 a41
  rw [ex]
  obtain ⟨room, rfl, hr⟩ : ∃ m, x = .int m ∧ 1 ≤ m ∧ m ≤ 1000 := by
    simp only [List.mem_cons, List.not_mem_nil, or_false] at hx
    rcases hx with rfl | rfl | rfl | rfl | rfl <;> exact ⟨_, rfl, by omega, by omega⟩
  clear hx ex
  refine n1 _ _ ?_
  -- each
  refine seq_k fun q1 n1 r2 _ _ x1 => ?_
  simp only [wSet, wBin, wLst, wCons, wNil, wC, wVar, wCall, getV, setV, some!, oAdd]
  refine draw_of P (by decide) (by decide) fun a1 a10 a11 k ok => ?_
  have P := IsPool.mk (S := S) hne ok
  generalize inPool S p g k = S at P
  refine draw_of P (by decide) (by decide) fun a2 a20 a21 k ok => ?_
  have P := IsPool.mk (S := S) hne ok
  generalize inPool S p g k = S at P
  refine draw_of P (by decide) (by decide) fun a3 a30 a31 k ok => ?_
  have P := IsPool.mk (S := S) hne ok
  generalize inPool S p g k = S at P
  refine ⟨by show 5 ≤ sizeLine; decide, draw_of P (by decide) (by decide) fun a4 a40 a41 k ok => ?_⟩
  have P := IsPool.mk (S := S) hne ok
  generalize inPool S p g k = S at P
  simp only [oIx, seqA, seqL, seqM, some!]
  obtain ⟨x, hx, ex⟩ := at_nat (xs := [.int 1, .int (1 + a1), .int (1 + a2), .int (1 + a3), .int 100]) a40 a41
  rw [ex]
  obtain ⟨each, rfl, he⟩ : ∃ m, x = .int m ∧ 1 ≤ m ∧ m ≤ 100 := by
    simp only [List.mem_cons, List.not_mem_nil, or_false] at hx
    rcases hx with rfl | rfl | rfl | rfl | rfl <;> exact ⟨_, rfl, by omega, by omega⟩
  clear hx ex
  refine n1 _ _ ?_
  -- speed
  refine seq_k fun q1 n1 r2 _ _ x1 => ?_
  simp only [wSet, wBin, wLst, wCons, wNil, wC, wVar, wCall, getV, setV, some!, oAdd]
  refine draw_of P (by decide) (by decide) fun a1 a10 a11 k ok => ?_
  have P := IsPool.mk (S := S) hne ok
  generalize inPool S p g k = S at P
  refine draw_of P (by decide) (by decide) fun a2 a20 a21 k ok => ?_
  have P := IsPool.mk (S := S) hne ok
  generalize inPool S p g k = S at P
  refine ⟨by show 4 ≤ sizeLine; decide, draw_of P (by decide) (by decide) fun a4 a40 a41 k ok => ?_⟩
  have P := IsPool.mk (S := S) hne ok
  generalize inPool S p g k = S at P
  simp only [oIx, seqA, seqL, seqM, some!]
  obtain ⟨x, hx, ex⟩ := at_nat (xs := [.int 1, .int (1 + a1), .int (1 + a2), .int 100]) a40 a41
  rw [ex]
  obtain ⟨s, rfl, hs⟩ : ∃ m, x = .int m ∧ 1 ≤ m ∧ m ≤ 100 := by
    simp only [List.mem_cons, List.not_mem_nil, or_false] at hx
    rcases hx with rfl | rfl | rfl | rfl <;> exact ⟨_, rfl, by omega, by omega⟩
  clear hx ex
  refine n1 _ _ ?_
  -- small ones
  refine seq_k fun q1 n1 r2 _ _ x1 => ?_
  have rest0 : ∀ (room each s : Int) (S : Sto), Rm room each s → IsPool S p g 30 → q1.nx [some d0, some (.ref p), some (.int room), some (.int each), some (.int s), none, none, none, none, none, none, none, none] S := by
    clear P hr he hs
    intro room each s S hR P
    obtain ⟨hr, he, hs⟩ := id hR
    refine n1 _ _ ?_
    refine seq_k fun q1 n1 r2 _ _ x1 => ?_
    simp only [wSet, wCall, wCons, wNil, wVar, getV, setV, some!]
    refine ⟨room, each, s, rfl, hR, fun S1 e1 => n1 _ _ ?_⟩
    have P := P.ext e1
    clear e1
    refine seq_k fun q1 n1 r2 _ _ x1 => ?_
    have hdel : delF room s = (room + s - 1) / s - 1 := rfl
    simp only [wIf, wOr, wNot, wTest, wBin, wCall, wCons, wNil, wVar, wC, getV, some!, oAdd, oSub, oI0, oDiv, oI, oNe, shD_int, eqD_int, ← hdel, true_and, decide_true, Bool.not_true, Bool.false_eq_true, if_false]
    refine ⟨divw (by omega), delay_call hR ?_⟩
    refine like_told (n := 0) (t := .int (delF room s)) rfl rfl trivial ?_
    simp only [Bool.not_true, Bool.false_eq_true, if_false, wNext]
    refine n1 _ _ ?_
    -- the refusals
    refine seq_k fun q1 n1 r2 _ _ x1 => ?_
    simp only [wIf, wNot, wTest, wCall, wCons, wNil, wVar, wC, getV, some!]
    refine ⟨p, g, _, room, each, s, rfl, hR, P, by decide, fun S2 _ P => ?_⟩
    simp only [Bool.not_true, Bool.false_eq_true, if_false, wNext]
    refine n1 _ _ ?_
    -- how many
    refine seq_k fun q1 n1 r3 _ _ x1 => ?_
    simp only [wSet, wCall, wCons, wNil, wVar, wC, getV, setV, some!]
    refine draw_of P (by decide) (by decide) fun m0 m00 m01 k ok => n1 _ _ ?_
    have P := IsPool.mk (S := S2) hne ok
    generalize inPool S2 p g k = S at P
    refine seq_k fun q1 n1 r4 _ _ x1 => ?_
    have rest1 : ∀ (m : Int) (S : Sto), IsPool S p g 100 → 0 ≤ m ∧ m ≤ 38 → q1.nx [some d0, some (.ref p), some (.int room), some (.int each), some (.int s), some (.int (delF room s)), some (.int m), none, none, none, none, none, none] S := by
      clear P m00 m01
      intro m S P hm
      refine n1 _ _ ?_
      refine seq_k fun q1 n1 r5 _ _ x1 => ?_
      simp only [wSet, wBin, wLst, wCons, wNil, wC, wVar, wCall, getV, setV, some!]
      refine ⟨by show 3 ≤ sizeLine; decide, draw_of P (by decide) (by decide) fun a3 a30 a31 k ok => ?_⟩
      have P := IsPool.mk (S := S) hne ok
      generalize inPool S p g k = S at P
      simp only [oIx, seqA, seqL, seqM, some!]
      obtain ⟨x, hx, ex⟩ := at_nat (xs := [.int 80, .int 2000, .int 500000]) a30 a31
      rw [ex]
      obtain ⟨lim, rfl, hlim⟩ : ∃ m, x = .int m ∧ 20 ≤ m ∧ m ≤ 500000 := by
        simp only [List.mem_cons, List.not_mem_nil, or_false] at hx
        rcases hx with rfl | rfl | rfl <;> exact ⟨_, rfl, by decide, by decide⟩
      clear hx ex
      refine ⟨p, g, _, room, each, m, lim, rfl, hr, he, ⟨by omega, by omega⟩, ⟨by omega, by omega⟩, P, by decide, fun l k hl hlen ok hlm => n1 _ _ ?_⟩
      have P := IsPool.mk (S := S) hne ok
      generalize inPool S p g k = S at P
      -- what is let by
      refine seq_k fun q1 n1 r6 _ _ x1 => ?_
      simp only [wSet, wCall, wCons, wNil, wVar, getV, setV, some!]
      refine ⟨room, each, _, l, rfl, hr, he, hl, tr_asksL, fun S3 e3 => n1 _ _ ?_⟩
      have P := P.ext e3
      clear e3
      have hbl : (letsF room each l).length = l.length := lets_len
      have hkl := kept_lets (room := room) he.1 hl
      have hsub := asks_sub hl (keepB_sub (bs := letsF room each l))
      have hkn : (keepB l (letsF room each l)).length ≤ 38 := Nat.le_trans (keepB_sub.length_le) (by omega)
      have hkm : lastF (keepB l (letsF room each l)) ≤ 500000 := last_mem (by decide) fun q hq => by have := hlm q (keepB_sub.subset hq); omega
      have hix : ∀ (i : Nat) b S Q, (letsF room each l)[i]? = some b → oIx S (dB (letsF room each l)) (.int (i : Int)) Q = Q (.bl b) S := fun i b S Q hb => oIx_eq rfl (at_map hb) Q
      generalize hdb : dB (letsF room each l) = db at hix
      have hnn : isNon db = false := by rw [← hdb]; rfl
      clear hdb
      generalize letsF room each l = bs at hbl hkl hsub hkn hkm hix
      refine seq_k fun q1 n1 r7 _ _ x1 => ?_
      simp only [wIf, wTest, wBin, wVar, wC, getV, some!, oIsN, hnn, Bool.false_eq_true, if_false, wNext]
      refine n1 _ _ ?_
      refine seq_k fun q1 n1 r8 _ _ x1 => ?_
      simp only [wSet, wLstM, wNil, setV]
      refine ⟨Nat.zero_le _, fun a ha => n1 _ _ ?_⟩
      refine seq_k fun q1 n1 r9 _ _ x1 => ?_
      simp only [wFor, wRg1, wCB, wCons, wNil, wVar, getV, some!]
      refine oLen_of (d := .lst (l.map dPairL)) rfl ?_
      rw [List.length_map]
      simp only [asI]
      have hl40 := hl.1
      refine ⟨by omega, ?_⟩
      refine forI_invq (fun i e S' => ∃ x10, S' = put S3 a (.lst ((keepB (l.take i) (bs.take i)).map dPairL)) ∧ e = [some d0, some (.ref p), some (.int room), some (.int each), some (.int s), some (.int (delF room s)), some (.int m), some (.lst (l.map dPairL)), some db, some (.ref a), x10, none, none])
        ⟨none, rfl, rfl⟩ (fun _ _ _ _ => trivial) ?_ ?_
      · rintro i d e S' hi ⟨x10, rfl, rfl⟩ q hq _ _ _ _
        obtain ⟨hlt, rfl⟩ := rngD_get hi
        have hil : i < l.length := by omega
        have hpi : l[i]? = some l[i] := List.getElem?_eq_getElem hil
        have hbi : bs[i]? = some (bs[i]'(by omega)) := List.getElem?_eq_getElem (by omega)
        generalize l[i] = q0 at hpi
        generalize bs[i]'(by omega) = b0 at hbi
        have kt := keep_take hpi hbi
        have ktl : (keepB (l.take i) (bs.take i)).length ≤ 40 := Nat.le_trans keepB_sub.length_le (by rw [List.length_take]; omega)
        have ix7 := fun S Q => oIx_eq (S := S) (x := .lst (l.map dPairL)) rfl (at_map (f := dPairL) hpi) Q
        rw [Int.zero_add]
        simp only [gN, setV, wIf, wTest, wBin, wVar, getV, some!, hix _ _ _ _ hbi]
        cases b0 with
        | true =>
          rw [if_pos rfl] at kt
          simp only [if_true, wDrop, wMt, wBin, wCons, wNil, wVar, getV, some!, ix7, oAppend, mutL, one, put_same, put_put, List.length_map]
          refine ⟨by unfold sizeLine; omega, hq _ _ ⟨_, ?_, rfl⟩⟩
          rw [kt, List.map_append]; rfl
        | false =>
          rw [if_neg Bool.false_ne_true, List.append_nil] at kt
          simp only [Bool.false_eq_true, if_false, wNext]
          exact hq _ _ ⟨_, by rw [kt], rfl⟩
      · rintro e S' ⟨x10, rfl, rfl⟩
        rw [rngD_length, Int.toNat_natCast, List.take_of_length_le (Nat.le_refl _), show bs.take l.length = bs from List.take_of_length_le (by omega)]
        have tP := trP_ref (l := keepB l bs) P ha
        obtain ⟨o1, o2⟩ := isPool_off P ha
        have P := isPool_put (m := .lst ((keepB l bs).map dPairL)) P o1 o2
        generalize put S3 a (.lst ((keepB l bs).map dPairL)) = S at P tP
        generalize keepB l bs = kl at hkl hsub hkn hkm tP
        refine n1 _ _ ?_
        -- what was kept
        refine seq_k fun q1 n1 r10 _ _ x1 => ?_
        simp only [wSet, wCall, wCons, wNil, wVar, getV, setV, some!]
        refine ⟨room, each, _, kl, rfl, hr, he, hsub, tP.tr, fun S4 e4 => n1 _ _ ?_⟩
        have P := P.ext e4
        have tP := tP.grow e4.to2
        clear e4
        refine seq_k fun q1 n1 r11 _ _ x1 => ?_
        simp only [wIf, wOr, wTest, wBin, wVar, wC, getV, some!, oIsN, dB, isNon, Bool.false_eq_true, if_false, oInB, seqA, toBls_map, any_not_all hkl, wNext]
        refine n1 _ _ ?_
        refine seq_k fun q1 n1 r12 _ _ x1 => ?_
        simp only [wIf, wNot, wTest, wCall, wCons, wNil, wVar, wC, getV, some!]
        refine ⟨room, each, s, _, kl, rfl, hR, hsub, hkl, tP.tr, fun S5 e5 => ?_⟩
        have P := P.ext e5
        have tP := tP.grow e5.to2
        clear e5
        simp only [Bool.not_true, Bool.false_eq_true, if_false, wNext]
        refine n1 _ _ ?_
        refine seq_k fun q1 n1 r13 _ _ x1 => ?_
        simp only [wIf, wNot, wTest, wCall, wCons, wNil, wVar, wC, getV, some!]
        refine ⟨p, g, _, room, each, s, _, kl, rfl, hR, hsub, hkn, hkm, hkl, tP, P, by decide, fun S6 _ P => ?_⟩
        simp only [Bool.not_true, Bool.false_eq_true, if_false, wNext]
        refine n1 _ _ ?_
        clear tP hkl hsub hkn hkm
        -- another room
        refine seq_k fun q1 n1 r14 _ _ x1 => ?_
        simp only [wSet, wCB, wBin, wCons, wNil, wVar, wC, getV, setV, some!, oAdd, oMin2, two, asI]
        refine n1 _ _ ?_
        have ho : 1 ≤ min 1000 (room + 1) ∧ min 1000 (room + 1) ≤ 1000 := by omega
        generalize min 1000 (room + 1) = other at ho
        refine seq_k fun q1 n1 r15 _ _ x1 => ?_
        simp only [wIf, wNot, wTest, wCall, wCallK, wBin, wCons, wNil, wVar, wC, getV, some!, oAdd, oSub, oI0, oDiv, oI]
        show sp_longest_delay c [.int other, .int each, .int s] S6 _ _
        refine delay_call ⟨ho, he, hs⟩ ⟨divw (by omega), ?_⟩
        refine like_told (n := 0) (t := .int (delF other s)) rfl rfl trivial ?_
        simp only [Bool.not_true, Bool.false_eq_true, if_false, wNext]
        refine n1 _ _ ?_
        refine seq_k fun q1 n1 r16 _ _ x1 => ?_
        simp only [wIf, wNot, wTest, wCall, wCB, wCons, wNil, wVar, wC, getV, some!, oInt, one, oMin2, two, asI]
        refine delay_call ⟨⟨by omega, by omega⟩, he, hs⟩ ?_
        rw [del_zero hr.1 hs.1]
        refine like_told (n := 0) (t := .int 0) rfl rfl trivial ?_
        simp only [Bool.not_true, Bool.false_eq_true, if_false, wNext]
        refine n1 _ _ ?_
        have sm : 0 ≤ each % 100 ∧ each % 100 < 100 := ⟨Int.emod_nonneg _ (by decide), Int.emod_lt_of_pos _ (by decide)⟩
        simp only [wRet, wCall, wCB, wBin, wCons, wNil, wVar, wC, getV, some!, oInt, one, oMod, oI, oAdd]
        refine ⟨by decide, delay_call ⟨hr, ⟨by omega, by omega⟩, hs⟩ ?_⟩
        exact like_told (n := 0) (t := .int (delF room s)) rfl rfl trivial (h _)
    simp only [wIf, wTest, wBin, wCall, wCons, wNil, wVar, wC, getV, some!]
    refine draw_of P (by decide) (by decide) fun u u0 u1 k ok => ?_
    have P := IsPool.mk (S := S) hne ok
    generalize inPool S p g k = S at P
    simp only [oEq, shD_int, eqD_int, true_and, decide_eq_true_eq]
    split
    · simp only [wSet, wC, setV]
      exact rest1 38 S (P.mono (by decide)) (by decide)
    · exact rest1 m0 S (P.mono (by decide)) ⟨by omega, by omega⟩
  simp only [wIf, wTest, wBin, wCall, wCons, wNil, wVar, wC, getV, some!]
  refine draw_of P (by decide) (by decide) fun u u0 u1 k ok => ?_
  have P := IsPool.mk (S := S) hne ok
  generalize inPool S p g k = S at P
  simp only [oEq, shD_int, eqD_int, true_and, decide_eq_true_eq]
  split
  · refine seq_k fun q2 n2 _ _ _ _ => ?_
    simp only [wSet, wBin, wCall, wCons, wNil, wVar, wC, getV, setV, some!, oAdd]
    refine draw_of P (by decide) (by decide) fun b1 b10 b11 k ok => n2 _ _ ?_
    have P := IsPool.mk (S := S) hne ok
    generalize inPool S p g k = S at P
    refine seq_k fun q2 n2 _ _ _ _ => ?_
    simp only [wSet, wBin, wCall, wCons, wNil, wVar, wC, getV, setV, some!, oAdd]
    refine draw_of P (by decide) (by decide) fun b2 b20 b21 k ok => n2 _ _ ?_
    have P := IsPool.mk (S := S) hne ok
    generalize inPool S p g k = S at P
    simp only [wSet, wBin, wCall, wCons, wNil, wVar, wC, getV, setV, some!, oAdd]
    refine draw_of P (by decide) (by decide) fun b3 b30 b31 k ok => ?_
    have P := IsPool.mk (S := S) hne ok
    generalize inPool S p g k = S at P
    exact rest0 _ _ _ S ⟨⟨by omega, by omega⟩, ⟨by omega, by omega⟩, ⟨by omega, by omega⟩⟩ (P.mono (by decide))
  · simp only [wNext]
    exact rest0 _ _ _ S ⟨hr, he, hs⟩ (P.mono (by decide))
end K41
set_option Elab.async false
set_option linter.all false
set_option maxRecDepth 100000
set_option maxHeartbeats 4000000
namespace K41
open PySem PySem.Spec PyProof.Rows L2 DL
def topS (i : Nat) : Stmt := PySem.Challenge.pw_everyasked_k41_whole_delays_behind_a_buc.main.body.getD i (.Pass ⟨0, 0, 0, 0⟩)
abbrev s_is_integer : Stmt := topS 8
abbrev s_is_from_to : Stmt := topS 9
abbrev s_is_row : Stmt := topS 10
abbrev s_check_number : Stmt := topS 11
abbrev s_check_length : Stmt := topS 12
abbrev s_is_ask : Stmt := topS 20
abbrev s_checked_asks : Stmt := topS 21
abbrev s_check_bucket : Stmt := topS 22
abbrev s_tokens_between : Stmt := topS 23
abbrev s_Bucket_init : Stmt := inClass (topS 24) 0
abbrev s_Bucket_go_to : Stmt := inClass (topS 24) 1
abbrev s_Bucket_take : Stmt := inClass (topS 24) 2
abbrev s_let_by : Stmt := topS 25
abbrev s_least_room : Stmt := topS 26
abbrev s_queue_ends : Stmt := topS 27
abbrev s_longest_delay : Stmt := topS 28
abbrev s__law_pool : Stmt := topS 30
abbrev s__law_draw : Stmt := topS 31
abbrev s__law_like : Stmt := topS 32
abbrev s__law_copy : Stmt := topS 33
abbrev s__law_ticks : Stmt := topS 34
abbrev s__law_leaps : Stmt := topS 35
abbrev s__law_build : Stmt := topS 36
abbrev s__law_whole_ticks : Stmt := topS 37
abbrev s__law_neighbors : Stmt := topS 38
abbrev s__law_bad : Stmt := topS 39
abbrev s__law_waits : Stmt := topS 40
abbrev s__law_due : Stmt := topS 41
abbrev s__law_refused : Stmt := topS 42
abbrev s__law_refusals : Stmt := topS 43
abbrev s__law_lets : Stmt := topS 44
abbrev s__law_behind : Stmt := topS 45
abbrev s__law_burst : Stmt := topS 46
abbrev s_law : Stmt := topS 47
theorem sc_is_integer : FnScope N_is_integer_ ["value"] (defScope s_is_integer) := ⟨rfl, rfl, rfl, by decide +kernel, rfl, by decide +kernel, by decide +kernel⟩
theorem sc_is_from_to : FnScope N_is_from_to_ ["value", "least", "most"] (defScope s_is_from_to) := ⟨rfl, rfl, rfl, by decide +kernel, rfl, by decide +kernel, by decide +kernel⟩
theorem sc_is_row : FnScope N_is_row_ ["value"] (defScope s_is_row) := ⟨rfl, rfl, rfl, by decide +kernel, rfl, by decide +kernel, by decide +kernel⟩
theorem sc_check_number : FnScope N_check_number_ ["value", "least", "most"] (defScope s_check_number) := ⟨rfl, rfl, rfl, by decide +kernel, rfl, by decide +kernel, by decide +kernel⟩
theorem sc_check_length : FnScope N_check_length_ ["value", "least", "most"] (defScope s_check_length) := ⟨rfl, rfl, rfl, by decide +kernel, rfl, by decide +kernel, by decide +kernel⟩
theorem sc_is_ask : FnScope N_is_ask_ ["value", "least"] (defScope s_is_ask) := ⟨rfl, rfl, rfl, by decide +kernel, rfl, by decide +kernel, by decide +kernel⟩
theorem sc_checked_asks : FnScope N_checked_asks_ ["asks"] (defScope s_checked_asks) := ⟨rfl, rfl, rfl, by decide +kernel, rfl, by decide +kernel, by decide +kernel⟩
theorem sc_check_bucket : FnScope N_check_bucket_ ["room", "each"] (defScope s_check_bucket) := ⟨rfl, rfl, rfl, by decide +kernel, rfl, by decide +kernel, by decide +kernel⟩
theorem sc_tokens_between : FnScope N_tokens_between_ ["each", "tick", "later"] (defScope s_tokens_between) := ⟨rfl, rfl, rfl, by decide +kernel, rfl, by decide +kernel, by decide +kernel⟩
theorem sc_Bucket_init : FnScope N_Bucket_init_ ["self", "room", "each"] (defScope s_Bucket_init) := ⟨rfl, rfl, rfl, by decide +kernel, rfl, by decide +kernel, by decide +kernel⟩
theorem sc_Bucket_go_to : FnScope N_Bucket_go_to_ ["self", "tick"] (defScope s_Bucket_go_to) := ⟨rfl, rfl, rfl, by decide +kernel, rfl, by decide +kernel, by decide +kernel⟩
theorem sc_Bucket_take : FnScope N_Bucket_take_ ["self", "many"] (defScope s_Bucket_take) := ⟨rfl, rfl, rfl, by decide +kernel, rfl, by decide +kernel, by decide +kernel⟩
theorem sc_let_by : FnScope N_let_by_ ["room", "each", "asks"] (defScope s_let_by) := ⟨rfl, rfl, rfl, by decide +kernel, rfl, by decide +kernel, by decide +kernel⟩
theorem sc_least_room : FnScope N_least_room_ ["each", "asks"] (defScope s_least_room) := ⟨rfl, rfl, rfl, by decide +kernel, rfl, by decide +kernel, by decide +kernel⟩
theorem sc_queue_ends : FnScope N_queue_ends_ ["asks", "speed"] (defScope s_queue_ends) := ⟨rfl, rfl, rfl, by decide +kernel, rfl, by decide +kernel, by decide +kernel⟩
theorem sc_longest_delay : FnScope N_longest_delay_ ["room", "each", "speed"] (defScope s_longest_delay) := ⟨rfl, rfl, rfl, by decide +kernel, rfl, by decide +kernel, by decide +kernel⟩
theorem sc__law_pool : FnScope N__law_pool_ ["script"] (defScope s__law_pool) := ⟨rfl, rfl, rfl, by decide +kernel, rfl, by decide +kernel, by decide +kernel⟩
theorem sc__law_draw : FnScope N__law_draw_ ["pool", "many"] (defScope s__law_draw) := ⟨rfl, rfl, rfl, by decide +kernel, rfl, by decide +kernel, by decide +kernel⟩
theorem sc__law_like : FnScope N__law_like_ ["told", "due"] (defScope s__law_like) := ⟨rfl, rfl, rfl, by decide +kernel, rfl, by decide +kernel, by decide +kernel⟩
theorem sc__law_copy : FnScope N__law_copy_ ["value"] (defScope s__law_copy) := ⟨rfl, rfl, rfl, by decide +kernel, rfl, by decide +kernel, by decide +kernel⟩
theorem sc__law_ticks : FnScope N__law_ticks_ ["room", "each", "asks", "until"] (defScope s__law_ticks) := ⟨rfl, rfl, rfl, by decide +kernel, rfl, by decide +kernel, by decide +kernel⟩
theorem sc__law_leaps : FnScope N__law_leaps_ ["room", "each", "asks", "until"] (defScope s__law_leaps) := ⟨rfl, rfl, rfl, by decide +kernel, rfl, by decide +kernel, by decide +kernel⟩
theorem sc__law_build : FnScope N__law_build_ ["pool", "room", "each", "many", "limit"] (defScope s__law_build) := ⟨rfl, rfl, rfl, by decide +kernel, rfl, by decide +kernel, by decide +kernel⟩
theorem sc__law_whole_ticks : FnScope N__law_whole_ticks_ ["asks", "speed"] (defScope s__law_whole_ticks) := ⟨rfl, rfl, rfl, by decide +kernel, rfl, by decide +kernel, by decide +kernel⟩
theorem sc__law_neighbors : FnScope N__law_neighbors_ ["each", "asks"] (defScope s__law_neighbors) := ⟨rfl, rfl, rfl, by decide +kernel, rfl, by decide +kernel, by decide +kernel⟩
theorem sc__law_bad : FnScope N__law_bad_ ["pool", "top"] (defScope s__law_bad) := ⟨rfl, rfl, rfl, by decide +kernel, rfl, by decide +kernel, by decide +kernel⟩
theorem sc__law_waits : FnScope N__law_waits_ ["room", "each", "speed"] (defScope s__law_waits) := ⟨rfl, rfl, rfl, by decide +kernel, rfl, by decide +kernel, by decide +kernel⟩
theorem sc__law_due : FnScope N__law_due_ ["room", "each", "speed"] (defScope s__law_due) := ⟨rfl, rfl, rfl, by decide +kernel, rfl, by decide +kernel, by decide +kernel⟩
theorem sc__law_refused : FnScope N__law_refused_ ["room", "each", "speed"] (defScope s__law_refused) := ⟨rfl, rfl, rfl, by decide +kernel, rfl, by decide +kernel, by decide +kernel⟩
theorem sc__law_refusals : FnScope N__law_refusals_ ["pool", "room", "each", "speed"] (defScope s__law_refusals) := ⟨rfl, rfl, rfl, by decide +kernel, rfl, by decide +kernel, by decide +kernel⟩
theorem sc__law_lets : FnScope N__law_lets_ ["room", "each", "asks"] (defScope s__law_lets) := ⟨rfl, rfl, rfl, by decide +kernel, rfl, by decide +kernel, by decide +kernel⟩
theorem sc__law_behind : FnScope N__law_behind_ ["room", "each", "speed", "asks", "longest"] (defScope s__law_behind) := ⟨rfl, rfl, rfl, by decide +kernel, rfl, by decide +kernel, by decide +kernel⟩
theorem sc__law_burst : FnScope N__law_burst_ ["pool", "room", "each", "speed", "kept", "longest"] (defScope s__law_burst) := ⟨rfl, rfl, rfl, by decide +kernel, rfl, by decide +kernel, by decide +kernel⟩
theorem sc_law : FnScope N_law_ ["script"] (defScope s_law) := ⟨rfl, rfl, rfl, by decide +kernel, rfl, by decide +kernel, by decide +kernel⟩
structure Txt (mg : Str → Option Value) (c : Cl) : Prop where
  b_bool : mg "bool" = none
  b_enumerate : mg "enumerate" = none
  b_int : mg "int" = none
  b_isinstance : mg "isinstance" = none
  b_len : mg "len" = none
  b_list : mg "list" = none
  b_max : mg "max" = none
  b_min : mg "min" = none
  b_range : mg "range" = none
  b_str : mg "str" = none
  b_sum : mg "sum" = none
  b_tuple : mg "tuple" = none
  d_is_integer : DefAt c.K mg "is_integer" "is_integer" s_is_integer ["value"]
  d_is_from_to : DefAt c.K mg "is_from_to" "is_from_to" s_is_from_to ["value", "least", "most"]
  d_is_row : DefAt c.K mg "is_row" "is_row" s_is_row ["value"]
  d_check_number : DefAt c.K mg "check_number" "check_number" s_check_number ["value", "least", "most"]
  d_check_length : DefAt c.K mg "check_length" "check_length" s_check_length ["value", "least", "most"]
  d_is_ask : DefAt c.K mg "is_ask" "is_ask" s_is_ask ["value", "least"]
  d_checked_asks : DefAt c.K mg "checked_asks" "checked_asks" s_checked_asks ["asks"]
  d_check_bucket : DefAt c.K mg "check_bucket" "check_bucket" s_check_bucket ["room", "each"]
  d_tokens_between : DefAt c.K mg "tokens_between" "tokens_between" s_tokens_between ["each", "tick", "later"]
  i_Bucket_init : MkAt c.K c.Bucket "Bucket.__init__" s_Bucket_init ["self", "room", "each"]
  m_Bucket_go_to : MetAt c.K c.Bucket "go_to" "Bucket.go_to" s_Bucket_go_to ["self", "tick"]
  m_Bucket_take : MetAt c.K c.Bucket "take" "Bucket.take" s_Bucket_take ["self", "many"]
  d_let_by : DefAt c.K mg "let_by" "let_by" s_let_by ["room", "each", "asks"]
  d_least_room : DefAt c.K mg "least_room" "least_room" s_least_room ["each", "asks"]
  d_queue_ends : DefAt c.K mg "queue_ends" "queue_ends" s_queue_ends ["asks", "speed"]
  d_longest_delay : DefAt c.K mg "longest_delay" "longest_delay" s_longest_delay ["room", "each", "speed"]
  d__law_pool : DefAt c.K mg "_law_pool" "_law_pool" s__law_pool ["script"]
  d__law_draw : DefAt c.K mg "_law_draw" "_law_draw" s__law_draw ["pool", "many"]
  d__law_like : DefAt c.K mg "_law_like" "_law_like" s__law_like ["told", "due"]
  d__law_copy : DefAt c.K mg "_law_copy" "_law_copy" s__law_copy ["value"]
  d__law_ticks : DefAt c.K mg "_law_ticks" "_law_ticks" s__law_ticks ["room", "each", "asks", "until"]
  d__law_leaps : DefAt c.K mg "_law_leaps" "_law_leaps" s__law_leaps ["room", "each", "asks", "until"]
  d__law_build : DefAt c.K mg "_law_build" "_law_build" s__law_build ["pool", "room", "each", "many", "limit"]
  d__law_whole_ticks : DefAt c.K mg "_law_whole_ticks" "_law_whole_ticks" s__law_whole_ticks ["asks", "speed"]
  d__law_neighbors : DefAt c.K mg "_law_neighbors" "_law_neighbors" s__law_neighbors ["each", "asks"]
  d__law_bad : DefAt c.K mg "_law_bad" "_law_bad" s__law_bad ["pool", "top"]
  d__law_waits : DefAt c.K mg "_law_waits" "_law_waits" s__law_waits ["room", "each", "speed"]
  d__law_due : DefAt c.K mg "_law_due" "_law_due" s__law_due ["room", "each", "speed"]
  d__law_refused : DefAt c.K mg "_law_refused" "_law_refused" s__law_refused ["room", "each", "speed"]
  d__law_refusals : DefAt c.K mg "_law_refusals" "_law_refusals" s__law_refusals ["pool", "room", "each", "speed"]
  d__law_lets : DefAt c.K mg "_law_lets" "_law_lets" s__law_lets ["room", "each", "asks"]
  d__law_behind : DefAt c.K mg "_law_behind" "_law_behind" s__law_behind ["room", "each", "speed", "asks", "longest"]
  d__law_burst : DefAt c.K mg "_law_burst" "_law_burst" s__law_burst ["pool", "room", "each", "speed", "kept", "longest"]
  d_law : DefAt c.K mg "law" "law" s_law ["script"]
  dk_longest_delay_0_speed_each_room : DefAtK c.K mg "longest_delay" "longest_delay" s_longest_delay ["room", "each", "speed"] ["speed", "each", "room"] 0 3 [2, 1, 0]
  c_MOST_ASKS : ∃ u, mg "MOST_ASKS" = some u ∧ RelV (.int (40)) u
  c_MOST_EACH : ∃ u, mg "MOST_EACH" = some u ∧ RelV (.int (100)) u
  c_MOST_MANY : ∃ u, mg "MOST_MANY" = some u ∧ RelV (.int (1000)) u
  c_MOST_ROOM : ∃ u, mg "MOST_ROOM" = some u ∧ RelV (.int (1000)) u
  c_MOST_SPEED : ∃ u, mg "MOST_SPEED" = some u ∧ RelV (.int (100)) u
  c_MOST_TICK : ∃ u, mg "MOST_TICK" = some u ∧ RelV (.int (1000000)) u
  g_InvalidLot : mg "InvalidLot" = some (.ref c.InvalidLot)
  g_InvalidNumber : mg "InvalidNumber" = some (.ref c.InvalidNumber)
  g_InvalidRow : mg "InvalidRow" = some (.ref c.InvalidRow)
  g_ServeError : mg "ServeError" = some (.ref c.ServeError)
  g_TooMany : mg "TooMany" = some (.ref c.TooMany)
  g_Undefined : mg "Undefined" = some (.ref c.Undefined)
  x_InvalidNumber : ExAt c.K mg "InvalidNumber" c.InvalidNumber "number" "number" "InvalidNumber.__init__" (inClass (topS 2) 0)
  x_InvalidRow : ExAt c.K mg "InvalidRow" c.InvalidRow "place" "place" "InvalidRow.__init__" (inClass (topS 3) 0)
  cl_Bucket : Cls c.K c.Bucket
  mk_Bucket : mg "Bucket" = some (.ref c.Bucket)
  na_Bucket_room : NoAttr c.K c.Bucket "room"
  na_Bucket_each : NoAttr c.K c.Bucket "each"
  na_Bucket_tokens : NoAttr c.K c.Bucket "tokens"
  na_Bucket_tick : NoAttr c.K c.Bucket "tick"
section
variable {P : Program} {w : World} {mg : Str → Option Value} {base : Heap} {c : Cl}
theorem scx_InvalidNumber : FnScope ["self", "number"] ["self", "number"] (defScope (inClass (topS 2) 0)) := ⟨rfl, rfl, rfl, by decide +kernel, rfl, by decide +kernel, by decide +kernel⟩
theorem xc_InvalidNumber (T : Txt mg c) : ExC P w c.K mg base "InvalidNumber" c.InvalidNumber "number" :=
  ExC.mk T.x_InvalidNumber scx_InvalidNumber fun fI cdv A outer s H E => pss_one (ps_ost (pv 0) (pv 1) rfl)
theorem scx_InvalidRow : FnScope ["self", "place"] ["self", "place"] (defScope (inClass (topS 3) 0)) := ⟨rfl, rfl, rfl, by decide +kernel, rfl, by decide +kernel, by decide +kernel⟩
theorem xc_InvalidRow (T : Txt mg c) : ExC P w c.K mg base "InvalidRow" c.InvalidRow "place" :=
  ExC.mk T.x_InvalidRow scx_InvalidRow fun fI cdv A outer s H E => pss_one (ps_ost (pv 0) (pv 1) rfl)
theorem ok_is_integer (T : Txt mg c) : FnC P w c.K mg base 1 "is_integer" ["value"] (sp_is_integer c) :=
  FnC.mk T.d_is_integer sc_is_integer (by decide) (len_is_integer c) (fun f cdv A outer s H E hr => (pss_oneD (pds_ret (pd_and (pd_isi (T := "int") (pd_var 0) (pe_bltn rfl T.b_int (by decide +kernel) rfl) T.b_isinstance) (pd_one (pd_not (pd_isi (T := "bool") (pd_var 0) (pe_bltn rfl T.b_bool (by decide +kernel) rfl) T.b_isinstance))))))) (rd_is_integer c)
theorem ok_is_from_to (T : Txt mg c) : FnC P w c.K mg base 2 "is_from_to" ["value", "least", "most"] (sp_is_from_to c) :=
  FnC.mk T.d_is_from_to sc_is_from_to (by decide) (len_is_from_to c) (fun f cdv A outer s H E hr => (pss_oneD (pds_ret (pd_and (pd_fn (ok_is_integer T) (hr.mono (by decide)) (pda_cons (pd_var 0) pda_nil)) (pd_one (pd_chain opd_le opd_le (pd_var 1) (pd_var 0) (pd_var 2))))))) (rd_is_from_to c)
theorem ok_is_row (T : Txt mg c) : FnC P w c.K mg base 1 "is_row" ["value"] (sp_is_row c) :=
  FnC.mk T.d_is_row sc_is_row (by decide) (len_is_row c) (fun f cdv A outer s H E hr => (pss_oneD (pds_ret (pd_isiT (Ts := ["tuple", "list"]) (pd_var 0) (pa_tys (T := "tuple") (pe_bltn rfl T.b_tuple (by decide +kernel) rfl) (pa_tys (T := "list") (pe_bltn rfl T.b_list (by decide +kernel) rfl) pa_tys0)) T.b_isinstance)))) (rd_is_row c)
theorem ok_check_number (T : Txt mg c) : FnC P w c.K mg base 3 "check_number" ["value", "least", "most"] (sp_check_number c) :=
  FnC.mk T.d_check_number sc_check_number (by decide) (len_check_number c) (fun f cdv A outer s H E hr => (pss_oneD (pds_if (pdt_not (pdt_val (pd_fn (ok_is_from_to T) (hr.mono (by decide)) (pda_cons (pd_var 0) (pda_cons (pd_var 1) (pda_cons (pd_var 2) pda_nil)))))) (pss_oneD (pds_raise rfl (pdx_mk (xc_InvalidNumber T) (hr.mono (by decide)) (pd_var 0)))) pss_nilD))) (rd_check_number c)
theorem ok_check_length (T : Txt mg c) : FnC P w c.K mg base 3 "check_length" ["value", "least", "most"] (sp_check_length c) :=
  FnC.mk T.d_check_length sc_check_length (by decide) (len_check_length c) (fun f cdv A outer s H E hr => (pss_oneD (pds_if (PDw.pt (pdw_or (pdt_not (pdt_val (pd_fn (ok_is_row T) (hr.mono (by decide)) (pda_cons (pd_var 0) pda_nil)))) (pdw_or1 (pdt_not (pdt_chain opd_le opd_le (pd_var 1) (pd_callB cd_len T.b_len (by decide +kernel) (pda_cons (pd_var 0) pda_nil)) (pd_var 2)))))) (pss_oneD (pds_raise rfl (pdx_mk (xc_InvalidRow T) (hr.mono (by decide)) pd_int))) pss_nilD))) (rd_check_length c)
theorem ok_is_ask (T : Txt mg c) : FnC P w c.K mg base 3 "is_ask" ["value", "least"] (sp_is_ask c) :=
  FnC.mk T.d_is_ask sc_is_ask (by decide) (len_is_ask c) (fun f cdv A outer s H E hr => (pss_consD (pds_if (PDw.pt (pdw_or (pdt_not (pdt_val (pd_fn (ok_is_row T) (hr.mono (by decide)) (pda_cons (pd_var 0) pda_nil)))) (pdw_or1 (pdt_cmp (opd_ne hr.units) (pd_callB cd_len T.b_len (by decide +kernel) (pda_cons (pd_var 0) pda_nil)) pd_int (nomark _))))) (pss_oneD (pds_ret pd_bl)) pss_nilD)
  (pss_oneD (pds_ret (pd_and (pd_fn (ok_is_from_to T) (hr.mono (by decide)) (pda_cons (pd_ix ixd (pd_var 0) pd_int) (pda_cons (pd_var 1) (pda_cons (pd_glob T.c_MOST_TICK) pda_nil)))) (pd_one (pd_fn (ok_is_from_to T) (hr.mono (by decide)) (pda_cons (pd_ix ixd (pd_var 0) pd_int) (pda_cons pd_int (pda_cons (pd_glob T.c_MOST_MANY) pda_nil)))))))))) (rd_is_ask c)
theorem ok_checked_asks (T : Txt mg c) : FnC P w c.K mg base 4 "checked_asks" ["asks"] (sp_checked_asks c) :=
  FnC.mk T.d_checked_asks sc_checked_asks (by decide) (len_checked_asks c) (fun f cdv A outer s H E hr => (pss_consD (pds_drop (pd_fn (ok_check_length T) (hr.mono (by decide)) (pda_cons (pd_var 0) (pda_cons pd_int (pda_cons (pd_glob T.c_MOST_ASKS) pda_nil)))))
  (pss_consD (pds_set (i := 1) sc_checked_asks.nd rfl (by first | exact Or.inl rfl | exact Or.inr rfl) pd_int)
  (pss_consD (pds_set (i := 2) sc_checked_asks.nd rfl (by first | exact Or.inl rfl | exact Or.inr rfl) (pd_lstM pda_nil))
  (pss_consD (pds_for (vs := (List.range 5)) rfl (passes_of rfl) (pdi_enum T.b_enumerate (pd_var 0)) (pdg_tup rfl (pdgs_cons (pdg_name (i := 3) sc_checked_asks.nd rfl (by first | exact Or.inl rfl | exact Or.inr rfl) (by decide)) (pdgs_cons (pdg_name (i := 4) sc_checked_asks.nd rfl (by first | exact Or.inl rfl | exact Or.inr rfl) (by decide)) pdgs_nil))) (pss_consD (pds_if (pdt_not (pdt_val (pd_fn (ok_is_ask T) (hr.mono (by decide)) (pda_cons (pd_var 4) (pda_cons (pd_var 1) pda_nil))))) (pss_oneD (pds_raise rfl (pdx_mk (xc_InvalidRow T) (hr.mono (by decide)) (pd_var 3)))) pss_nilD)
  (pss_consD (pds_set (i := 1) sc_checked_asks.nd rfl (by first | exact Or.inl rfl | exact Or.inr rfl) (pd_ix ixd (pd_var 4) pd_int))
  (pss_oneD (pds_drop (pd_lm PySem.F.slot_list_append PySem.F.type_list_append md_append (pd_var 2) (pda_cons (pd_callTy cd_tuple T.b_tuple (by decide +kernel) (pda_cons (pd_var 4) pda_nil)) pda_nil)))))))
  (pss_oneD (pds_ret (pd_frz (pd_var 2))))))))) (rd_checked_asks c)
theorem ok_check_bucket (T : Txt mg c) : FnC P w c.K mg base 4 "check_bucket" ["room", "each"] (sp_check_bucket c) :=
  FnC.mk T.d_check_bucket sc_check_bucket (by decide) (len_check_bucket c) (fun f cdv A outer s H E hr => (pss_consD (pds_drop (pd_fn (ok_check_number T) (hr.mono (by decide)) (pda_cons (pd_var 0) (pda_cons pd_int (pda_cons (pd_glob T.c_MOST_ROOM) pda_nil)))))
  (pss_oneD (pds_drop (pd_fn (ok_check_number T) (hr.mono (by decide)) (pda_cons (pd_var 1) (pda_cons pd_int (pda_cons (pd_glob T.c_MOST_EACH) pda_nil)))))))) (rd_check_bucket c)
theorem ok_tokens_between (T : Txt mg c) : FnC P w c.K mg base 1 "tokens_between" ["each", "tick", "later"] (sp_tokens_between c) :=
  FnC.mk T.d_tokens_between sc_tokens_between (by decide) (len_tokens_between c) (fun f cdv A outer s H E hr => (pss_oneD (pds_ret (pd_op opd_sub (pd_op opd_div (pd_var 2) (pd_var 0)) (pd_op opd_div (pd_var 1) (pd_var 0)))))) (rd_tokens_between c)
theorem ok_Bucket_init (T : Txt mg c) : MkC P w c.K mg base c.Bucket 1 ["self", "room", "each"] (sp_Bucket_init c) :=
  MkC.mk T.i_Bucket_init sc_Bucket_init (by decide) (len_Bucket_init c) (fun f cdv A outer s H E hr => (pss_consD (pds_setF (N := N_Bucket) (i := 0) T.cl_Bucket T.na_Bucket_room rfl (pd_var 0) (pd_var 1))
  (pss_consD (pds_setF (N := N_Bucket) (i := 1) T.cl_Bucket T.na_Bucket_each rfl (pd_var 0) (pd_var 2))
  (pss_consD (pds_setF (N := N_Bucket) (i := 2) T.cl_Bucket T.na_Bucket_tokens rfl (pd_var 0) (pd_var 1))
  (pss_oneD (pds_setF (N := N_Bucket) (i := 3) T.cl_Bucket T.na_Bucket_tick rfl (pd_var 0) pd_int)))))) (rd_Bucket_init c)
theorem ok_Bucket_go_to (T : Txt mg c) : MtC P w c.K mg base c.Bucket 2 "go_to" ["self", "tick"] (sp_Bucket_go_to c) :=
  MtC.mk T.m_Bucket_go_to sc_Bucket_go_to (by decide) (len_Bucket_go_to c) (fun f cdv A outer s H E hr => (pss_consD (pds_setF (N := N_Bucket) (i := 2) T.cl_Bucket T.na_Bucket_tokens rfl (pd_var 0) (pd_callB (cd_min2 rfl) T.b_min (by decide +kernel) (pda_cons (pd_fld (N := N_Bucket) (i := 0) T.cl_Bucket T.na_Bucket_room rfl (pd_var 0)) (pda_cons (pd_op opd_add (pd_fld (N := N_Bucket) (i := 2) T.cl_Bucket T.na_Bucket_tokens rfl (pd_var 0)) (pd_fn (ok_tokens_between T) (hr.mono (by decide)) (pda_cons (pd_fld (N := N_Bucket) (i := 1) T.cl_Bucket T.na_Bucket_each rfl (pd_var 0)) (pda_cons (pd_fld (N := N_Bucket) (i := 3) T.cl_Bucket T.na_Bucket_tick rfl (pd_var 0)) (pda_cons (pd_var 1) pda_nil))))) pda_nil))))
  (pss_oneD (pds_setF (N := N_Bucket) (i := 3) T.cl_Bucket T.na_Bucket_tick rfl (pd_var 0) (pd_var 1))))) (rd_Bucket_go_to c)
theorem ok_Bucket_take (T : Txt mg c) : MtC P w c.K mg base c.Bucket 1 "take" ["self", "many"] (sp_Bucket_take c) :=
  MtC.mk T.m_Bucket_take sc_Bucket_take (by decide) (len_Bucket_take c) (fun f cdv A outer s H E hr => (pss_consD (pds_if (pdt_cmp opd_gt (pd_var 1) (pd_fld (N := N_Bucket) (i := 2) T.cl_Bucket T.na_Bucket_tokens rfl (pd_var 0)) (nomark _)) (pss_oneD (pds_ret pd_bl)) pss_nilD)
  (pss_consD (pds_augF (N := N_Bucket) (i := 2) T.cl_Bucket T.na_Bucket_tokens rfl (pd_var 0) (pd_var 1) iopd_sub)
  (pss_oneD (pds_ret pd_bl))))) (rd_Bucket_take c)
theorem ok_let_by (T : Txt mg c) : FnC P w c.K mg base 5 "let_by" ["room", "each", "asks"] (sp_let_by c) :=
  FnC.mk T.d_let_by sc_let_by (by decide) (len_let_by c) (fun f cdv A outer s H E hr => (pss_consD (pds_drop (pd_fn (ok_check_bucket T) (hr.mono (by decide)) (pda_cons (pd_var 0) (pda_cons (pd_var 1) pda_nil))))
  (pss_consD (pds_set (i := 3) sc_let_by.nd rfl (by first | exact Or.inl rfl | exact Or.inr rfl) (pd_mk (N := N_Bucket) (ok_Bucket_init T) T.mk_Bucket (by decide +kernel) (by decide) (hr.mono (by decide)) (pda_cons (pd_var 0) (pda_cons (pd_var 1) pda_nil))))
  (pss_consD (pds_set (i := 4) sc_let_by.nd rfl (by first | exact Or.inl rfl | exact Or.inr rfl) (pd_lstM pda_nil))
  (pss_consD (pds_for (vs := (List.range 7)) rfl (passes_of rfl) (pdi_seq (pd_fn (ok_checked_asks T) (hr.mono (by decide)) (pda_cons (pd_var 2) pda_nil))) (pdg_tup rfl (pdgs_cons (pdg_name (i := 5) sc_let_by.nd rfl (by first | exact Or.inl rfl | exact Or.inr rfl) (by decide)) (pdgs_cons (pdg_name (i := 6) sc_let_by.nd rfl (by first | exact Or.inl rfl | exact Or.inr rfl) (by decide)) pdgs_nil))) (pss_consD (pds_drop (pd_mt (N := N_Bucket) T.cl_Bucket (ok_Bucket_go_to T) (by decide +kernel) (hr.mono (by decide)) (pd_var 3) (pda_cons (pd_var 5) pda_nil)))
  (pss_oneD (pds_drop (pd_lm PySem.F.slot_list_append PySem.F.type_list_append md_append (pd_var 4) (pda_cons (pd_mt (N := N_Bucket) T.cl_Bucket (ok_Bucket_take T) (by decide +kernel) (hr.mono (by decide)) (pd_var 3) (pda_cons (pd_var 6) pda_nil)) pda_nil))))))
  (pss_oneD (pds_ret (pd_callTy cd_tuple T.b_tuple (by decide +kernel) (pda_cons (pd_frz (pd_var 4)) pda_nil))))))))) (rd_let_by c)
theorem ok_least_room (T : Txt mg c) : FnC P w c.K mg base 5 "least_room" ["each", "asks"] (sp_least_room c) :=
  FnC.mk T.d_least_room sc_least_room (by decide) (len_least_room c) (fun f cdv A outer s H E hr => (pss_consD (pds_drop (pd_fn (ok_check_number T) (hr.mono (by decide)) (pda_cons (pd_var 0) (pda_cons pd_int (pda_cons (pd_glob T.c_MOST_EACH) pda_nil)))))
  (pss_consD (pds_set (i := 2) sc_least_room.nd rfl (by first | exact Or.inl rfl | exact Or.inr rfl) (pd_fn (ok_checked_asks T) (hr.mono (by decide)) (pda_cons (pd_var 1) pda_nil)))
  (pss_consD (pds_set (i := 3) sc_least_room.nd rfl (by first | exact Or.inl rfl | exact Or.inr rfl) pd_int)
  (pss_consD (pds_for (vs := (List.range 8)) rfl (passes_of rfl) (pdi_rg1 T.b_range (pd_callB cd_len T.b_len (by decide +kernel) (pda_cons (pd_var 2) pda_nil))) (pdg_name (i := 4) sc_least_room.nd rfl (by first | exact Or.inl rfl | exact Or.inr rfl) (by decide)) (pss_consD (pds_set (i := 5) sc_least_room.nd rfl (by first | exact Or.inl rfl | exact Or.inr rfl) pd_int)
  (pss_oneD (pds_for (vs := (List.range 8)) rfl (passes_of rfl) (pdi_seq (pd_slice (pd_var 2) (pdo_some (pd_var 4)) pdo_none)) (pdg_tup rfl (pdgs_cons (pdg_name (i := 6) sc_least_room.nd rfl (by first | exact Or.inl rfl | exact Or.inr rfl) (by decide)) (pdgs_cons (pdg_name (i := 7) sc_least_room.nd rfl (by first | exact Or.inl rfl | exact Or.inr rfl) (by decide)) pdgs_nil))) (pss_consD (pds_aug (i := 5) sc_least_room.nd rfl (by first | exact Or.inl rfl | exact Or.inr rfl) (pd_var 7) iopd_add)
  (pss_oneD (pds_set (i := 3) sc_least_room.nd rfl (by first | exact Or.inl rfl | exact Or.inr rfl) (pd_callB (cd_max2 rfl) T.b_max (by decide +kernel) (pda_cons (pd_var 3) (pda_cons (pd_op opd_sub (pd_var 5) (pd_fn (ok_tokens_between T) (hr.mono (by decide)) (pda_cons (pd_var 0) (pda_cons (pd_ix ixd (pd_ix ixd (pd_var 2) (pd_var 4)) pd_int) (pda_cons (pd_var 6) pda_nil))))) pda_nil))))))))))
  (pss_oneD (pds_ret (pd_var 3)))))))) (rd_least_room c)
theorem ok_queue_ends (T : Txt mg c) : FnC P w c.K mg base 5 "queue_ends" ["asks", "speed"] (sp_queue_ends c) :=
  FnC.mk T.d_queue_ends sc_queue_ends (by decide) (len_queue_ends c) (fun f cdv A outer s H E hr => (pss_consD (pds_set (i := 2) sc_queue_ends.nd rfl (by first | exact Or.inl rfl | exact Or.inr rfl) (pd_fn (ok_checked_asks T) (hr.mono (by decide)) (pda_cons (pd_var 0) pda_nil)))
  (pss_consD (pds_drop (pd_fn (ok_check_number T) (hr.mono (by decide)) (pda_cons (pd_var 1) (pda_cons pd_int (pda_cons (pd_glob T.c_MOST_SPEED) pda_nil)))))
  (pss_consD (pds_set (i := 3) sc_queue_ends.nd rfl (by first | exact Or.inl rfl | exact Or.inr rfl) pd_int)
  (pss_consD (pds_set (i := 4) sc_queue_ends.nd rfl (by first | exact Or.inl rfl | exact Or.inr rfl) pd_int)
  (pss_consD (pds_set (i := 5) sc_queue_ends.nd rfl (by first | exact Or.inl rfl | exact Or.inr rfl) (pd_lstM pda_nil))
  (pss_consD (pds_for (vs := (List.range 8)) rfl (passes_of rfl) (pdi_seq (pd_var 2)) (pdg_tup rfl (pdgs_cons (pdg_name (i := 6) sc_queue_ends.nd rfl (by first | exact Or.inl rfl | exact Or.inr rfl) (by decide)) (pdgs_cons (pdg_name (i := 7) sc_queue_ends.nd rfl (by first | exact Or.inl rfl | exact Or.inr rfl) (by decide)) pdgs_nil))) (pss_consD (pds_if (pdt_cmp opd_gt (pd_var 6) (pd_var 3) (nomark _)) (pss_consD (pds_set (i := 3) sc_queue_ends.nd rfl (by first | exact Or.inl rfl | exact Or.inr rfl) (pd_var 6))
  (pss_oneD (pds_set (i := 4) sc_queue_ends.nd rfl (by first | exact Or.inl rfl | exact Or.inr rfl) pd_int))) pss_nilD)
  (pss_consD (pds_aug (i := 4) sc_queue_ends.nd rfl (by first | exact Or.inl rfl | exact Or.inr rfl) (pd_var 7) iopd_add)
  (pss_consD (pds_aug (i := 3) sc_queue_ends.nd rfl (by first | exact Or.inl rfl | exact Or.inr rfl) (pd_op opd_div (pd_op opd_sub (pd_var 4) pd_int) (pd_var 1)) iopd_add)
  (pss_consD (pds_set (i := 4) sc_queue_ends.nd rfl (by first | exact Or.inl rfl | exact Or.inr rfl) (pd_op opd_add (pd_op opd_mod (pd_op opd_sub (pd_var 4) pd_int) (pd_var 1)) pd_int))
  (pss_oneD (pds_drop (pd_lm PySem.F.slot_list_append PySem.F.type_list_append md_append (pd_var 5) (pda_cons (pd_var 3) pda_nil)))))))))
  (pss_oneD (pds_ret (pd_callTy cd_tuple T.b_tuple (by decide +kernel) (pda_cons (pd_frz (pd_var 5)) pda_nil))))))))))) (rd_queue_ends c)
theorem okK_longest_delay_0_speed_each_room (T : Txt mg c) : FnCK P w c.K mg base 5 "longest_delay" ["room", "each", "speed"] ["speed", "each", "room"] 0 3 [2, 1, 0] (sp_longest_delay c) :=
  FnCK.mk T.dk_longest_delay_0_speed_each_room sc_longest_delay (by decide) (len_longest_delay c) (fun f cdv A outer s H E hr => (pss_consD (pds_drop (pd_fn (ok_check_bucket T) (hr.mono (by decide)) (pda_cons (pd_var 0) (pda_cons (pd_var 1) pda_nil))))
  (pss_consD (pds_drop (pd_fn (ok_check_number T) (hr.mono (by decide)) (pda_cons (pd_var 2) (pda_cons pd_int (pda_cons (pd_glob T.c_MOST_SPEED) pda_nil)))))
  (pss_oneD (pds_ret (pd_op opd_sub (pd_op opd_div (pd_op opd_sub (pd_op opd_add (pd_var 0) (pd_var 2)) pd_int) (pd_var 2)) pd_int)))))) (rd_longest_delay c)
theorem ok_longest_delay (T : Txt mg c) : FnC P w c.K mg base 5 "longest_delay" ["room", "each", "speed"] (sp_longest_delay c) :=
  FnC.mk T.d_longest_delay sc_longest_delay (by decide) (len_longest_delay c) (fun f cdv A outer s H E hr => (pss_consD (pds_drop (pd_fn (ok_check_bucket T) (hr.mono (by decide)) (pda_cons (pd_var 0) (pda_cons (pd_var 1) pda_nil))))
  (pss_consD (pds_drop (pd_fn (ok_check_number T) (hr.mono (by decide)) (pda_cons (pd_var 2) (pda_cons pd_int (pda_cons (pd_glob T.c_MOST_SPEED) pda_nil)))))
  (pss_oneD (pds_ret (pd_op opd_sub (pd_op opd_div (pd_op opd_sub (pd_op opd_add (pd_var 0) (pd_var 2)) pd_int) (pd_var 2)) pd_int)))))) (rd_longest_delay c)
theorem ok__law_pool (T : Txt mg c) : FnC P w c.K mg base 1 "_law_pool" ["script"] (sp__law_pool c) :=
  FnC.mk T.d__law_pool sc__law_pool (by decide) (len__law_pool c) (fun f cdv A outer s H E hr => (pss_consD (pds_set (i := 1) sc__law_pool.nd rfl (by first | exact Or.inl rfl | exact Or.inr rfl) pd_int)
  (pss_consD (pds_set (i := 2) sc__law_pool.nd rfl (by first | exact Or.inl rfl | exact Or.inr rfl) (pd_lstM pda_nil))
  (pss_consD (pds_for (vs := (List.range 5)) rfl (passes_of rfl) (pdi_rg1 T.b_range (pd_callB (cd_min2 rfl) T.b_min (by decide +kernel) (pda_cons (pd_callB cd_len T.b_len (by decide +kernel) (pda_cons (pd_var 0) pda_nil)) (pda_cons pd_int pda_nil)))) (pdg_name (i := 3) sc__law_pool.nd rfl (by first | exact Or.inl rfl | exact Or.inr rfl) (by decide)) (pss_consD (pds_set (i := 4) sc__law_pool.nd rfl (by first | exact Or.inl rfl | exact Or.inr rfl) (pd_callTy cd_int T.b_int (by decide +kernel) (pda_cons (pd_ix ixd (pd_var 0) (pd_var 3)) pda_nil)))
  (pss_consD (pds_if (pdt_cmp opd_ge (pd_var 4) (pd_op opd_pow pd_int pd_int) (nomark _)) (pss_oneD (pds_drop (pd_lm PySem.F.slot_list_append PySem.F.type_list_append md_append (pd_var 2) (pda_cons (pd_var 4) pda_nil)))) pss_nilD)
  (pss_oneD (pds_set (i := 1) sc__law_pool.nd rfl (by first | exact Or.inl rfl | exact Or.inr rfl) (pd_op opd_mod (pd_callTy cd_int T.b_int (by decide +kernel) (pda_cons (pd_op opd_add (pd_op opd_add (pd_op opd_mul (pd_var 1) (pd_var 1)) (pd_op opd_mod (pd_callTy cd_int T.b_int (by decide +kernel) (pda_cons (pd_var 4) pda_nil)) pd_int)) (pd_op opd_mul pd_int (pd_var 3))) pda_nil)) pd_int))))))
  (pss_oneD (pds_ret (pd_lstM (pda_cons (pd_var 1) (pda_cons pd_int (pda_cons (pd_var 2) (pda_cons pd_int pda_nil))))))))))) (rd__law_pool c)
theorem ok__law_draw (T : Txt mg c) : FnC P w c.K mg base 1 "_law_draw" ["pool", "many"] (sp__law_draw c) :=
  FnC.mk T.d__law_draw sc__law_draw (by decide) (len__law_draw c) (fun f cdv A outer s H E hr => (pss_consD (pds_setI (pd_var 0) pd_int (pd_op opd_add (pd_ix ixd (pd_var 0) pd_int) pd_int))
  (pss_consD (pds_set (i := 2) sc__law_draw.nd rfl (by first | exact Or.inl rfl | exact Or.inr rfl) (pd_ix ixd (pd_var 0) pd_int))
  (pss_consD (pds_if (pdt_cmp opd_gt (pd_callB cd_len T.b_len (by decide +kernel) (pda_cons (pd_var 2) pda_nil)) pd_int (nomark _)) (pss_consD (pds_set (i := 3) sc__law_draw.nd rfl (by first | exact Or.inl rfl | exact Or.inr rfl) (pd_op opd_mod (pd_callTy cd_int T.b_int (by decide +kernel) (pda_cons (pd_ix ixd (pd_var 2) pd_int) pda_nil)) (pd_var 1)))
  (pss_consD (pds_setI (pd_var 2) pd_int (pd_op opd_div (pd_ix ixd (pd_var 2) pd_int) (pd_var 1)))
  (pss_consD (pds_setI (pd_var 0) pd_int (pd_op opd_add (pd_ix ixd (pd_var 0) pd_int) pd_int))
  (pss_consD (pds_if (PDw.pt (pdw_or (pdt_cmp (opd_eq hr.units) (pd_ix ixd (pd_var 2) pd_int) pd_int (nomark _)) (pdw_or1 (pdt_cmp opd_ge (pd_ix ixd (pd_var 0) pd_int) pd_int (nomark _))))) (pss_consD (pds_drop (pd_lm PySem.F.slot_list_pop PySem.F.type_list_pop md_popAt (pd_var 2) (pda_cons pd_int pda_nil)))
  (pss_oneD (pds_setI (pd_var 0) pd_int pd_int))) pss_nilD)
  (pss_oneD (pds_ret (pd_var 3))))))) pss_nilD)
  (pss_consD (pds_set (i := 4) sc__law_draw.nd rfl (by first | exact Or.inl rfl | exact Or.inr rfl) (pd_op opd_mod (pd_callTy cd_int T.b_int (by decide +kernel) (pda_cons (pd_op opd_add (pd_op opd_mul (pd_ix ixd (pd_var 0) pd_int) (pd_ix ixd (pd_var 0) pd_int)) (pd_op opd_mul pd_int (pd_ix ixd (pd_var 0) pd_int))) pda_nil)) pd_int))
  (pss_consD (pds_setI (pd_var 0) pd_int (pd_op opd_mod (pd_callTy cd_int T.b_int (by decide +kernel) (pda_cons (pd_op opd_add (pd_op opd_mul (pd_var 4) (pd_var 4)) (pd_ix ixd (pd_var 0) pd_int)) pda_nil)) pd_int))
  (pss_oneD (pds_ret (pd_op opd_mod (pd_callTy cd_int T.b_int (by decide +kernel) (pda_cons (pd_op opd_div (pd_ix ixd (pd_var 0) pd_int) pd_int) pda_nil)) (pd_var 1)))))))))) (rd__law_draw c)
theorem ok__law_like_n (T : Txt mg c) : ∀ n : Nat, FnC P w c.K mg base (n + 1) "_law_like" ["told", "due"] (sp__law_like_n c n)
  | 0 => FnC.zero T.d__law_like
  | n + 1 => by
    have ih := ok__law_like_n T n
    exact FnC.mk T.d__law_like (k := n + 1) sc__law_like (by decide) (len__law_like_n c (n + 1)) (fun f cdv A outer s H E hr => (pss_consD (pds_if (pdt_val (pd_isiT (Ts := ["tuple", "list"]) (pd_var 1) (pa_tys (T := "tuple") (pe_bltn rfl T.b_tuple (by decide +kernel) rfl) (pa_tys (T := "list") (pe_bltn rfl T.b_list (by decide +kernel) rfl) pa_tys0)) T.b_isinstance)) (pss_consD (pds_if (PDw.pt (pdw_or (pdt_cmp (opd_ne hr.units) (pd_isi (T := "tuple") (pd_var 1) (pe_bltn rfl T.b_tuple (by decide +kernel) rfl) T.b_isinstance) (pd_isi (T := "tuple") (pd_var 0) (pe_bltn rfl T.b_tuple (by decide +kernel) rfl) T.b_isinstance) (nomark _)) (pdw_or1 (pdt_cmp (opd_ne hr.units) (pd_isi (T := "list") (pd_var 1) (pe_bltn rfl T.b_list (by decide +kernel) rfl) T.b_isinstance) (pd_isi (T := "list") (pd_var 0) (pe_bltn rfl T.b_list (by decide +kernel) rfl) T.b_isinstance) (nomark _))))) (pss_oneD (pds_ret pd_bl)) pss_nilD)
  (pss_consD (pds_if (pdt_cmp (opd_ne hr.units) (pd_callB cd_len T.b_len (by decide +kernel) (pda_cons (pd_var 0) pda_nil)) (pd_callB cd_len T.b_len (by decide +kernel) (pda_cons (pd_var 1) pda_nil)) (nomark _)) (pss_oneD (pds_ret pd_bl)) pss_nilD)
  (pss_consD (pds_for (vs := (List.range 3)) rfl (passes_of rfl) (pdi_rg1 T.b_range (pd_callB cd_len T.b_len (by decide +kernel) (pda_cons (pd_var 1) pda_nil))) (pdg_name (i := 2) sc__law_like.nd rfl (by first | exact Or.inl rfl | exact Or.inr rfl) (by decide)) (pss_oneD (pds_if (pdt_not (pdt_val (pd_fn ih (hr.mono (by omega)) (pda_cons (pd_ix ixd (pd_var 0) (pd_var 2)) (pda_cons (pd_ix ixd (pd_var 1) (pd_var 2)) pda_nil))))) (pss_oneD (pds_ret pd_bl)) pss_nilD)))
  (pss_oneD (pds_ret pd_bl))))) pss_nilD)
  (pss_consD (pds_if (pdt_cmp opd_isN (pd_var 1) pd_non (nomark _)) (pss_oneD (pds_ret (pd_cmp opd_isN (pd_var 0) pd_non (nomark _)))) pss_nilD)
  (pss_consD (pds_if (pdt_val (pd_isi (T := "bool") (pd_var 1) (pe_bltn rfl T.b_bool (by decide +kernel) rfl) T.b_isinstance)) (pss_oneD (pds_ret (pd_and (pd_isi (T := "bool") (pd_var 0) (pe_bltn rfl T.b_bool (by decide +kernel) rfl) T.b_isinstance) (pd_one (pd_cmp (opd_eq hr.units) (pd_var 0) (pd_var 1) (nomark _)))))) pss_nilD)
  (pss_consD (pds_if (pdt_val (pd_isi (T := "int") (pd_var 1) (pe_bltn rfl T.b_int (by decide +kernel) rfl) T.b_isinstance)) (pss_oneD (pds_ret (pd_and (pd_isi (T := "int") (pd_var 0) (pe_bltn rfl T.b_int (by decide +kernel) rfl) T.b_isinstance) (pd_and (pd_not (pd_isi (T := "bool") (pd_var 0) (pe_bltn rfl T.b_bool (by decide +kernel) rfl) T.b_isinstance)) (pd_one (pd_cmp (opd_eq hr.units) (pd_var 0) (pd_var 1) (nomark _))))))) pss_nilD)
  (pss_oneD (pds_ret (pd_and (pd_isi (T := "str") (pd_var 1) (pe_bltn rfl T.b_str (by decide +kernel) rfl) T.b_isinstance) (pd_and (pd_isi (T := "str") (pd_var 0) (pe_bltn rfl T.b_str (by decide +kernel) rfl) T.b_isinstance) (pd_one (pd_cmp (opd_eq hr.units) (pd_var 0) (pd_var 1) (nomark _)))))))))))) (rd__law_like c n)
theorem ok__law_like (T : Txt mg c) : FnC P w c.K mg base 7 "_law_like" ["told", "due"] (sp__law_like c) := FnC.mono (FnC.imp (ok__law_like_n T 6) (imp__law_like c)) (by decide)
theorem ok__law_copy_n (T : Txt mg c) : ∀ n : Nat, FnC P w c.K mg base (n + 1) "_law_copy" ["value"] (sp__law_copy_n c n)
  | 0 => FnC.zero T.d__law_copy
  | n + 1 => by
    have ih := ok__law_copy_n T n
    exact FnC.mk T.d__law_copy (k := n + 1) sc__law_copy (by decide) (len__law_copy_n c (n + 1)) (fun f cdv A outer s H E hr => (pss_consD (pds_if (pdt_val (pd_isi (T := "list") (pd_var 0) (pe_bltn rfl T.b_list (by decide +kernel) rfl) T.b_isinstance)) (pss_oneD (pds_ret (pd_lcM (own := [("part", 1)]) rfl sc__law_copy.nd (pdi_seq (pd_var 0)) (blkOk_by (N := N__law_copy_) (sc := defScope s__law_copy) (by decide +kernel)) (fun _ _ _ _ _ => (pdg_name (i := 1) sc__law_copy.nd rfl (by first | exact Or.inl rfl | exact Or.inr rfl) (by decide))) (fun _ _ _ _ _ => pdts_nil) (fun _ _ _ _ _ => (pd_fn ih (hr.mono (by omega)) (pda_cons (pd_var 1) pda_nil)))))) pss_nilD)
  (pss_consD (pds_if (pdt_val (pd_isi (T := "tuple") (pd_var 0) (pe_bltn rfl T.b_tuple (by decide +kernel) rfl) T.b_isinstance)) (pss_oneD (pds_ret (pd_callTy cd_tuple T.b_tuple (by decide +kernel) (pda_cons (pd_lc (own := [("part", 1)]) rfl sc__law_copy.nd (pdi_seq (pd_var 0)) (blkOk_by (N := N__law_copy_) (sc := defScope s__law_copy) (by decide +kernel)) (fun _ _ _ _ _ => (pdg_name (i := 1) sc__law_copy.nd rfl (by first | exact Or.inl rfl | exact Or.inr rfl) (by decide))) (fun _ _ _ _ _ => pdts_nil) (fun _ _ _ _ _ => (pd_fn ih (hr.mono (by omega)) (pda_cons (pd_var 1) pda_nil)))) pda_nil)))) pss_nilD)
  (pss_oneD (pds_ret (pd_var 0)))))) (rd__law_copy c n)
theorem ok__law_copy (T : Txt mg c) : FnC P w c.K mg base 7 "_law_copy" ["value"] (sp__law_copy c) := FnC.mono (FnC.imp (ok__law_copy_n T 6) (imp__law_copy c)) (by decide)
theorem ok__law_ticks (T : Txt mg c) : FnC P w c.K mg base 1 "_law_ticks" ["room", "each", "asks", "until"] (sp__law_ticks c) :=
  FnC.mk T.d__law_ticks sc__law_ticks (by decide) (len__law_ticks c) (fun f cdv A outer s H E hr => (pss_consD (pds_set (i := 4) sc__law_ticks.nd rfl (by first | exact Or.inl rfl | exact Or.inr rfl) (pd_var 0))
  (pss_consD (pds_set (i := 5) sc__law_ticks.nd rfl (by first | exact Or.inl rfl | exact Or.inr rfl) (pd_lstM pda_nil))
  (pss_consD (pds_for (vs := (List.range 8)) rfl (passes_of rfl) (pdi_rg1 T.b_range (pd_op opd_add (pd_var 3) pd_int)) (pdg_name (i := 6) sc__law_ticks.nd rfl (by first | exact Or.inl rfl | exact Or.inr rfl) (by decide)) (pss_consD (pds_if (PDw.pt (pdw_and (pdt_cmp opd_gt (pd_var 6) pd_int (nomark _)) (pdw_and (pdt_cmp (opd_eq hr.units) (pd_op opd_mod (pd_callTy cd_int T.b_int (by decide +kernel) (pda_cons (pd_var 6) pda_nil)) (pd_var 1)) pd_int (nomark _)) (pdw_and1 (pdt_cmp opd_lt (pd_var 4) (pd_var 0) (nomark _)))))) (pss_oneD (pds_set (i := 4) sc__law_ticks.nd rfl (by first | exact Or.inl rfl | exact Or.inr rfl) (pd_op opd_add (pd_var 4) pd_int))) pss_nilD)
  (pss_oneD (pds_for (vs := (List.range 8)) rfl (passes_of rfl) (pdi_rg2 T.b_range (pd_callB cd_len T.b_len (by decide +kernel) (pda_cons (pd_var 5) pda_nil)) (pd_callB cd_len T.b_len (by decide +kernel) (pda_cons (pd_var 2) pda_nil))) (pdg_name (i := 7) sc__law_ticks.nd rfl (by first | exact Or.inl rfl | exact Or.inr rfl) (by decide)) (pss_consD (pds_if (pdt_cmp opd_gt (pd_ix ixd (pd_ix ixd (pd_var 2) (pd_var 7)) pd_int) (pd_var 6) (nomark _)) (pss_oneD pds_break) pss_nilD)
  (pss_consD (pds_drop (pd_lm PySem.F.slot_list_append PySem.F.type_list_append md_append (pd_var 5) (pda_cons (pd_cmp opd_le (pd_ix ixd (pd_ix ixd (pd_var 2) (pd_var 7)) pd_int) (pd_var 4) (nomark _)) pda_nil)))
  (pss_oneD (pds_if (pdt_cmp opd_le (pd_ix ixd (pd_ix ixd (pd_var 2) (pd_var 7)) pd_int) (pd_var 4) (nomark _)) (pss_oneD (pds_set (i := 4) sc__law_ticks.nd rfl (by first | exact Or.inl rfl | exact Or.inr rfl) (pd_op opd_sub (pd_var 4) (pd_ix ixd (pd_ix ixd (pd_var 2) (pd_var 7)) pd_int)))) pss_nilD))))))))
  (pss_oneD (pds_ret (pd_lst (pda_cons (pd_callTy cd_tuple T.b_tuple (by decide +kernel) (pda_cons (pd_frz (pd_var 5)) pda_nil)) (pda_cons (pd_var 4) pda_nil))))))))) (rd__law_ticks c)
theorem ok__law_leaps (T : Txt mg c) : FnC P w c.K mg base 1 "_law_leaps" ["room", "each", "asks", "until"] (sp__law_leaps c) :=
  FnC.mk T.d__law_leaps sc__law_leaps (by decide) (len__law_leaps c) (fun f cdv A outer s H E hr => (pss_consD (pds_set (i := 4) sc__law_leaps.nd rfl (by first | exact Or.inl rfl | exact Or.inr rfl) (pd_var 0))
  (pss_consD (pds_set (i := 5) sc__law_leaps.nd rfl (by first | exact Or.inl rfl | exact Or.inr rfl) pd_int)
  (pss_consD (pds_set (i := 6) sc__law_leaps.nd rfl (by first | exact Or.inl rfl | exact Or.inr rfl) (pd_lstM pda_nil))
  (pss_consD (pds_for (vs := (List.range 8)) rfl (passes_of rfl) (pdi_seq (pd_var 2)) (pdg_name (i := 7) sc__law_leaps.nd rfl (by first | exact Or.inl rfl | exact Or.inr rfl) (by decide)) (pss_consD (pds_set (i := 4) sc__law_leaps.nd rfl (by first | exact Or.inl rfl | exact Or.inr rfl) (pd_callB (cd_min2 rfl) T.b_min (by decide +kernel) (pda_cons (pd_callTy cd_int T.b_int (by decide +kernel) (pda_cons (pd_var 0) pda_nil)) (pda_cons (pd_op opd_sub (pd_op opd_add (pd_var 4) (pd_op opd_div (pd_ix ixd (pd_var 7) pd_int) (pd_var 1))) (pd_op opd_div (pd_var 5) (pd_var 1))) pda_nil))))
  (pss_consD (pds_set (i := 5) sc__law_leaps.nd rfl (by first | exact Or.inl rfl | exact Or.inr rfl) (pd_ix ixd (pd_var 7) pd_int))
  (pss_consD (pds_drop (pd_lm PySem.F.slot_list_append PySem.F.type_list_append md_append (pd_var 6) (pda_cons (pd_cmp opd_le (pd_ix ixd (pd_var 7) pd_int) (pd_var 4) (nomark _)) pda_nil)))
  (pss_oneD (pds_if (pdt_cmp opd_le (pd_ix ixd (pd_var 7) pd_int) (pd_var 4) (nomark _)) (pss_oneD (pds_set (i := 4) sc__law_leaps.nd rfl (by first | exact Or.inl rfl | exact Or.inr rfl) (pd_op opd_sub (pd_var 4) (pd_ix ixd (pd_var 7) pd_int)))) pss_nilD))))))
  (pss_oneD (pds_ret (pd_lst (pda_cons (pd_callTy cd_tuple T.b_tuple (by decide +kernel) (pda_cons (pd_frz (pd_var 6)) pda_nil)) (pda_cons (pd_callB (cd_min2 rfl) T.b_min (by decide +kernel) (pda_cons (pd_callTy cd_int T.b_int (by decide +kernel) (pda_cons (pd_var 0) pda_nil)) (pda_cons (pd_op opd_sub (pd_op opd_add (pd_var 4) (pd_op opd_div (pd_var 3) (pd_var 1))) (pd_op opd_div (pd_var 5) (pd_var 1))) pda_nil))) pda_nil)))))))))) (rd__law_leaps c)
theorem ok__law_build (T : Txt mg c) : FnC P w c.K mg base 2 "_law_build" ["pool", "room", "each", "many", "limit"] (sp__law_build c) :=
  FnC.mk T.d__law_build sc__law_build (by decide) (len__law_build c) (fun f cdv A outer s H E hr => (pss_consD (pds_set (i := 5) sc__law_build.nd rfl (by first | exact Or.inl rfl | exact Or.inr rfl) (pd_lstM pda_nil))
  (pss_consD (pds_set (i := 6) sc__law_build.nd rfl (by first | exact Or.inl rfl | exact Or.inr rfl) pd_int)
  (pss_consD (pds_set (i := 7) sc__law_build.nd rfl (by first | exact Or.inl rfl | exact Or.inr rfl) (pd_var 1))
  (pss_consD (pds_for (vs := (List.range 13)) rfl (passes_of rfl) (pdi_rg1 T.b_range (pd_var 3)) (pdg_name (i := 8) sc__law_build.nd rfl (by first | exact Or.inl rfl | exact Or.inr rfl) (by decide)) (pss_consD (pds_set (i := 9) sc__law_build.nd rfl (by first | exact Or.inl rfl | exact Or.inr rfl) (pd_fn (ok__law_draw T) (hr.mono (by decide)) (pda_cons (pd_var 0) (pda_cons pd_int pda_nil))))
  (pss_consD (pds_set (i := 10) sc__law_build.nd rfl (by first | exact Or.inl rfl | exact Or.inr rfl) (pd_ix ixd (pd_lst (pda_cons pd_int (pda_cons pd_int (pda_cons (pd_op opd_sub (pd_var 2) (pd_op opd_mod (pd_callTy cd_int T.b_int (by decide +kernel) (pda_cons (pd_var 6) pda_nil)) (pd_var 2))) (pda_cons (pd_op opd_sub (pd_op opd_sub (pd_var 2) (pd_op opd_mod (pd_callTy cd_int T.b_int (by decide +kernel) (pda_cons (pd_var 6) pda_nil)) (pd_var 2))) pd_int) (pda_cons pd_int (pda_cons pd_int (pda_cons pd_int pda_nil)))))))) (pd_var 9)))
  (pss_consD (pds_if (pdt_cmp (opd_eq hr.units) (pd_var 9) pd_int (nomark _)) (pss_oneD (pds_set (i := 10) sc__law_build.nd rfl (by first | exact Or.inl rfl | exact Or.inr rfl) (pd_fn (ok__law_draw T) (hr.mono (by decide)) (pda_cons (pd_var 0) (pda_cons (pd_op opd_add (pd_op opd_mul pd_int (pd_var 2)) pd_int) pda_nil))))) pss_nilD)
  (pss_consD (pds_if (pdt_cmp (opd_eq hr.units) (pd_var 9) pd_int (nomark _)) (pss_oneD (pds_set (i := 10) sc__law_build.nd rfl (by first | exact Or.inl rfl | exact Or.inr rfl) (pd_fn (ok__law_draw T) (hr.mono (by decide)) (pda_cons (pd_var 0) (pda_cons (pd_op opd_div (pd_var 4) pd_int) pda_nil))))) pss_nilD)
  (pss_consD (pds_set (i := 11) sc__law_build.nd rfl (by first | exact Or.inl rfl | exact Or.inr rfl) (pd_callB (cd_min2 rfl) T.b_min (by decide +kernel) (pda_cons (pd_callTy cd_int T.b_int (by decide +kernel) (pda_cons (pd_op opd_add (pd_var 6) (pd_var 10)) pda_nil)) (pda_cons (pd_var 4) pda_nil))))
  (pss_consD (pds_set (i := 7) sc__law_build.nd rfl (by first | exact Or.inl rfl | exact Or.inr rfl) (pd_callB (cd_min2 rfl) T.b_min (by decide +kernel) (pda_cons (pd_callTy cd_int T.b_int (by decide +kernel) (pda_cons (pd_var 1) pda_nil)) (pda_cons (pd_op opd_sub (pd_op opd_add (pd_var 7) (pd_op opd_div (pd_var 11) (pd_var 2))) (pd_op opd_div (pd_var 6) (pd_var 2))) pda_nil))))
  (pss_consD (pds_set (i := 6) sc__law_build.nd rfl (by first | exact Or.inl rfl | exact Or.inr rfl) (pd_var 11))
  (pss_consD (pds_set (i := 12) sc__law_build.nd rfl (by first | exact Or.inl rfl | exact Or.inr rfl) (pd_ix ixd (pd_lst (pda_cons (pd_var 7) (pda_cons (pd_op opd_add (pd_var 7) pd_int) (pda_cons (pd_op opd_sub (pd_var 7) pd_int) (pda_cons pd_int (pda_cons (pd_op opd_add pd_int (pd_fn (ok__law_draw T) (hr.mono (by decide)) (pda_cons (pd_var 0) (pda_cons (pd_op opd_add (pd_var 1) pd_int) pda_nil)))) (pda_cons pd_int pda_nil))))))) (pd_fn (ok__law_draw T) (hr.mono (by decide)) (pda_cons (pd_var 0) (pda_cons pd_int pda_nil)))))
  (pss_consD (pds_set (i := 12) sc__law_build.nd rfl (by first | exact Or.inl rfl | exact Or.inr rfl) (pd_callB (cd_max2 rfl) T.b_max (by decide +kernel) (pda_cons pd_int (pda_cons (pd_callB (cd_min2 rfl) T.b_min (by decide +kernel) (pda_cons pd_int (pda_cons (pd_var 12) pda_nil))) pda_nil))))
  (pss_consD (pds_if (pdt_cmp opd_le (pd_var 12) (pd_var 7) (nomark _)) (pss_oneD (pds_set (i := 7) sc__law_build.nd rfl (by first | exact Or.inl rfl | exact Or.inr rfl) (pd_op opd_sub (pd_var 7) (pd_var 12)))) pss_nilD)
  (pss_oneD (pds_drop (pd_lm PySem.F.slot_list_append PySem.F.type_list_append md_append (pd_var 5) (pda_cons (pd_lst (pda_cons (pd_var 6) (pda_cons (pd_var 12) pda_nil))) pda_nil)))))))))))))))
  (pss_oneD (pds_ret (pd_frz (pd_var 5))))))))) (rd__law_build c)
theorem ok__law_whole_ticks (T : Txt mg c) : FnC P w c.K mg base 1 "_law_whole_ticks" ["asks", "speed"] (sp__law_whole_ticks c) :=
  FnC.mk T.d__law_whole_ticks sc__law_whole_ticks (by decide) (len__law_whole_ticks c) (fun f cdv A outer s H E hr => (pss_consD (pds_set (i := 2) sc__law_whole_ticks.nd rfl (by first | exact Or.inl rfl | exact Or.inr rfl) (pd_lstM pda_nil))
  (pss_consD (pds_set (i := 3) sc__law_whole_ticks.nd rfl (by first | exact Or.inl rfl | exact Or.inr rfl) pd_int)
  (pss_consD (pds_set (i := 4) sc__law_whole_ticks.nd rfl (by first | exact Or.inl rfl | exact Or.inr rfl) (pd_var 1))
  (pss_consD (pds_for (vs := (List.range 8)) rfl (passes_of rfl) (pdi_seq (pd_var 0)) (pdg_name (i := 5) sc__law_whole_ticks.nd rfl (by first | exact Or.inl rfl | exact Or.inr rfl) (by decide)) (pss_consD (pds_if (pdt_cmp opd_gt (pd_ix ixd (pd_var 5) pd_int) (pd_var 3) (nomark _)) (pss_consD (pds_set (i := 3) sc__law_whole_ticks.nd rfl (by first | exact Or.inl rfl | exact Or.inr rfl) (pd_ix ixd (pd_var 5) pd_int))
  (pss_oneD (pds_set (i := 4) sc__law_whole_ticks.nd rfl (by first | exact Or.inl rfl | exact Or.inr rfl) (pd_var 1)))) pss_nilD)
  (pss_consD (pds_set (i := 6) sc__law_whole_ticks.nd rfl (by first | exact Or.inl rfl | exact Or.inr rfl) (pd_ix ixd (pd_var 5) pd_int))
  (pss_consD (pds_if (pdt_cmp opd_le (pd_var 6) (pd_var 4) (nomark _)) (pss_oneD (pds_set (i := 4) sc__law_whole_ticks.nd rfl (by first | exact Or.inl rfl | exact Or.inr rfl) (pd_op opd_sub (pd_var 4) (pd_var 6)))) (pss_consD (pds_set (i := 7) sc__law_whole_ticks.nd rfl (by first | exact Or.inl rfl | exact Or.inr rfl) (pd_op opd_div (pd_op opd_sub (pd_op opd_add (pd_op opd_sub (pd_var 6) (pd_var 4)) (pd_var 1)) pd_int) (pd_var 1)))
  (pss_consD (pds_set (i := 4) sc__law_whole_ticks.nd rfl (by first | exact Or.inl rfl | exact Or.inr rfl) (pd_op opd_sub (pd_op opd_add (pd_var 4) (pd_op opd_mul (pd_var 7) (pd_var 1))) (pd_var 6)))
  (pss_oneD (pds_set (i := 3) sc__law_whole_ticks.nd rfl (by first | exact Or.inl rfl | exact Or.inr rfl) (pd_op opd_add (pd_var 3) (pd_var 7)))))))
  (pss_oneD (pds_drop (pd_lm PySem.F.slot_list_append PySem.F.type_list_append md_append (pd_var 2) (pda_cons (pd_var 3) pda_nil))))))))
  (pss_oneD (pds_ret (pd_callTy cd_tuple T.b_tuple (by decide +kernel) (pda_cons (pd_frz (pd_var 2)) pda_nil))))))))) (rd__law_whole_ticks c)
theorem ok__law_neighbors (T : Txt mg c) : FnC P w c.K mg base 1 "_law_neighbors" ["each", "asks"] (sp__law_neighbors c) :=
  FnC.mk T.d__law_neighbors sc__law_neighbors (by decide) (len__law_neighbors c) (fun f cdv A outer s H E hr => (pss_consD (pds_set (i := 2) sc__law_neighbors.nd rfl (by first | exact Or.inl rfl | exact Or.inr rfl) pd_int)
  (pss_consD (pds_for (vs := (List.range 6)) rfl (passes_of rfl) (pdi_rg1 T.b_range (pd_callB cd_len T.b_len (by decide +kernel) (pda_cons (pd_var 1) pda_nil))) (pdg_name (i := 3) sc__law_neighbors.nd rfl (by first | exact Or.inl rfl | exact Or.inr rfl) (by decide)) (pss_consD (pds_set (i := 4) sc__law_neighbors.nd rfl (by first | exact Or.inl rfl | exact Or.inr rfl) pd_int)
  (pss_oneD (pds_for (vs := (List.range 6)) rfl (passes_of rfl) (pdi_rg2 T.b_range (pd_var 3) (pd_callB cd_len T.b_len (by decide +kernel) (pda_cons (pd_var 1) pda_nil))) (pdg_name (i := 5) sc__law_neighbors.nd rfl (by first | exact Or.inl rfl | exact Or.inr rfl) (by decide)) (pss_consD (pds_set (i := 4) sc__law_neighbors.nd rfl (by first | exact Or.inl rfl | exact Or.inr rfl) (pd_op opd_add (pd_var 4) (pd_ix ixd (pd_ix ixd (pd_var 1) (pd_var 5)) pd_int)))
  (pss_oneD (pds_set (i := 2) sc__law_neighbors.nd rfl (by first | exact Or.inl rfl | exact Or.inr rfl) (pd_callB (cd_max2 rfl) T.b_max (by decide +kernel) (pda_cons (pd_callTy cd_int T.b_int (by decide +kernel) (pda_cons (pd_var 2) pda_nil)) (pda_cons (pd_op opd_sub (pd_var 4) (pd_op opd_sub (pd_op opd_div (pd_ix ixd (pd_ix ixd (pd_var 1) (pd_var 5)) pd_int) (pd_var 0)) (pd_op opd_div (pd_ix ixd (pd_ix ixd (pd_var 1) (pd_var 3)) pd_int) (pd_var 0)))) pda_nil))))))))))
  (pss_oneD (pds_ret (pd_var 2)))))) (rd__law_neighbors c)
theorem ok__law_bad (T : Txt mg c) : FnC P w c.K mg base 2 "_law_bad" ["pool", "top"] (sp__law_bad c) :=
  FnC.mk T.d__law_bad sc__law_bad (by decide) (len__law_bad c) (fun f cdv A outer s H E hr => (pss_oneD (pds_ret (pd_ix ixd (pd_lst (pda_cons pd_int (pda_cons (pd_op opd_add (pd_var 1) pd_int) (pda_cons (pd_un und_neg pd_int) (pda_cons pd_non (pda_cons pd_bl (pda_cons pd_str (pda_cons (pd_tup (pda_cons pd_int pda_nil)) (pda_cons (pd_op opd_pow pd_int pd_int) (pda_cons pd_bl (pda_cons (pd_op opd_sub pd_int (pd_var 1)) pda_nil))))))))))) (pd_fn (ok__law_draw T) (hr.mono (by decide)) (pda_cons (pd_var 0) (pda_cons pd_int pda_nil))))))) (rd__law_bad c)
theorem ok__law_waits (T : Txt mg c) : FnC P w c.K mg base 1 "_law_waits" ["room", "each", "speed"] (sp__law_waits c) :=
  FnC.mk T.d__law_waits sc__law_waits (by decide) (len__law_waits c) (fun f cdv A outer s H E hr => (pss_consD (pds_set (i := 3) sc__law_waits.nd rfl (by first | exact Or.inl rfl | exact Or.inr rfl) (pd_lstM (pda_cons (pd_tup (pda_cons pd_int (pda_cons (pd_var 0) (pda_cons pd_int pda_nil)))) pda_nil)))
  (pss_consD (pds_set (i := 4) sc__law_waits.nd rfl (by first | exact Or.inl rfl | exact Or.inr rfl) (pd_dict1 hr.units (pd_ix ixd (pd_var 3) pd_int) pd_bl))
  (pss_consD (pds_set (i := 5) sc__law_waits.nd rfl (by first | exact Or.inl rfl | exact Or.inr rfl) pd_int)
  (pss_consD (pds_for (vs := (List.range 13)) rfl (passes_of rfl) (pdi_rg1 T.b_range pd_int) (pdg_name (i := 6) sc__law_waits.nd rfl (by first | exact Or.inl rfl | exact Or.inr rfl) (by decide)) (pss_consD (pds_if (pdt_cmp opd_ge (pd_var 6) (pd_callB cd_len T.b_len (by decide +kernel) (pda_cons (pd_var 3) pda_nil)) (nomark _)) (pss_oneD pds_break) pss_nilD)
  (pss_consD (pds_set (i := 7) sc__law_waits.nd rfl (by first | exact Or.inl rfl | exact Or.inr rfl) (pd_ix ixd (pd_var 3) (pd_var 6)))
  (pss_oneD (pds_for (vs := (List.range 13)) rfl (passes_of rfl) (pdi_rg1 T.b_range (pd_op opd_add (pd_ix ixd (pd_var 7) pd_int) pd_int)) (pdg_name (i := 8) sc__law_waits.nd rfl (by first | exact Or.inl rfl | exact Or.inr rfl) (by decide)) (pss_consD (pds_set (i := 9) sc__law_waits.nd rfl (by first | exact Or.inl rfl | exact Or.inr rfl) (pd_op opd_add (pd_ix ixd (pd_var 7) pd_int) (pd_var 8)))
  (pss_consD (pds_if (pdt_cmp opd_gt (pd_var 8) pd_int (nomark _)) (pss_oneD (pds_set (i := 5) sc__law_waits.nd rfl (by first | exact Or.inl rfl | exact Or.inr rfl) (pd_callB (cd_max2 rfl) T.b_max (by decide +kernel) (pda_cons (pd_callTy cd_int T.b_int (by decide +kernel) (pda_cons (pd_var 5) pda_nil)) (pda_cons (pd_op opd_sub (pd_op opd_div (pd_op opd_sub (pd_op opd_add (pd_var 9) (pd_var 2)) pd_int) (pd_var 2)) pd_int) pda_nil))))) pss_nilD)
  (pss_consD (pds_set (i := 10) sc__law_waits.nd rfl (by first | exact Or.inl rfl | exact Or.inr rfl) (pd_op opd_add (pd_ix ixd (pd_var 7) pd_int) pd_int))
  (pss_consD (pds_set (i := 11) sc__law_waits.nd rfl (by first | exact Or.inl rfl | exact Or.inr rfl) (pd_op opd_sub (pd_ix ixd (pd_var 7) pd_int) (pd_var 8)))
  (pss_consD (pds_if (pdt_cmp (opd_eq hr.units) (pd_var 10) (pd_var 1) (nomark _)) (pss_consD (pds_set (i := 10) sc__law_waits.nd rfl (by first | exact Or.inl rfl | exact Or.inr rfl) pd_int)
  (pss_oneD (pds_set (i := 11) sc__law_waits.nd rfl (by first | exact Or.inl rfl | exact Or.inr rfl) (pd_callB (cd_min2 rfl) T.b_min (by decide +kernel) (pda_cons (pd_callTy cd_int T.b_int (by decide +kernel) (pda_cons (pd_var 0) pda_nil)) (pda_cons (pd_op opd_add (pd_var 11) pd_int) pda_nil)))))) pss_nilD)
  (pss_consD (pds_set (i := 12) sc__law_waits.nd rfl (by first | exact Or.inl rfl | exact Or.inr rfl) (pd_tup (pda_cons (pd_var 10) (pda_cons (pd_var 11) (pda_cons (pd_callB (cd_max2 rfl) T.b_max (by decide +kernel) (pda_cons pd_int (pda_cons (pd_op opd_sub (pd_var 9) (pd_var 2)) pda_nil))) pda_nil)))))
  (pss_oneD (pds_if (pdt_cmp (opd_notInN hr.units) (pd_var 12) (pd_var 4) (by rfl)) (pss_consD (pds_setN hr.units (pd_var 4) (pd_var 12) pd_bl)
  (pss_oneD (pds_drop (pd_lm PySem.F.slot_list_append PySem.F.type_list_append md_append (pd_var 3) (pda_cons (pd_var 12) pda_nil))))) pss_nilD)))))))))))))
  (pss_oneD (pds_ret (pd_var 5)))))))) (rd__law_waits c)
theorem ok__law_due (T : Txt mg c) : FnC P w c.K mg base 2 "_law_due" ["room", "each", "speed"] (sp__law_due c) :=
  FnC.mk T.d__law_due sc__law_due (by decide) (len__law_due c) (fun f cdv A outer s H E hr => (pss_consD (pds_if (PDw.pt (pdw_and (pdt_cmp opd_le (pd_var 0) pd_int (nomark _)) (pdw_and (pdt_cmp opd_le (pd_var 1) pd_int (nomark _)) (pdw_and1 (pdt_cmp opd_le (pd_var 2) pd_int (nomark _)))))) (pss_oneD (pds_ret (pd_fn (ok__law_waits T) (hr.mono (by decide)) (pda_cons (pd_var 0) (pda_cons (pd_var 1) (pda_cons (pd_var 2) pda_nil)))))) pss_nilD)
  (pss_oneD (pds_ret (pd_op opd_sub (pd_op opd_div (pd_op opd_sub (pd_op opd_add (pd_var 0) (pd_var 2)) pd_int) (pd_var 2)) pd_int))))) (rd__law_due c)
theorem ok__law_refused (T : Txt mg c) : FnC P w c.K mg base 6 "_law_refused" ["room", "each", "speed"] (sp__law_refused c) :=
  FnC.mk T.d__law_refused sc__law_refused (by decide) (len__law_refused c) (fun f cdv A outer s H E hr => (pss_consD (pds_try (i := 3) (ws := fun a dd C => (wSeq (wIf (wAnd (wTest (wIsE c.K a dd C c.InvalidNumber (wVar 3))) (wNot (wTest (wIsET c.K a dd C [c.InvalidRow, c.InvalidLot, c.TooMany, c.Undefined] (wVar 3))))) (wRet (wLst (wCons (wC (.str "number")) (wCons (wExF c.K a dd C "number" (wVar 3)) wNil)))) wNext)
  (wRet (wLst (wCons (wC (.str "another")) wNil))))) (by rfl) (by rfl) sc__law_refused.nd (by rfl) (by rfl) T.g_ServeError (by rfl) (by decide) (fun pn xe pass => (pss_oneD (pds_drop (pd_fn (ok_longest_delay T) (hr.mono (by decide)) (pda_cons (pd_var 0) (pda_cons (pd_var 1) (pda_cons (pd_var 2) pda_nil))))))) (fun a dd C oe pn hz hf => (pss_consD (pds_if (PDw.pt (pdw_and (pdt_val (pd_isE (T := c.InvalidNumber) hz hf (pd_var 3) (pe_cls T.g_InvalidNumber) T.b_isinstance)) (pdw_and1 (pdt_not (pdt_val (pd_isET (Ts := [c.InvalidRow, c.InvalidLot, c.TooMany, c.Undefined]) hz hf (pd_var 3) (pa_refs (pe_cls T.g_InvalidRow) (pa_refs (pe_cls T.g_InvalidLot) (pa_refs (pe_cls T.g_TooMany) (pa_refs (pe_cls T.g_Undefined) pa_refs0)))) T.b_isinstance (by show 4 ≤ sizeLine; decide))))))) (pss_oneD (pds_ret (pd_lst (pda_cons pd_str (pda_cons (pd_exf (f := "number") hz hf (pd_var 3)) pda_nil))))) pss_nilD)
  (pss_oneD (pds_ret (pd_lst (pda_cons pd_str pda_nil)))))))
  (pss_oneD (pds_ret (pd_lst (pda_cons pd_str pda_nil)))))) (rd__law_refused c)
theorem ok__law_refusals (T : Txt mg c) : FnC P w c.K mg base 8 "_law_refusals" ["pool", "room", "each", "speed"] (sp__law_refusals c) :=
  FnC.mk T.d__law_refusals sc__law_refusals (by decide) (len__law_refusals c) (fun f cdv A outer s H E hr => (pss_consD (pds_for (vs := (List.range 8)) rfl (passes_of rfl) (pdi_rg1 T.b_range pd_int) (pdg_name (i := 4) sc__law_refusals.nd rfl (by first | exact Or.inl rfl | exact Or.inr rfl) (by decide)) (pss_consD (pds_set (i := 5) sc__law_refusals.nd rfl (by first | exact Or.inl rfl | exact Or.inr rfl) (pd_fn (ok__law_bad T) (hr.mono (by decide)) (pda_cons (pd_var 0) (pda_cons pd_int pda_nil))))
  (pss_consD (pds_set (i := 6) sc__law_refusals.nd rfl (by first | exact Or.inl rfl | exact Or.inr rfl) (pd_fn (ok__law_bad T) (hr.mono (by decide)) (pda_cons (pd_var 0) (pda_cons pd_int pda_nil))))
  (pss_consD (pds_set (i := 7) sc__law_refusals.nd rfl (by first | exact Or.inl rfl | exact Or.inr rfl) (pd_fn (ok__law_bad T) (hr.mono (by decide)) (pda_cons (pd_var 0) (pda_cons pd_int pda_nil))))
  (pss_consD (pds_if (pdt_not (pdt_val (pd_fn (ok__law_like T) (hr.mono (by decide)) (pda_cons (pd_fn (ok__law_refused T) (hr.mono (by decide)) (pda_cons (pd_var 5) (pda_cons (pd_var 6) (pda_cons (pd_var 7) pda_nil)))) (pda_cons (pd_lst (pda_cons pd_str (pda_cons (pd_var 5) pda_nil))) pda_nil))))) (pss_oneD (pds_ret pd_bl)) pss_nilD)
  (pss_consD (pds_if (pdt_not (pdt_val (pd_fn (ok__law_like T) (hr.mono (by decide)) (pda_cons (pd_fn (ok__law_refused T) (hr.mono (by decide)) (pda_cons (pd_var 5) (pda_cons (pd_var 2) (pda_cons (pd_ix ixd (pd_lst (pda_cons (pd_var 3) (pda_cons (pd_var 7) pda_nil))) (pd_var 4)) pda_nil)))) (pda_cons (pd_lst (pda_cons pd_str (pda_cons (pd_var 5) pda_nil))) pda_nil))))) (pss_oneD (pds_ret pd_bl)) pss_nilD)
  (pss_consD (pds_if (pdt_not (pdt_val (pd_fn (ok__law_like T) (hr.mono (by decide)) (pda_cons (pd_fn (ok__law_refused T) (hr.mono (by decide)) (pda_cons (pd_var 1) (pda_cons (pd_var 6) (pda_cons (pd_ix ixd (pd_lst (pda_cons (pd_var 7) (pda_cons (pd_var 3) pda_nil))) (pd_var 4)) pda_nil)))) (pda_cons (pd_lst (pda_cons pd_str (pda_cons (pd_var 6) pda_nil))) pda_nil))))) (pss_oneD (pds_ret pd_bl)) pss_nilD)
  (pss_oneD (pds_if (pdt_not (pdt_val (pd_fn (ok__law_like T) (hr.mono (by decide)) (pda_cons (pd_fn (ok__law_refused T) (hr.mono (by decide)) (pda_cons (pd_var 1) (pda_cons (pd_var 2) (pda_cons (pd_var 7) pda_nil)))) (pda_cons (pd_lst (pda_cons pd_str (pda_cons (pd_var 7) pda_nil))) pda_nil))))) (pss_oneD (pds_ret pd_bl)) pss_nilD)))))))))
  (pss_oneD (pds_ret pd_bl)))) (rd__law_refusals c)
theorem ok__law_lets (T : Txt mg c) : FnC P w c.K mg base 8 "_law_lets" ["room", "each", "asks"] (sp__law_lets c) :=
  FnC.mk T.d__law_lets sc__law_lets (by decide) (len__law_lets c) (fun f cdv A outer s H E hr => (pss_consD (pds_set (i := 3) sc__law_lets.nd rfl (by first | exact Or.inl rfl | exact Or.inr rfl) (pd_ix ixd (pd_fn (ok__law_leaps T) (hr.mono (by decide)) (pda_cons (pd_var 0) (pda_cons (pd_var 1) (pda_cons (pd_var 2) (pda_cons (pd_op opd_pow pd_int pd_int) pda_nil))))) pd_int))
  (pss_consD (pds_if (PDw.pt (pdw_and (pdt_cmp opd_gt (pd_callB cd_len T.b_len (by decide +kernel) (pda_cons (pd_var 2) pda_nil)) pd_int (nomark _)) (pdw_and1 (pdt_cmp opd_le (pd_ix ixd (pd_ix ixd (pd_var 2) (pd_un und_neg pd_int)) pd_int) pd_int (nomark _))))) (pss_oneD (pds_set (i := 3) sc__law_lets.nd rfl (by first | exact Or.inl rfl | exact Or.inr rfl) (pd_ix ixd (pd_fn (ok__law_ticks T) (hr.mono (by decide)) (pda_cons (pd_var 0) (pda_cons (pd_var 1) (pda_cons (pd_var 2) (pda_cons (pd_ix ixd (pd_ix ixd (pd_var 2) (pd_un und_neg pd_int)) pd_int) pda_nil))))) pd_int))) pss_nilD)
  (pss_consD (pds_set (i := 4) sc__law_lets.nd rfl (by first | exact Or.inl rfl | exact Or.inr rfl) (pd_fn (ok__law_copy T) (hr.mono (by decide)) (pda_cons (pd_var 2) pda_nil)))
  (pss_consD (pds_if (PDw.pt (pdw_or (pdt_not (pdt_val (pd_fn (ok__law_like T) (hr.mono (by decide)) (pda_cons (pd_fn (ok_let_by T) (hr.mono (by decide)) (pda_cons (pd_var 0) (pda_cons (pd_var 1) (pda_cons (pd_var 4) pda_nil)))) (pda_cons (pd_var 3) pda_nil))))) (pdw_or1 (pdt_not (pdt_val (pd_fn (ok__law_like T) (hr.mono (by decide)) (pda_cons (pd_var 4) (pda_cons (pd_var 2) pda_nil)))))))) (pss_oneD (pds_ret pd_non)) pss_nilD)
  (pss_oneD (pds_ret (pd_var 3)))))))) (rd__law_lets c)
theorem ok__law_behind (T : Txt mg c) : FnC P w c.K mg base 8 "_law_behind" ["room", "each", "speed", "asks", "longest"] (sp__law_behind c) :=
  FnC.mk T.d__law_behind sc__law_behind (by decide) (len__law_behind c) (fun f cdv A outer s H E hr => (pss_consD (pds_set (i := 5) sc__law_behind.nd rfl (by first | exact Or.inl rfl | exact Or.inr rfl) (pd_fn (ok__law_whole_ticks T) (hr.mono (by decide)) (pda_cons (pd_var 3) (pda_cons (pd_var 2) pda_nil))))
  (pss_consD (pds_for (vs := (List.range 9)) rfl (passes_of rfl) (pdi_rg1 T.b_range (pd_callB cd_len T.b_len (by decide +kernel) (pda_cons (pd_var 3) pda_nil))) (pdg_name (i := 6) sc__law_behind.nd rfl (by first | exact Or.inl rfl | exact Or.inr rfl) (by decide)) (pss_oneD (pds_if (pdt_cmp opd_gt (pd_op opd_sub (pd_ix ixd (pd_var 5) (pd_var 6)) (pd_ix ixd (pd_ix ixd (pd_var 3) (pd_var 6)) pd_int)) (pd_var 4) (nomark _)) (pss_oneD (pds_ret pd_bl)) pss_nilD)))
  (pss_consD (pds_set (i := 7) sc__law_behind.nd rfl (by first | exact Or.inl rfl | exact Or.inr rfl) (pd_fn (ok__law_copy T) (hr.mono (by decide)) (pda_cons (pd_var 3) pda_nil)))
  (pss_consD (pds_if (PDw.pt (pdw_or (pdt_not (pdt_val (pd_fn (ok__law_like T) (hr.mono (by decide)) (pda_cons (pd_fn (ok_queue_ends T) (hr.mono (by decide)) (pda_cons (pd_var 7) (pda_cons (pd_var 2) pda_nil))) (pda_cons (pd_var 5) pda_nil))))) (pdw_or1 (pdt_not (pdt_val (pd_fn (ok__law_like T) (hr.mono (by decide)) (pda_cons (pd_var 7) (pda_cons (pd_var 3) pda_nil)))))))) (pss_oneD (pds_ret pd_bl)) pss_nilD)
  (pss_consD (pds_set (i := 8) sc__law_behind.nd rfl (by first | exact Or.inl rfl | exact Or.inr rfl) (pd_fn (ok__law_neighbors T) (hr.mono (by decide)) (pda_cons (pd_var 1) (pda_cons (pd_var 3) pda_nil))))
  (pss_oneD (pds_ret (pd_and (pd_cmp opd_le (pd_var 8) (pd_var 0) (nomark _)) (pd_one (pd_fn (ok__law_like T) (hr.mono (by decide)) (pda_cons (pd_fn (ok_least_room T) (hr.mono (by decide)) (pda_cons (pd_var 1) (pda_cons (pd_var 7) pda_nil))) (pda_cons (pd_var 8) pda_nil))))))))))))) (rd__law_behind c)
theorem ok__law_burst (T : Txt mg c) : FnC P w c.K mg base 9 "_law_burst" ["pool", "room", "each", "speed", "kept", "longest"] (sp__law_burst c) :=
  FnC.mk T.d__law_burst sc__law_burst (by decide) (len__law_burst c) (fun f cdv A outer s H E hr => (pss_consD (pds_set (i := 6) sc__law_burst.nd rfl (by first | exact Or.inl rfl | exact Or.inr rfl) (pd_callB (cd_sum rfl) T.b_sum (by decide +kernel) (pda_cons (pd_lc (own := [("row", 11)]) rfl sc__law_burst.nd (pdi_seq (pd_var 4)) (blkOk_by (N := N__law_burst_) (sc := defScope s__law_burst) (by decide +kernel)) (fun _ _ _ _ _ => (pdg_name (i := 11) sc__law_burst.nd rfl (by first | exact Or.inl rfl | exact Or.inr rfl) (by decide))) (fun _ _ _ _ _ => pdts_nil) (fun _ _ _ _ _ => (pd_ix ixd (pd_var 11) pd_int))) pda_nil)))
  (pss_consD (pds_set (i := 7) sc__law_burst.nd rfl (by first | exact Or.inl rfl | exact Or.inr rfl) (pd_op opd_add (pd_op opd_mul (pd_var 2) (pd_op opd_add (pd_var 1) pd_int)) (pd_var 6)))
  (pss_consD (pds_if (pdt_cmp opd_gt (pd_callB cd_len T.b_len (by decide +kernel) (pda_cons (pd_var 4) pda_nil)) pd_int (nomark _)) (pss_oneD (pds_set (i := 7) sc__law_burst.nd rfl (by first | exact Or.inl rfl | exact Or.inr rfl) (pd_op opd_add (pd_var 7) (pd_ix ixd (pd_ix ixd (pd_var 4) (pd_un und_neg pd_int)) pd_int)))) pss_nilD)
  (pss_consD (pds_set (i := 8) sc__law_burst.nd rfl (by first | exact Or.inl rfl | exact Or.inr rfl) (pd_fn (ok__law_draw T) (hr.mono (by decide)) (pda_cons (pd_var 0) (pda_cons (pd_var 1) pda_nil))))
  (pss_consD (pds_set (i := 9) sc__law_burst.nd rfl (by first | exact Or.inl rfl | exact Or.inr rfl) (pd_fn (ok__law_copy T) (hr.mono (by decide)) (pda_cons (pd_var 4) pda_nil)))
  (pss_consD (pds_if (pdt_cmp opd_gt (pd_var 8) pd_int (nomark _)) (pss_oneD (pds_drop (pd_lm PySem.F.slot_list_append PySem.F.type_list_append md_append (pd_var 9) (pda_cons (pd_lst (pda_cons (pd_var 7) (pda_cons (pd_var 8) pda_nil))) pda_nil)))) pss_nilD)
  (pss_consD (pds_drop (pd_lm PySem.F.slot_list_append PySem.F.type_list_append md_append (pd_var 9) (pda_cons (pd_lst (pda_cons (pd_var 7) (pda_cons (pd_op opd_sub (pd_var 1) (pd_var 8)) pda_nil))) pda_nil)))
  (pss_consD (pds_set (i := 10) sc__law_burst.nd rfl (by first | exact Or.inl rfl | exact Or.inr rfl) (pd_fn (ok__law_lets T) (hr.mono (by decide)) (pda_cons (pd_var 1) (pda_cons (pd_var 2) (pda_cons (pd_var 9) pda_nil)))))
  (pss_consD (pds_if (PDw.pt (pdw_or (pdt_cmp opd_isN (pd_var 10) pd_non (nomark _)) (pdw_or1 (pdt_cmp opd_inB pd_bl (pd_var 10) (by rfl))))) (pss_oneD (pds_ret pd_bl)) pss_nilD)
  (pss_consD (pds_if (pdt_cmp (opd_ne hr.units) (pd_op opd_sub (pd_ix ixd (pd_fn (ok__law_whole_ticks T) (hr.mono (by decide)) (pda_cons (pd_var 9) (pda_cons (pd_var 3) pda_nil))) (pd_un und_neg pd_int)) (pd_var 7)) (pd_var 5) (nomark _)) (pss_oneD (pds_ret pd_bl)) pss_nilD)
  (pss_consD (pds_if (pdt_not (pdt_val (pd_fn (ok__law_behind T) (hr.mono (by decide)) (pda_cons (pd_var 1) (pda_cons (pd_var 2) (pda_cons (pd_var 3) (pda_cons (pd_var 9) (pda_cons (pd_var 5) pda_nil)))))))) (pss_oneD (pds_ret pd_bl)) pss_nilD)
  (pss_consD (pds_if (pdt_cmp opd_lt (pd_var 1) pd_int (nomark _)) (pss_consD (pds_set (i := 10) sc__law_burst.nd rfl (by first | exact Or.inl rfl | exact Or.inr rfl) (pd_fn (ok__law_lets T) (hr.mono (by decide)) (pda_cons (pd_var 1) (pda_cons (pd_var 2) (pda_cons (pd_op opd_add (pd_var 4) (pd_lst (pda_cons (pd_lst (pda_cons (pd_var 7) (pda_cons (pd_op opd_add (pd_var 1) pd_int) pda_nil))) pda_nil))) pda_nil)))))
  (pss_oneD (pds_if (PDw.pt (pdw_or (pdt_cmp opd_isN (pd_var 10) pd_non (nomark _)) (pdw_or1 (pdt_val (pd_ix ixd (pd_var 10) (pd_un und_neg pd_int)))))) (pss_oneD (pds_ret pd_bl)) pss_nilD))) pss_nilD)
  (pss_oneD (pds_ret pd_bl))))))))))))))) (rd__law_burst c)
theorem okF_law (T : Txt mg c) {f : Addr} {fd : FuncData} (F : Fun c.K "law" "law" s_law f fd) : FnD P w c.K mg base 10 f fd ["script"] (sp_law c) :=
  fnd_mk F sc_law (by decide) (len_law c) (fun f cdv A outer s H E hr => (pss_consD (pds_set (i := 1) sc_law.nd rfl (by first | exact Or.inl rfl | exact Or.inr rfl) (pd_fn (ok__law_pool T) (hr.mono (by decide)) (pda_cons (pd_var 0) pda_nil)))
  (pss_consD (pds_set (i := 2) sc_law.nd rfl (by first | exact Or.inl rfl | exact Or.inr rfl) (pd_ix ixd (pd_lst (pda_cons pd_int (pda_cons (pd_op opd_add pd_int (pd_fn (ok__law_draw T) (hr.mono (by decide)) (pda_cons (pd_var 1) (pda_cons pd_int pda_nil)))) (pda_cons (pd_op opd_add pd_int (pd_fn (ok__law_draw T) (hr.mono (by decide)) (pda_cons (pd_var 1) (pda_cons pd_int pda_nil)))) (pda_cons (pd_op opd_add pd_int (pd_fn (ok__law_draw T) (hr.mono (by decide)) (pda_cons (pd_var 1) (pda_cons pd_int pda_nil)))) (pda_cons pd_int pda_nil)))))) (pd_fn (ok__law_draw T) (hr.mono (by decide)) (pda_cons (pd_var 1) (pda_cons pd_int pda_nil)))))
  (pss_consD (pds_set (i := 3) sc_law.nd rfl (by first | exact Or.inl rfl | exact Or.inr rfl) (pd_ix ixd (pd_lst (pda_cons pd_int (pda_cons (pd_op opd_add pd_int (pd_fn (ok__law_draw T) (hr.mono (by decide)) (pda_cons (pd_var 1) (pda_cons pd_int pda_nil)))) (pda_cons (pd_op opd_add pd_int (pd_fn (ok__law_draw T) (hr.mono (by decide)) (pda_cons (pd_var 1) (pda_cons pd_int pda_nil)))) (pda_cons (pd_op opd_add pd_int (pd_fn (ok__law_draw T) (hr.mono (by decide)) (pda_cons (pd_var 1) (pda_cons pd_int pda_nil)))) (pda_cons pd_int pda_nil)))))) (pd_fn (ok__law_draw T) (hr.mono (by decide)) (pda_cons (pd_var 1) (pda_cons pd_int pda_nil)))))
  (pss_consD (pds_set (i := 4) sc_law.nd rfl (by first | exact Or.inl rfl | exact Or.inr rfl) (pd_ix ixd (pd_lst (pda_cons pd_int (pda_cons (pd_op opd_add pd_int (pd_fn (ok__law_draw T) (hr.mono (by decide)) (pda_cons (pd_var 1) (pda_cons pd_int pda_nil)))) (pda_cons (pd_op opd_add pd_int (pd_fn (ok__law_draw T) (hr.mono (by decide)) (pda_cons (pd_var 1) (pda_cons pd_int pda_nil)))) (pda_cons pd_int pda_nil))))) (pd_fn (ok__law_draw T) (hr.mono (by decide)) (pda_cons (pd_var 1) (pda_cons pd_int pda_nil)))))
  (pss_consD (pds_if (pdt_cmp (opd_eq hr.units) (pd_fn (ok__law_draw T) (hr.mono (by decide)) (pda_cons (pd_var 1) (pda_cons pd_int pda_nil))) pd_int (nomark _)) (pss_consD (pds_set (i := 2) sc_law.nd rfl (by first | exact Or.inl rfl | exact Or.inr rfl) (pd_op opd_add pd_int (pd_fn (ok__law_draw T) (hr.mono (by decide)) (pda_cons (pd_var 1) (pda_cons pd_int pda_nil)))))
  (pss_consD (pds_set (i := 3) sc_law.nd rfl (by first | exact Or.inl rfl | exact Or.inr rfl) (pd_op opd_add pd_int (pd_fn (ok__law_draw T) (hr.mono (by decide)) (pda_cons (pd_var 1) (pda_cons pd_int pda_nil)))))
  (pss_oneD (pds_set (i := 4) sc_law.nd rfl (by first | exact Or.inl rfl | exact Or.inr rfl) (pd_op opd_add pd_int (pd_fn (ok__law_draw T) (hr.mono (by decide)) (pda_cons (pd_var 1) (pda_cons pd_int pda_nil)))))))) pss_nilD)
  (pss_consD (pds_set (i := 5) sc_law.nd rfl (by first | exact Or.inl rfl | exact Or.inr rfl) (pd_fn (ok__law_due T) (hr.mono (by decide)) (pda_cons (pd_var 2) (pda_cons (pd_var 3) (pda_cons (pd_var 4) pda_nil)))))
  (pss_consD (pds_if (PDw.pt (pdw_or (pdt_cmp (opd_ne hr.units) (pd_var 5) (pd_op opd_sub (pd_op opd_div (pd_op opd_sub (pd_op opd_add (pd_var 2) (pd_var 4)) pd_int) (pd_var 4)) pd_int) (nomark _)) (pdw_or1 (pdt_not (pdt_val (pd_fn (ok__law_like T) (hr.mono (by decide)) (pda_cons (pd_fn (ok_longest_delay T) (hr.mono (by decide)) (pda_cons (pd_var 2) (pda_cons (pd_var 3) (pda_cons (pd_var 4) pda_nil)))) (pda_cons (pd_var 5) pda_nil)))))))) (pss_oneD (pds_ret pd_bl)) pss_nilD)
  (pss_consD (pds_if (pdt_not (pdt_val (pd_fn (ok__law_refusals T) (hr.mono (by decide)) (pda_cons (pd_var 1) (pda_cons (pd_var 2) (pda_cons (pd_var 3) (pda_cons (pd_var 4) pda_nil))))))) (pss_oneD (pds_ret pd_bl)) pss_nilD)
  (pss_consD (pds_set (i := 6) sc_law.nd rfl (by first | exact Or.inl rfl | exact Or.inr rfl) (pd_fn (ok__law_draw T) (hr.mono (by decide)) (pda_cons (pd_var 1) (pda_cons pd_int pda_nil))))
  (pss_consD (pds_if (pdt_cmp (opd_eq hr.units) (pd_fn (ok__law_draw T) (hr.mono (by decide)) (pda_cons (pd_var 1) (pda_cons pd_int pda_nil))) pd_int (nomark _)) (pss_oneD (pds_set (i := 6) sc_law.nd rfl (by first | exact Or.inl rfl | exact Or.inr rfl) pd_int)) pss_nilD)
  (pss_consD (pds_set (i := 7) sc_law.nd rfl (by first | exact Or.inl rfl | exact Or.inr rfl) (pd_fn (ok__law_build T) (hr.mono (by decide)) (pda_cons (pd_var 1) (pda_cons (pd_var 2) (pda_cons (pd_var 3) (pda_cons (pd_var 6) (pda_cons (pd_ix ixd (pd_lst (pda_cons pd_int (pda_cons pd_int (pda_cons pd_int pda_nil)))) (pd_fn (ok__law_draw T) (hr.mono (by decide)) (pda_cons (pd_var 1) (pda_cons pd_int pda_nil)))) pda_nil)))))))
  (pss_consD (pds_set (i := 8) sc_law.nd rfl (by first | exact Or.inl rfl | exact Or.inr rfl) (pd_fn (ok__law_lets T) (hr.mono (by decide)) (pda_cons (pd_var 2) (pda_cons (pd_var 3) (pda_cons (pd_var 7) pda_nil)))))
  (pss_consD (pds_if (pdt_cmp opd_isN (pd_var 8) pd_non (nomark _)) (pss_oneD (pds_ret pd_bl)) pss_nilD)
  (pss_consD (pds_set (i := 9) sc_law.nd rfl (by first | exact Or.inl rfl | exact Or.inr rfl) (pd_lstM pda_nil))
  (pss_consD (pds_for (vs := (List.range 13)) rfl (passes_of rfl) (pdi_rg1 T.b_range (pd_callB cd_len T.b_len (by decide +kernel) (pda_cons (pd_var 7) pda_nil))) (pdg_name (i := 10) sc_law.nd rfl (by first | exact Or.inl rfl | exact Or.inr rfl) (by decide)) (pss_oneD (pds_if (pdt_val (pd_ix ixd (pd_var 8) (pd_var 10))) (pss_oneD (pds_drop (pd_lm PySem.F.slot_list_append PySem.F.type_list_append md_append (pd_var 9) (pda_cons (pd_ix ixd (pd_var 7) (pd_var 10)) pda_nil)))) pss_nilD)))
  (pss_consD (pds_set (i := 11) sc_law.nd rfl (by first | exact Or.inl rfl | exact Or.inr rfl) (pd_fn (ok__law_lets T) (hr.mono (by decide)) (pda_cons (pd_var 2) (pda_cons (pd_var 3) (pda_cons (pd_var 9) pda_nil)))))
  (pss_consD (pds_if (PDw.pt (pdw_or (pdt_cmp opd_isN (pd_var 11) pd_non (nomark _)) (pdw_or1 (pdt_cmp opd_inB pd_bl (pd_var 11) (by rfl))))) (pss_oneD (pds_ret pd_bl)) pss_nilD)
  (pss_consD (pds_if (pdt_not (pdt_val (pd_fn (ok__law_behind T) (hr.mono (by decide)) (pda_cons (pd_var 2) (pda_cons (pd_var 3) (pda_cons (pd_var 4) (pda_cons (pd_var 9) (pda_cons (pd_var 5) pda_nil)))))))) (pss_oneD (pds_ret pd_bl)) pss_nilD)
  (pss_consD (pds_if (pdt_not (pdt_val (pd_fn (ok__law_burst T) (hr.mono (by decide)) (pda_cons (pd_var 1) (pda_cons (pd_var 2) (pda_cons (pd_var 3) (pda_cons (pd_var 4) (pda_cons (pd_var 9) (pda_cons (pd_var 5) pda_nil))))))))) (pss_oneD (pds_ret pd_bl)) pss_nilD)
  (pss_consD (pds_set (i := 12) sc_law.nd rfl (by first | exact Or.inl rfl | exact Or.inr rfl) (pd_callB (cd_min2 rfl) T.b_min (by decide +kernel) (pda_cons pd_int (pda_cons (pd_op opd_add (pd_var 2) pd_int) pda_nil))))
  (pss_consD (pds_if (pdt_not (pdt_val (pd_fn (ok__law_like T) (hr.mono (by decide)) (pda_cons (pd_fcK0 (okK_longest_delay_0_speed_each_room T) (hr.mono (by decide)) (pdk_cons (pd_var 4) (pdk_cons (pd_var 3) (pdk_cons (pd_var 12) pdk_nil)))) (pda_cons (pd_op opd_sub (pd_op opd_div (pd_op opd_sub (pd_op opd_add (pd_var 12) (pd_var 4)) pd_int) (pd_var 4)) pd_int) pda_nil))))) (pss_oneD (pds_ret pd_bl)) pss_nilD)
  (pss_consD (pds_if (pdt_not (pdt_val (pd_fn (ok__law_like T) (hr.mono (by decide)) (pda_cons (pd_fn (ok_longest_delay T) (hr.mono (by decide)) (pda_cons (pd_callB (cd_min2 rfl) T.b_min (by decide +kernel) (pda_cons (pd_callTy cd_int T.b_int (by decide +kernel) (pda_cons (pd_var 2) pda_nil)) (pda_cons (pd_var 4) pda_nil))) (pda_cons (pd_var 3) (pda_cons (pd_var 4) pda_nil)))) (pda_cons pd_int pda_nil))))) (pss_oneD (pds_ret pd_bl)) pss_nilD)
  (pss_oneD (pds_ret (pd_fn (ok__law_like T) (hr.mono (by decide)) (pda_cons (pd_fn (ok_longest_delay T) (hr.mono (by decide)) (pda_cons (pd_var 2) (pda_cons (pd_op opd_add (pd_op opd_mod (pd_callTy cd_int T.b_int (by decide +kernel) (pda_cons (pd_var 3) pda_nil)) pd_int) pd_int) (pda_cons (pd_var 4) pda_nil)))) (pda_cons (pd_var 5) pda_nil)))))))))))))))))))))))))))) (rd_law c)
end
end K41
set_option Elab.async false
set_option linter.all false
set_option maxRecDepth 100000
set_option maxHeartbeats 4000000
namespace K41
open PySem PySem.Spec PyProof.Rows L2 DL
abbrev spEnd : Ctr := DL.spScript
theorem spEnd_at {K : PySem.W.Frag} {H : Hp} {a : Addr} {ns : List Int} {E : XK} (hl : ns.length ≤ 63) (hS : SqL K H a (ns.map V.int)) : lSp K spEnd [.ref a] H (fun v _ => v = .bl true) E := spScript_at hl hS
theorem all_mk {l : PySem.W.OpenLaw} {w : World} {K : PySem.W.Frag} {h : Heap} {mg : Str → Option Value} {fa : Addr} (X : K.In h) (G : h.Ns mainGlobals mg) (hfa : mg "law" = some (.ref fa))
    {C0 : Addr}
    {X_ServeError : Addr}
    {X_InvalidNumber : Addr}
    {X_InvalidRow : Addr}
    {X_InvalidLot : Addr}
    {X_TooMany : Addr}
    {X_Undefined : Addr}
    {f1 : Addr} {oc1 kV1 dc1 pm1 cd1 ct1 : Value} {od1 an1 : Option Addr} {sl1 : Array (Option Value)}
    {nm1 q1 : Str} {N1 : Addr} {bs1 : List Value} {sn1 : List Str} {sub1 : List Value} {ab1 : Bool} {col1 : Option Bool} {dd1 : Option Addr} {m01 m11 m21 m31 m51 : Option Value}
    {f2 : Addr} {oc2 kV2 dc2 pm2 cd2 ct2 : Value} {od2 an2 : Option Addr} {sl2 : Array (Option Value)}
    {nm2 q2 : Str} {N2 : Addr} {bs2 : List Value} {sn2 : List Str} {sub2 : List Value} {ab2 : Bool} {col2 : Option Bool} {dd2 : Option Addr} {m02 m12 m22 m32 m52 : Option Value}
    {tk_MOST_ROOM : _}
    {tk_MOST_EACH : _}
    {tk_MOST_ASKS : _}
    {tk_MOST_TICK : _}
    {tk_MOST_MANY : _}
    {tk_MOST_SPEED : _}
    {f3 : Addr} {oc3 kV3 dc3 pm3 cd3 ct3 : Value} {od3 an3 : Option Addr} {sl3 : Array (Option Value)}
    {f4 : Addr} {oc4 kV4 dc4 pm4 cd4 ct4 : Value} {od4 an4 : Option Addr} {sl4 : Array (Option Value)}
    {f5 : Addr} {oc5 kV5 dc5 pm5 cd5 ct5 : Value} {od5 an5 : Option Addr} {sl5 : Array (Option Value)}
    {f6 : Addr} {oc6 kV6 dc6 pm6 cd6 ct6 : Value} {od6 an6 : Option Addr} {sl6 : Array (Option Value)}
    {f7 : Addr} {oc7 kV7 dc7 pm7 cd7 ct7 : Value} {od7 an7 : Option Addr} {sl7 : Array (Option Value)}
    {f8 : Addr} {oc8 kV8 dc8 pm8 cd8 ct8 : Value} {od8 an8 : Option Addr} {sl8 : Array (Option Value)}
    {f9 : Addr} {oc9 kV9 dc9 pm9 cd9 ct9 : Value} {od9 an9 : Option Addr} {sl9 : Array (Option Value)}
    {f10 : Addr} {oc10 kV10 dc10 pm10 cd10 ct10 : Value} {od10 an10 : Option Addr} {sl10 : Array (Option Value)}
    {f11 : Addr} {oc11 kV11 dc11 pm11 cd11 ct11 : Value} {od11 an11 : Option Addr} {sl11 : Array (Option Value)}
    {f12 : Addr} {oc12 kV12 dc12 pm12 cd12 ct12 : Value} {od12 an12 : Option Addr} {sl12 : Array (Option Value)}
    {f13 : Addr} {oc13 kV13 dc13 pm13 cd13 ct13 : Value} {od13 an13 : Option Addr} {sl13 : Array (Option Value)}
    {f14 : Addr} {oc14 kV14 dc14 pm14 cd14 ct14 : Value} {od14 an14 : Option Addr} {sl14 : Array (Option Value)}
    {f15 : Addr} {oc15 kV15 dc15 pm15 cd15 ct15 : Value} {od15 an15 : Option Addr} {sl15 : Array (Option Value)}
    {f16 : Addr} {oc16 kV16 dc16 pm16 cd16 ct16 : Value} {od16 an16 : Option Addr} {sl16 : Array (Option Value)}
    {f17 : Addr} {oc17 kV17 dc17 pm17 cd17 ct17 : Value} {od17 an17 : Option Addr} {sl17 : Array (Option Value)}
    {f18 : Addr} {oc18 kV18 dc18 pm18 cd18 ct18 : Value} {od18 an18 : Option Addr} {sl18 : Array (Option Value)}
    {f19 : Addr} {oc19 kV19 dc19 pm19 cd19 ct19 : Value} {od19 an19 : Option Addr} {sl19 : Array (Option Value)}
    {f20 : Addr} {oc20 kV20 dc20 pm20 cd20 ct20 : Value} {od20 an20 : Option Addr} {sl20 : Array (Option Value)}
    {f21 : Addr} {oc21 kV21 dc21 pm21 cd21 ct21 : Value} {od21 an21 : Option Addr} {sl21 : Array (Option Value)}
    {f22 : Addr} {oc22 kV22 dc22 pm22 cd22 ct22 : Value} {od22 an22 : Option Addr} {sl22 : Array (Option Value)}
    {f23 : Addr} {oc23 kV23 dc23 pm23 cd23 ct23 : Value} {od23 an23 : Option Addr} {sl23 : Array (Option Value)}
    {f24 : Addr} {oc24 kV24 dc24 pm24 cd24 ct24 : Value} {od24 an24 : Option Addr} {sl24 : Array (Option Value)}
    {f25 : Addr} {oc25 kV25 dc25 pm25 cd25 ct25 : Value} {od25 an25 : Option Addr} {sl25 : Array (Option Value)}
    {f26 : Addr} {oc26 kV26 dc26 pm26 cd26 ct26 : Value} {od26 an26 : Option Addr} {sl26 : Array (Option Value)}
    {f27 : Addr} {oc27 kV27 dc27 pm27 cd27 ct27 : Value} {od27 an27 : Option Addr} {sl27 : Array (Option Value)}
    {f28 : Addr} {oc28 kV28 dc28 pm28 cd28 ct28 : Value} {od28 an28 : Option Addr} {sl28 : Array (Option Value)}
    {f29 : Addr} {oc29 kV29 dc29 pm29 cd29 ct29 : Value} {od29 an29 : Option Addr} {sl29 : Array (Option Value)}
    {f30 : Addr} {oc30 kV30 dc30 pm30 cd30 ct30 : Value} {od30 an30 : Option Addr} {sl30 : Array (Option Value)}
    {f31 : Addr} {oc31 kV31 dc31 pm31 cd31 ct31 : Value} {od31 an31 : Option Addr} {sl31 : Array (Option Value)}
    {f32 : Addr} {oc32 kV32 dc32 pm32 cd32 ct32 : Value} {od32 an32 : Option Addr} {sl32 : Array (Option Value)}
    {f33 : Addr} {oc33 kV33 dc33 pm33 cd33 ct33 : Value} {od33 an33 : Option Addr} {sl33 : Array (Option Value)}
    {f34 : Addr} {oc34 kV34 dc34 pm34 cd34 ct34 : Value} {od34 an34 : Option Addr} {sl34 : Array (Option Value)}
    {f35 : Addr} {oc35 kV35 dc35 pm35 cd35 ct35 : Value} {od35 an35 : Option Addr} {sl35 : Array (Option Value)}
    {f36 : Addr} {oc36 kV36 dc36 pm36 cd36 ct36 : Value} {od36 an36 : Option Addr} {sl36 : Array (Option Value)}
    (aC0 : PySem.W.nsIn K mainGlobals "Bucket" = some (some (.ref C0)))
    (aX_ServeError : PySem.W.nsIn K mainGlobals "ServeError" = some (some (.ref X_ServeError)))
    (aX_InvalidNumber : PySem.W.nsIn K mainGlobals "InvalidNumber" = some (some (.ref X_InvalidNumber)))
    (aX_InvalidRow : PySem.W.nsIn K mainGlobals "InvalidRow" = some (some (.ref X_InvalidRow)))
    (aX_InvalidLot : PySem.W.nsIn K mainGlobals "InvalidLot" = some (some (.ref X_InvalidLot)))
    (aX_TooMany : PySem.W.nsIn K mainGlobals "TooMany" = some (some (.ref X_TooMany)))
    (aX_Undefined : PySem.W.nsIn K mainGlobals "Undefined" = some (some (.ref X_Undefined)))
    (xL1 : K.lookup X_InvalidNumber = some (excClassObj nm1 q1 X_InvalidNumber N1 bs1 [.ref X_ServeError, .type "ValueError", .type "Exception", .type "BaseException", .type "object"] true sn1 sub1 ab1 col1 dd1 m01 m11 m21 m31 m51 "ValueError.__new__"))
    (saX_InvalidNumber : PySem.W.findIn K (.ref X_InvalidNumber) "__setattr__" = some (some (.builtin "object.__setattr__")))
    (kcX_InvalidNumber : PySem.W.keepIn K (.ref X_InvalidNumber) = true)
    (iX_InvalidNumber : PySem.W.findIn K (.ref X_InvalidNumber) "__init__" = some (some (.ref f1)))
    (tfX_InvalidNumber : PySem.W.typeIn K (.ref f1) = some (.type "function"))
    (l1 : K.lookup f1 = some ⟨oc1, od1, .func (PySem.W.fnOf "__init__" "InvalidNumber.__init__" (defArgs (inClass (topS 2) 0)) (defBody (inClass (topS 2) 0)) (defScope (inClass (topS 2) 0)) .none kV1 dc1 pm1 an1 cd1 ct1), sl1⟩)
    (c1 : PySem.W.codeIn K cd1 "InvalidNumber.__init__" = true)
    (k1 : PySem.W.keepIn K (.ref f1) = true)
    (eX_InvalidNumber : PySem.W.subIn K (.ref X_InvalidNumber) (.type "BaseException") = some true)
    (tX_InvalidNumber : PySem.W.typeIn K (.ref X_InvalidNumber) = some (.type "type"))
    (nfX_InvalidNumber_number : PySem.W.findIn K (.ref X_InvalidNumber) "number" = some none)
    (xL2 : K.lookup X_InvalidRow = some (excClassObj nm2 q2 X_InvalidRow N2 bs2 [.ref X_ServeError, .type "ValueError", .type "Exception", .type "BaseException", .type "object"] true sn2 sub2 ab2 col2 dd2 m02 m12 m22 m32 m52 "ValueError.__new__"))
    (saX_InvalidRow : PySem.W.findIn K (.ref X_InvalidRow) "__setattr__" = some (some (.builtin "object.__setattr__")))
    (kcX_InvalidRow : PySem.W.keepIn K (.ref X_InvalidRow) = true)
    (iX_InvalidRow : PySem.W.findIn K (.ref X_InvalidRow) "__init__" = some (some (.ref f2)))
    (tfX_InvalidRow : PySem.W.typeIn K (.ref f2) = some (.type "function"))
    (l2 : K.lookup f2 = some ⟨oc2, od2, .func (PySem.W.fnOf "__init__" "InvalidRow.__init__" (defArgs (inClass (topS 3) 0)) (defBody (inClass (topS 3) 0)) (defScope (inClass (topS 3) 0)) .none kV2 dc2 pm2 an2 cd2 ct2), sl2⟩)
    (c2 : PySem.W.codeIn K cd2 "InvalidRow.__init__" = true)
    (k2 : PySem.W.keepIn K (.ref f2) = true)
    (eX_InvalidRow : PySem.W.subIn K (.ref X_InvalidRow) (.type "BaseException") = some true)
    (tX_InvalidRow : PySem.W.typeIn K (.ref X_InvalidRow) = some (.type "type"))
    (nfX_InvalidRow_place : PySem.W.findIn K (.ref X_InvalidRow) "place" = some none)
    (cn_MOST_ROOM : PySem.W.nsIn K mainGlobals "MOST_ROOM" = some (some (Value.int (1000) tk_MOST_ROOM)))
    (cn_MOST_EACH : PySem.W.nsIn K mainGlobals "MOST_EACH" = some (some (Value.int (100) tk_MOST_EACH)))
    (cn_MOST_ASKS : PySem.W.nsIn K mainGlobals "MOST_ASKS" = some (some (Value.int (40) tk_MOST_ASKS)))
    (cn_MOST_TICK : PySem.W.nsIn K mainGlobals "MOST_TICK" = some (some (Value.int (1000000) tk_MOST_TICK)))
    (cn_MOST_MANY : PySem.W.nsIn K mainGlobals "MOST_MANY" = some (some (Value.int (1000) tk_MOST_MANY)))
    (cn_MOST_SPEED : PySem.W.nsIn K mainGlobals "MOST_SPEED" = some (some (Value.int (100) tk_MOST_SPEED)))
    (eX_ServeError : PySem.W.subIn K (.ref X_ServeError) (.type "BaseException") = some true)
    (icX_ServeError : PySem.W.isClsIn K X_ServeError = true)
    (tX_ServeError : PySem.W.typeIn K (.ref X_ServeError) = some (.type "type"))
    (sub_InvalidNumber_ServeError : PySem.W.subIn K (.ref X_InvalidNumber) (.ref X_ServeError) = some true)
    (ne_InvalidNumber_Undefined : X_InvalidNumber ≠ X_Undefined)
    (icX_Undefined : PySem.W.isClsIn K X_Undefined = true)
    (tX_Undefined : PySem.W.typeIn K (.ref X_Undefined) = some (.type "type"))
    (sub_InvalidNumber_Undefined : PySem.W.subIn K (.ref X_InvalidNumber) (.ref X_Undefined) = some false)
    (ne_InvalidNumber_TooMany : X_InvalidNumber ≠ X_TooMany)
    (icX_TooMany : PySem.W.isClsIn K X_TooMany = true)
    (tX_TooMany : PySem.W.typeIn K (.ref X_TooMany) = some (.type "type"))
    (sub_InvalidNumber_TooMany : PySem.W.subIn K (.ref X_InvalidNumber) (.ref X_TooMany) = some false)
    (ne_InvalidNumber_InvalidLot : X_InvalidNumber ≠ X_InvalidLot)
    (icX_InvalidLot : PySem.W.isClsIn K X_InvalidLot = true)
    (tX_InvalidLot : PySem.W.typeIn K (.ref X_InvalidLot) = some (.type "type"))
    (sub_InvalidNumber_InvalidLot : PySem.W.subIn K (.ref X_InvalidNumber) (.ref X_InvalidLot) = some false)
    (ne_InvalidNumber_InvalidRow : X_InvalidNumber ≠ X_InvalidRow)
    (icX_InvalidRow : PySem.W.isClsIn K X_InvalidRow = true)
    (sub_InvalidNumber_InvalidRow : PySem.W.subIn K (.ref X_InvalidNumber) (.ref X_InvalidRow) = some false)
    (caX_InvalidNumber : PySem.W.findIn K (.ref X_InvalidNumber) "__class__" = some (some (.builtin "object.__class__")))
    (cgX : PySem.W.specialIn K (.builtin "object.__class__") "__get__" = some (some (.builtin "getset_descriptor.__get__")))
    (ctX : PySem.W.takesIn K (.builtin "object.__class__") = some true)
    (moX_InvalidNumber : PySem.W.mroIn K X_InvalidNumber (.type "object") = some true)
    (icX_InvalidNumber : PySem.W.isClsIn K X_InvalidNumber = true)
    (gaX_InvalidNumber : PySem.W.findIn K (.ref X_InvalidNumber) "__getattribute__" = some (some (.builtin "BaseException.__getattribute__")))
    (ggX_InvalidNumber : PySem.W.findIn K (.ref X_InvalidNumber) "__getattr__" = some none)
    (hdX_InvalidNumber : PySem.W.hasDictIn K X_InvalidNumber = true)
    (a3 : PySem.W.nsIn K mainGlobals "is_integer" = some (some (.ref f3)))
    (l3 : K.lookup f3 = some ⟨oc3, od3, .func (PySem.W.fnOf "is_integer" "is_integer" (defArgs s_is_integer) (defBody s_is_integer) (defScope s_is_integer) .none kV3 dc3 pm3 an3 cd3 ct3), sl3⟩)
    (c3 : PySem.W.codeIn K cd3 "is_integer" = true)
    (k3 : PySem.W.keepIn K (.ref f3) = true)
    (a4 : PySem.W.nsIn K mainGlobals "is_from_to" = some (some (.ref f4)))
    (l4 : K.lookup f4 = some ⟨oc4, od4, .func (PySem.W.fnOf "is_from_to" "is_from_to" (defArgs s_is_from_to) (defBody s_is_from_to) (defScope s_is_from_to) .none kV4 dc4 pm4 an4 cd4 ct4), sl4⟩)
    (c4 : PySem.W.codeIn K cd4 "is_from_to" = true)
    (k4 : PySem.W.keepIn K (.ref f4) = true)
    (a5 : PySem.W.nsIn K mainGlobals "is_row" = some (some (.ref f5)))
    (l5 : K.lookup f5 = some ⟨oc5, od5, .func (PySem.W.fnOf "is_row" "is_row" (defArgs s_is_row) (defBody s_is_row) (defScope s_is_row) .none kV5 dc5 pm5 an5 cd5 ct5), sl5⟩)
    (c5 : PySem.W.codeIn K cd5 "is_row" = true)
    (k5 : PySem.W.keepIn K (.ref f5) = true)
    (a6 : PySem.W.nsIn K mainGlobals "check_number" = some (some (.ref f6)))
    (l6 : K.lookup f6 = some ⟨oc6, od6, .func (PySem.W.fnOf "check_number" "check_number" (defArgs s_check_number) (defBody s_check_number) (defScope s_check_number) .none kV6 dc6 pm6 an6 cd6 ct6), sl6⟩)
    (c6 : PySem.W.codeIn K cd6 "check_number" = true)
    (k6 : PySem.W.keepIn K (.ref f6) = true)
    (a7 : PySem.W.nsIn K mainGlobals "check_length" = some (some (.ref f7)))
    (l7 : K.lookup f7 = some ⟨oc7, od7, .func (PySem.W.fnOf "check_length" "check_length" (defArgs s_check_length) (defBody s_check_length) (defScope s_check_length) .none kV7 dc7 pm7 an7 cd7 ct7), sl7⟩)
    (c7 : PySem.W.codeIn K cd7 "check_length" = true)
    (k7 : PySem.W.keepIn K (.ref f7) = true)
    (a8 : PySem.W.nsIn K mainGlobals "is_ask" = some (some (.ref f8)))
    (l8 : K.lookup f8 = some ⟨oc8, od8, .func (PySem.W.fnOf "is_ask" "is_ask" (defArgs s_is_ask) (defBody s_is_ask) (defScope s_is_ask) .none kV8 dc8 pm8 an8 cd8 ct8), sl8⟩)
    (c8 : PySem.W.codeIn K cd8 "is_ask" = true)
    (k8 : PySem.W.keepIn K (.ref f8) = true)
    (a9 : PySem.W.nsIn K mainGlobals "checked_asks" = some (some (.ref f9)))
    (l9 : K.lookup f9 = some ⟨oc9, od9, .func (PySem.W.fnOf "checked_asks" "checked_asks" (defArgs s_checked_asks) (defBody s_checked_asks) (defScope s_checked_asks) .none kV9 dc9 pm9 an9 cd9 ct9), sl9⟩)
    (c9 : PySem.W.codeIn K cd9 "checked_asks" = true)
    (k9 : PySem.W.keepIn K (.ref f9) = true)
    (a10 : PySem.W.nsIn K mainGlobals "check_bucket" = some (some (.ref f10)))
    (l10 : K.lookup f10 = some ⟨oc10, od10, .func (PySem.W.fnOf "check_bucket" "check_bucket" (defArgs s_check_bucket) (defBody s_check_bucket) (defScope s_check_bucket) .none kV10 dc10 pm10 an10 cd10 ct10), sl10⟩)
    (c10 : PySem.W.codeIn K cd10 "check_bucket" = true)
    (k10 : PySem.W.keepIn K (.ref f10) = true)
    (a11 : PySem.W.nsIn K mainGlobals "tokens_between" = some (some (.ref f11)))
    (l11 : K.lookup f11 = some ⟨oc11, od11, .func (PySem.W.fnOf "tokens_between" "tokens_between" (defArgs s_tokens_between) (defBody s_tokens_between) (defScope s_tokens_between) .none kV11 dc11 pm11 an11 cd11 ct11), sl11⟩)
    (c11 : PySem.W.codeIn K cd11 "tokens_between" = true)
    (k11 : PySem.W.keepIn K (.ref f11) = true)
    (a12 : PySem.W.findIn K (.ref C0) "__init__" = some (some (.ref f12)))
    (i12 : PySem.W.isFn K (.ref f12) = true)
    (l12 : K.lookup f12 = some ⟨oc12, od12, .func (PySem.W.fnOf "__init__" "Bucket.__init__" (defArgs s_Bucket_init) (defBody s_Bucket_init) (defScope s_Bucket_init) .none kV12 dc12 pm12 an12 cd12 ct12), sl12⟩)
    (c12 : PySem.W.codeIn K cd12 "Bucket.__init__" = true)
    (k12 : PySem.W.keepIn K (.ref f12) = true)
    (a13 : PySem.W.findIn K (.ref C0) "go_to" = some (some (.ref f13)))
    (i13 : PySem.W.isFn K (.ref f13) = true)
    (l13 : K.lookup f13 = some ⟨oc13, od13, .func (PySem.W.fnOf "go_to" "Bucket.go_to" (defArgs s_Bucket_go_to) (defBody s_Bucket_go_to) (defScope s_Bucket_go_to) .none kV13 dc13 pm13 an13 cd13 ct13), sl13⟩)
    (c13 : PySem.W.codeIn K cd13 "Bucket.go_to" = true)
    (k13 : PySem.W.keepIn K (.ref f13) = true)
    (a14 : PySem.W.findIn K (.ref C0) "take" = some (some (.ref f14)))
    (i14 : PySem.W.isFn K (.ref f14) = true)
    (l14 : K.lookup f14 = some ⟨oc14, od14, .func (PySem.W.fnOf "take" "Bucket.take" (defArgs s_Bucket_take) (defBody s_Bucket_take) (defScope s_Bucket_take) .none kV14 dc14 pm14 an14 cd14 ct14), sl14⟩)
    (c14 : PySem.W.codeIn K cd14 "Bucket.take" = true)
    (k14 : PySem.W.keepIn K (.ref f14) = true)
    (a15 : PySem.W.nsIn K mainGlobals "let_by" = some (some (.ref f15)))
    (l15 : K.lookup f15 = some ⟨oc15, od15, .func (PySem.W.fnOf "let_by" "let_by" (defArgs s_let_by) (defBody s_let_by) (defScope s_let_by) .none kV15 dc15 pm15 an15 cd15 ct15), sl15⟩)
    (c15 : PySem.W.codeIn K cd15 "let_by" = true)
    (k15 : PySem.W.keepIn K (.ref f15) = true)
    (a16 : PySem.W.nsIn K mainGlobals "least_room" = some (some (.ref f16)))
    (l16 : K.lookup f16 = some ⟨oc16, od16, .func (PySem.W.fnOf "least_room" "least_room" (defArgs s_least_room) (defBody s_least_room) (defScope s_least_room) .none kV16 dc16 pm16 an16 cd16 ct16), sl16⟩)
    (c16 : PySem.W.codeIn K cd16 "least_room" = true)
    (k16 : PySem.W.keepIn K (.ref f16) = true)
    (a17 : PySem.W.nsIn K mainGlobals "queue_ends" = some (some (.ref f17)))
    (l17 : K.lookup f17 = some ⟨oc17, od17, .func (PySem.W.fnOf "queue_ends" "queue_ends" (defArgs s_queue_ends) (defBody s_queue_ends) (defScope s_queue_ends) .none kV17 dc17 pm17 an17 cd17 ct17), sl17⟩)
    (c17 : PySem.W.codeIn K cd17 "queue_ends" = true)
    (k17 : PySem.W.keepIn K (.ref f17) = true)
    (a18 : PySem.W.nsIn K mainGlobals "longest_delay" = some (some (.ref f18)))
    (l18 : K.lookup f18 = some ⟨oc18, od18, .func (PySem.W.fnOf "longest_delay" "longest_delay" (defArgs s_longest_delay) (defBody s_longest_delay) (defScope s_longest_delay) .none kV18 dc18 pm18 an18 cd18 ct18), sl18⟩)
    (c18 : PySem.W.codeIn K cd18 "longest_delay" = true)
    (k18 : PySem.W.keepIn K (.ref f18) = true)
    (a19 : PySem.W.nsIn K mainGlobals "_law_pool" = some (some (.ref f19)))
    (l19 : K.lookup f19 = some ⟨oc19, od19, .func (PySem.W.fnOf "_law_pool" "_law_pool" (defArgs s__law_pool) (defBody s__law_pool) (defScope s__law_pool) .none kV19 dc19 pm19 an19 cd19 ct19), sl19⟩)
    (c19 : PySem.W.codeIn K cd19 "_law_pool" = true)
    (k19 : PySem.W.keepIn K (.ref f19) = true)
    (a20 : PySem.W.nsIn K mainGlobals "_law_draw" = some (some (.ref f20)))
    (l20 : K.lookup f20 = some ⟨oc20, od20, .func (PySem.W.fnOf "_law_draw" "_law_draw" (defArgs s__law_draw) (defBody s__law_draw) (defScope s__law_draw) .none kV20 dc20 pm20 an20 cd20 ct20), sl20⟩)
    (c20 : PySem.W.codeIn K cd20 "_law_draw" = true)
    (k20 : PySem.W.keepIn K (.ref f20) = true)
    (a21 : PySem.W.nsIn K mainGlobals "_law_like" = some (some (.ref f21)))
    (l21 : K.lookup f21 = some ⟨oc21, od21, .func (PySem.W.fnOf "_law_like" "_law_like" (defArgs s__law_like) (defBody s__law_like) (defScope s__law_like) .none kV21 dc21 pm21 an21 cd21 ct21), sl21⟩)
    (c21 : PySem.W.codeIn K cd21 "_law_like" = true)
    (k21 : PySem.W.keepIn K (.ref f21) = true)
    (a22 : PySem.W.nsIn K mainGlobals "_law_copy" = some (some (.ref f22)))
    (l22 : K.lookup f22 = some ⟨oc22, od22, .func (PySem.W.fnOf "_law_copy" "_law_copy" (defArgs s__law_copy) (defBody s__law_copy) (defScope s__law_copy) .none kV22 dc22 pm22 an22 cd22 ct22), sl22⟩)
    (c22 : PySem.W.codeIn K cd22 "_law_copy" = true)
    (k22 : PySem.W.keepIn K (.ref f22) = true)
    (a23 : PySem.W.nsIn K mainGlobals "_law_ticks" = some (some (.ref f23)))
    (l23 : K.lookup f23 = some ⟨oc23, od23, .func (PySem.W.fnOf "_law_ticks" "_law_ticks" (defArgs s__law_ticks) (defBody s__law_ticks) (defScope s__law_ticks) .none kV23 dc23 pm23 an23 cd23 ct23), sl23⟩)
    (c23 : PySem.W.codeIn K cd23 "_law_ticks" = true)
    (k23 : PySem.W.keepIn K (.ref f23) = true)
    (a24 : PySem.W.nsIn K mainGlobals "_law_leaps" = some (some (.ref f24)))
    (l24 : K.lookup f24 = some ⟨oc24, od24, .func (PySem.W.fnOf "_law_leaps" "_law_leaps" (defArgs s__law_leaps) (defBody s__law_leaps) (defScope s__law_leaps) .none kV24 dc24 pm24 an24 cd24 ct24), sl24⟩)
    (c24 : PySem.W.codeIn K cd24 "_law_leaps" = true)
    (k24 : PySem.W.keepIn K (.ref f24) = true)
    (a25 : PySem.W.nsIn K mainGlobals "_law_build" = some (some (.ref f25)))
    (l25 : K.lookup f25 = some ⟨oc25, od25, .func (PySem.W.fnOf "_law_build" "_law_build" (defArgs s__law_build) (defBody s__law_build) (defScope s__law_build) .none kV25 dc25 pm25 an25 cd25 ct25), sl25⟩)
    (c25 : PySem.W.codeIn K cd25 "_law_build" = true)
    (k25 : PySem.W.keepIn K (.ref f25) = true)
    (a26 : PySem.W.nsIn K mainGlobals "_law_whole_ticks" = some (some (.ref f26)))
    (l26 : K.lookup f26 = some ⟨oc26, od26, .func (PySem.W.fnOf "_law_whole_ticks" "_law_whole_ticks" (defArgs s__law_whole_ticks) (defBody s__law_whole_ticks) (defScope s__law_whole_ticks) .none kV26 dc26 pm26 an26 cd26 ct26), sl26⟩)
    (c26 : PySem.W.codeIn K cd26 "_law_whole_ticks" = true)
    (k26 : PySem.W.keepIn K (.ref f26) = true)
    (a27 : PySem.W.nsIn K mainGlobals "_law_neighbors" = some (some (.ref f27)))
    (l27 : K.lookup f27 = some ⟨oc27, od27, .func (PySem.W.fnOf "_law_neighbors" "_law_neighbors" (defArgs s__law_neighbors) (defBody s__law_neighbors) (defScope s__law_neighbors) .none kV27 dc27 pm27 an27 cd27 ct27), sl27⟩)
    (c27 : PySem.W.codeIn K cd27 "_law_neighbors" = true)
    (k27 : PySem.W.keepIn K (.ref f27) = true)
    (a28 : PySem.W.nsIn K mainGlobals "_law_bad" = some (some (.ref f28)))
    (l28 : K.lookup f28 = some ⟨oc28, od28, .func (PySem.W.fnOf "_law_bad" "_law_bad" (defArgs s__law_bad) (defBody s__law_bad) (defScope s__law_bad) .none kV28 dc28 pm28 an28 cd28 ct28), sl28⟩)
    (c28 : PySem.W.codeIn K cd28 "_law_bad" = true)
    (k28 : PySem.W.keepIn K (.ref f28) = true)
    (a29 : PySem.W.nsIn K mainGlobals "_law_waits" = some (some (.ref f29)))
    (l29 : K.lookup f29 = some ⟨oc29, od29, .func (PySem.W.fnOf "_law_waits" "_law_waits" (defArgs s__law_waits) (defBody s__law_waits) (defScope s__law_waits) .none kV29 dc29 pm29 an29 cd29 ct29), sl29⟩)
    (c29 : PySem.W.codeIn K cd29 "_law_waits" = true)
    (k29 : PySem.W.keepIn K (.ref f29) = true)
    (a30 : PySem.W.nsIn K mainGlobals "_law_due" = some (some (.ref f30)))
    (l30 : K.lookup f30 = some ⟨oc30, od30, .func (PySem.W.fnOf "_law_due" "_law_due" (defArgs s__law_due) (defBody s__law_due) (defScope s__law_due) .none kV30 dc30 pm30 an30 cd30 ct30), sl30⟩)
    (c30 : PySem.W.codeIn K cd30 "_law_due" = true)
    (k30 : PySem.W.keepIn K (.ref f30) = true)
    (a31 : PySem.W.nsIn K mainGlobals "_law_refused" = some (some (.ref f31)))
    (l31 : K.lookup f31 = some ⟨oc31, od31, .func (PySem.W.fnOf "_law_refused" "_law_refused" (defArgs s__law_refused) (defBody s__law_refused) (defScope s__law_refused) .none kV31 dc31 pm31 an31 cd31 ct31), sl31⟩)
    (c31 : PySem.W.codeIn K cd31 "_law_refused" = true)
    (k31 : PySem.W.keepIn K (.ref f31) = true)
    (a32 : PySem.W.nsIn K mainGlobals "_law_refusals" = some (some (.ref f32)))
    (l32 : K.lookup f32 = some ⟨oc32, od32, .func (PySem.W.fnOf "_law_refusals" "_law_refusals" (defArgs s__law_refusals) (defBody s__law_refusals) (defScope s__law_refusals) .none kV32 dc32 pm32 an32 cd32 ct32), sl32⟩)
    (c32 : PySem.W.codeIn K cd32 "_law_refusals" = true)
    (k32 : PySem.W.keepIn K (.ref f32) = true)
    (a33 : PySem.W.nsIn K mainGlobals "_law_lets" = some (some (.ref f33)))
    (l33 : K.lookup f33 = some ⟨oc33, od33, .func (PySem.W.fnOf "_law_lets" "_law_lets" (defArgs s__law_lets) (defBody s__law_lets) (defScope s__law_lets) .none kV33 dc33 pm33 an33 cd33 ct33), sl33⟩)
    (c33 : PySem.W.codeIn K cd33 "_law_lets" = true)
    (k33 : PySem.W.keepIn K (.ref f33) = true)
    (a34 : PySem.W.nsIn K mainGlobals "_law_behind" = some (some (.ref f34)))
    (l34 : K.lookup f34 = some ⟨oc34, od34, .func (PySem.W.fnOf "_law_behind" "_law_behind" (defArgs s__law_behind) (defBody s__law_behind) (defScope s__law_behind) .none kV34 dc34 pm34 an34 cd34 ct34), sl34⟩)
    (c34 : PySem.W.codeIn K cd34 "_law_behind" = true)
    (k34 : PySem.W.keepIn K (.ref f34) = true)
    (a35 : PySem.W.nsIn K mainGlobals "_law_burst" = some (some (.ref f35)))
    (l35 : K.lookup f35 = some ⟨oc35, od35, .func (PySem.W.fnOf "_law_burst" "_law_burst" (defArgs s__law_burst) (defBody s__law_burst) (defScope s__law_burst) .none kV35 dc35 pm35 an35 cd35 ct35), sl35⟩)
    (c35 : PySem.W.codeIn K cd35 "_law_burst" = true)
    (k35 : PySem.W.keepIn K (.ref f35) = true)
    (a36 : PySem.W.nsIn K mainGlobals "law" = some (some (.ref f36)))
    (l36 : K.lookup f36 = some ⟨oc36, od36, .func (PySem.W.fnOf "law" "law" (defArgs s_law) (defBody s_law) (defScope s_law) .none kV36 dc36 pm36 an36 cd36 ct36), sl36⟩)
    (c36 : PySem.W.codeIn K cd36 "law" = true)
    (k36 : PySem.W.keepIn K (.ref f36) = true)
    (pgC0 : PySem.W.plainGet K C0 Str.empty = true)
    (hdC0 : PySem.W.hasDictIn K C0 = true)
    (poC0 : PySem.W.plainOver K C0 = true)
    (saC0 : PySem.W.findIn K (.ref C0) "__setattr__" = some (some (.builtin "object.__setattr__")))
    (mkC0 : PySem.W.makesIn K C0 = true)
    (kcC0 : PySem.W.keepIn K (.ref C0) = true)
    (z_bool : PySem.W.nsIn K mainGlobals "bool" = some none)
    (z_enumerate : PySem.W.nsIn K mainGlobals "enumerate" = some none)
    (z_int : PySem.W.nsIn K mainGlobals "int" = some none)
    (z_isinstance : PySem.W.nsIn K mainGlobals "isinstance" = some none)
    (z_len : PySem.W.nsIn K mainGlobals "len" = some none)
    (z_list : PySem.W.nsIn K mainGlobals "list" = some none)
    (z_max : PySem.W.nsIn K mainGlobals "max" = some none)
    (z_min : PySem.W.nsIn K mainGlobals "min" = some none)
    (z_range : PySem.W.nsIn K mainGlobals "range" = some none)
    (z_str : PySem.W.nsIn K mainGlobals "str" = some none)
    (z_sum : PySem.W.nsIn K mainGlobals "sum" = some none)
    (z_tuple : PySem.W.nsIn K mainGlobals "tuple" = some none)
    (na_Bucket_room : PySem.W.findIn K (.ref C0) "room" = some none)
    (na_Bucket_each : PySem.W.findIn K (.ref C0) "each" = some none)
    (na_Bucket_tokens : PySem.W.findIn K (.ref C0) "tokens" = some none)
    (na_Bucket_tick : PySem.W.findIn K (.ref C0) "tick" = some none)
    : ∃ fd : FuncData, (∀ (s : Shared) (v : Value), BindsTo s fd ⟨[v], []⟩ [("script", v)]) ∧ ∀ base : Heap, K.In base → base.Ns mainGlobals mg → FnOk l.prog w K mg base (L2.CX l.prog w) 10 fa fd ["script"] (lSp K spEnd) := by
  have e := hfa.symm.trans (PySem.W.mg_of X G a36)
  cases e
  have T : Txt mg ⟨K, C0, X_ServeError, X_InvalidNumber, X_InvalidRow, X_InvalidLot, X_TooMany, X_Undefined, (exm_of eX_ServeError icX_ServeError tX_ServeError sub_InvalidNumber_ServeError), (kitn_cons (kit_of ne_InvalidNumber_InvalidRow icX_InvalidRow tX_InvalidRow sub_InvalidNumber_InvalidRow) (kitn_cons (kit_of ne_InvalidNumber_InvalidLot icX_InvalidLot tX_InvalidLot sub_InvalidNumber_InvalidLot) (kitn_cons (kit_of ne_InvalidNumber_TooMany icX_TooMany tX_TooMany sub_InvalidNumber_TooMany) (kitn_cons (kit_of ne_InvalidNumber_Undefined icX_Undefined tX_Undefined sub_InvalidNumber_Undefined) kitn_nil)))), kit_self, ⟨icX_InvalidNumber, gaX_InvalidNumber, ggX_InvalidNumber, eX_InvalidNumber, caX_InvalidNumber, cgX, ctX, moX_InvalidNumber⟩, ⟨⟨gaX_InvalidNumber, ggX_InvalidNumber, eX_InvalidNumber, hdX_InvalidNumber⟩, nfX_InvalidNumber_number⟩⟩ := ⟨PySem.W.mg_none_of X G z_bool,
    PySem.W.mg_none_of X G z_enumerate,
    PySem.W.mg_none_of X G z_int,
    PySem.W.mg_none_of X G z_isinstance,
    PySem.W.mg_none_of X G z_len,
    PySem.W.mg_none_of X G z_list,
    PySem.W.mg_none_of X G z_max,
    PySem.W.mg_none_of X G z_min,
    PySem.W.mg_none_of X G z_range,
    PySem.W.mg_none_of X G z_str,
    PySem.W.mg_none_of X G z_sum,
    PySem.W.mg_none_of X G z_tuple,
    ⟨_, _, fun_mk l3 c3 k3, PySem.W.mg_of X G a3, ((fun_mk l3 c3 k3).binds (ps := ["value"]) fun _ _ _ _ _ _ us hl => match us, hl with | [_], _ => rfl)⟩,
    ⟨_, _, fun_mk l4 c4 k4, PySem.W.mg_of X G a4, ((fun_mk l4 c4 k4).binds (ps := ["value", "least", "most"]) fun _ _ _ _ _ _ us hl => match us, hl with | [_, _, _], _ => rfl)⟩,
    ⟨_, _, fun_mk l5 c5 k5, PySem.W.mg_of X G a5, ((fun_mk l5 c5 k5).binds (ps := ["value"]) fun _ _ _ _ _ _ us hl => match us, hl with | [_], _ => rfl)⟩,
    ⟨_, _, fun_mk l6 c6 k6, PySem.W.mg_of X G a6, ((fun_mk l6 c6 k6).binds (ps := ["value", "least", "most"]) fun _ _ _ _ _ _ us hl => match us, hl with | [_, _, _], _ => rfl)⟩,
    ⟨_, _, fun_mk l7 c7 k7, PySem.W.mg_of X G a7, ((fun_mk l7 c7 k7).binds (ps := ["value", "least", "most"]) fun _ _ _ _ _ _ us hl => match us, hl with | [_, _, _], _ => rfl)⟩,
    ⟨_, _, fun_mk l8 c8 k8, PySem.W.mg_of X G a8, ((fun_mk l8 c8 k8).binds (ps := ["value", "least"]) fun _ _ _ _ _ _ us hl => match us, hl with | [_, _], _ => rfl)⟩,
    ⟨_, _, fun_mk l9 c9 k9, PySem.W.mg_of X G a9, ((fun_mk l9 c9 k9).binds (ps := ["asks"]) fun _ _ _ _ _ _ us hl => match us, hl with | [_], _ => rfl)⟩,
    ⟨_, _, fun_mk l10 c10 k10, PySem.W.mg_of X G a10, ((fun_mk l10 c10 k10).binds (ps := ["room", "each"]) fun _ _ _ _ _ _ us hl => match us, hl with | [_, _], _ => rfl)⟩,
    ⟨_, _, fun_mk l11 c11 k11, PySem.W.mg_of X G a11, ((fun_mk l11 c11 k11).binds (ps := ["each", "tick", "later"]) fun _ _ _ _ _ _ us hl => match us, hl with | [_, _, _], _ => rfl)⟩,
    ⟨f12, _, fun_mk l12 c12 k12, ⟨mkC0, a12, i12, kcC0⟩, ((fun_mk l12 c12 k12).binds (ps := ["self", "room", "each"]) fun _ _ _ _ _ _ us hl => match us, hl with | [_, _, _], _ => rfl)⟩,
    ⟨f13, _, fun_mk l13 c13 k13, ⟨a13, i13, k13⟩, ((fun_mk l13 c13 k13).binds (ps := ["self", "tick"]) fun _ _ _ _ _ _ us hl => match us, hl with | [_, _], _ => rfl)⟩,
    ⟨f14, _, fun_mk l14 c14 k14, ⟨a14, i14, k14⟩, ((fun_mk l14 c14 k14).binds (ps := ["self", "many"]) fun _ _ _ _ _ _ us hl => match us, hl with | [_, _], _ => rfl)⟩,
    ⟨_, _, fun_mk l15 c15 k15, PySem.W.mg_of X G a15, ((fun_mk l15 c15 k15).binds (ps := ["room", "each", "asks"]) fun _ _ _ _ _ _ us hl => match us, hl with | [_, _, _], _ => rfl)⟩,
    ⟨_, _, fun_mk l16 c16 k16, PySem.W.mg_of X G a16, ((fun_mk l16 c16 k16).binds (ps := ["each", "asks"]) fun _ _ _ _ _ _ us hl => match us, hl with | [_, _], _ => rfl)⟩,
    ⟨_, _, fun_mk l17 c17 k17, PySem.W.mg_of X G a17, ((fun_mk l17 c17 k17).binds (ps := ["asks", "speed"]) fun _ _ _ _ _ _ us hl => match us, hl with | [_, _], _ => rfl)⟩,
    ⟨_, _, fun_mk l18 c18 k18, PySem.W.mg_of X G a18, ((fun_mk l18 c18 k18).binds (ps := ["room", "each", "speed"]) fun _ _ _ _ _ _ us hl => match us, hl with | [_, _, _], _ => rfl)⟩,
    ⟨_, _, fun_mk l19 c19 k19, PySem.W.mg_of X G a19, ((fun_mk l19 c19 k19).binds (ps := ["script"]) fun _ _ _ _ _ _ us hl => match us, hl with | [_], _ => rfl)⟩,
    ⟨_, _, fun_mk l20 c20 k20, PySem.W.mg_of X G a20, ((fun_mk l20 c20 k20).binds (ps := ["pool", "many"]) fun _ _ _ _ _ _ us hl => match us, hl with | [_, _], _ => rfl)⟩,
    ⟨_, _, fun_mk l21 c21 k21, PySem.W.mg_of X G a21, ((fun_mk l21 c21 k21).binds (ps := ["told", "due"]) fun _ _ _ _ _ _ us hl => match us, hl with | [_, _], _ => rfl)⟩,
    ⟨_, _, fun_mk l22 c22 k22, PySem.W.mg_of X G a22, ((fun_mk l22 c22 k22).binds (ps := ["value"]) fun _ _ _ _ _ _ us hl => match us, hl with | [_], _ => rfl)⟩,
    ⟨_, _, fun_mk l23 c23 k23, PySem.W.mg_of X G a23, ((fun_mk l23 c23 k23).binds (ps := ["room", "each", "asks", "until"]) fun _ _ _ _ _ _ us hl => match us, hl with | [_, _, _, _], _ => rfl)⟩,
    ⟨_, _, fun_mk l24 c24 k24, PySem.W.mg_of X G a24, ((fun_mk l24 c24 k24).binds (ps := ["room", "each", "asks", "until"]) fun _ _ _ _ _ _ us hl => match us, hl with | [_, _, _, _], _ => rfl)⟩,
    ⟨_, _, fun_mk l25 c25 k25, PySem.W.mg_of X G a25, ((fun_mk l25 c25 k25).binds (ps := ["pool", "room", "each", "many", "limit"]) fun _ _ _ _ _ _ us hl => match us, hl with | [_, _, _, _, _], _ => rfl)⟩,
    ⟨_, _, fun_mk l26 c26 k26, PySem.W.mg_of X G a26, ((fun_mk l26 c26 k26).binds (ps := ["asks", "speed"]) fun _ _ _ _ _ _ us hl => match us, hl with | [_, _], _ => rfl)⟩,
    ⟨_, _, fun_mk l27 c27 k27, PySem.W.mg_of X G a27, ((fun_mk l27 c27 k27).binds (ps := ["each", "asks"]) fun _ _ _ _ _ _ us hl => match us, hl with | [_, _], _ => rfl)⟩,
    ⟨_, _, fun_mk l28 c28 k28, PySem.W.mg_of X G a28, ((fun_mk l28 c28 k28).binds (ps := ["pool", "top"]) fun _ _ _ _ _ _ us hl => match us, hl with | [_, _], _ => rfl)⟩,
    ⟨_, _, fun_mk l29 c29 k29, PySem.W.mg_of X G a29, ((fun_mk l29 c29 k29).binds (ps := ["room", "each", "speed"]) fun _ _ _ _ _ _ us hl => match us, hl with | [_, _, _], _ => rfl)⟩,
    ⟨_, _, fun_mk l30 c30 k30, PySem.W.mg_of X G a30, ((fun_mk l30 c30 k30).binds (ps := ["room", "each", "speed"]) fun _ _ _ _ _ _ us hl => match us, hl with | [_, _, _], _ => rfl)⟩,
    ⟨_, _, fun_mk l31 c31 k31, PySem.W.mg_of X G a31, ((fun_mk l31 c31 k31).binds (ps := ["room", "each", "speed"]) fun _ _ _ _ _ _ us hl => match us, hl with | [_, _, _], _ => rfl)⟩,
    ⟨_, _, fun_mk l32 c32 k32, PySem.W.mg_of X G a32, ((fun_mk l32 c32 k32).binds (ps := ["pool", "room", "each", "speed"]) fun _ _ _ _ _ _ us hl => match us, hl with | [_, _, _, _], _ => rfl)⟩,
    ⟨_, _, fun_mk l33 c33 k33, PySem.W.mg_of X G a33, ((fun_mk l33 c33 k33).binds (ps := ["room", "each", "asks"]) fun _ _ _ _ _ _ us hl => match us, hl with | [_, _, _], _ => rfl)⟩,
    ⟨_, _, fun_mk l34 c34 k34, PySem.W.mg_of X G a34, ((fun_mk l34 c34 k34).binds (ps := ["room", "each", "speed", "asks", "longest"]) fun _ _ _ _ _ _ us hl => match us, hl with | [_, _, _, _, _], _ => rfl)⟩,
    ⟨_, _, fun_mk l35 c35 k35, PySem.W.mg_of X G a35, ((fun_mk l35 c35 k35).binds (ps := ["pool", "room", "each", "speed", "kept", "longest"]) fun _ _ _ _ _ _ us hl => match us, hl with | [_, _, _, _, _, _], _ => rfl)⟩,
    ⟨_, _, fun_mk l36 c36 k36, PySem.W.mg_of X G a36, ((fun_mk l36 c36 k36).binds (ps := ["script"]) fun _ _ _ _ _ _ us hl => match us, hl with | [_], _ => rfl)⟩,
    ⟨_, _, fun_mk l18 c18 k18, PySem.W.mg_of X G a18, kb_mk (by decide) fun us ws h1 h2 => match us, ws, h1, h2 with | [], [_, _, _], _, _ => rfl⟩,
    ⟨_, PySem.W.mg_of X G cn_MOST_ASKS, tk_MOST_ASKS, rfl⟩,
    ⟨_, PySem.W.mg_of X G cn_MOST_EACH, tk_MOST_EACH, rfl⟩,
    ⟨_, PySem.W.mg_of X G cn_MOST_MANY, tk_MOST_MANY, rfl⟩,
    ⟨_, PySem.W.mg_of X G cn_MOST_ROOM, tk_MOST_ROOM, rfl⟩,
    ⟨_, PySem.W.mg_of X G cn_MOST_SPEED, tk_MOST_SPEED, rfl⟩,
    ⟨_, PySem.W.mg_of X G cn_MOST_TICK, tk_MOST_TICK, rfl⟩,
    PySem.W.mg_of X G aX_InvalidLot,
    PySem.W.mg_of X G aX_InvalidNumber,
    PySem.W.mg_of X G aX_InvalidRow,
    PySem.W.mg_of X G aX_ServeError,
    PySem.W.mg_of X G aX_TooMany,
    PySem.W.mg_of X G aX_Undefined,
    ⟨⟨⟨nm1, q1, N1, bs1, _, sn1, sub1, ab1, col1, dd1, m01, m11, m21, m31, m51, xL1, by rfl⟩, saX_InvalidNumber, eX_InvalidNumber, tX_InvalidNumber, kcX_InvalidNumber⟩, nfX_InvalidNumber_number, PySem.W.mg_of X G aX_InvalidNumber, f1, _, fun_mk l1 c1 k1, iX_InvalidNumber, tfX_InvalidNumber, ((fun_mk l1 c1 k1).binds (ps := ["self", "number"]) fun _ _ _ _ _ _ us hl => match us, hl with | [_, _], _ => rfl)⟩,
    ⟨⟨⟨nm2, q2, N2, bs2, _, sn2, sub2, ab2, col2, dd2, m02, m12, m22, m32, m52, xL2, by rfl⟩, saX_InvalidRow, eX_InvalidRow, tX_InvalidRow, kcX_InvalidRow⟩, nfX_InvalidRow_place, PySem.W.mg_of X G aX_InvalidRow, f2, _, fun_mk l2 c2 k2, iX_InvalidRow, tfX_InvalidRow, ((fun_mk l2 c2 k2).binds (ps := ["self", "place"]) fun _ _ _ _ _ _ us hl => match us, hl with | [_, _], _ => rfl)⟩,
    ⟨pgC0, hdC0, poC0, saC0⟩,
    PySem.W.mg_of X G aC0,
    na_Bucket_room,
    na_Bucket_each,
    na_Bucket_tokens,
    na_Bucket_tick⟩
  exact ⟨PySem.W.fnOf "law" "law" (defArgs s_law) (defBody s_law) (defScope s_law) .none kV36 dc36 pm36 an36 cd36 ct36, fun s v => .of_eq rfl, fun base _ _ => okF_law T (fun_mk l36 c36 k36)⟩
end K41
open PySem PySem.W PyProof.Rows in
set_option maxRecDepth 100000 in
set_option maxHeartbeats 0 in
theorem PySem.Challenge.cw_everyasked_k41_whole_delays_behind_a_buc_holds : PySem.Challenge.rw_everyasked_k41_whole_delays_behind_a_buc.Holds := by
  w_on; o_law; k_head; (case hw => w_witness2)
  k_fill
  refine L2.walk_of (l := PySem.Challenge.rw_everyasked_k41_whole_delays_behind_a_buc) (n := 63) (k := 10) (x := "script") (CX := fun w => L2.CX PySem.Challenge.rw_everyasked_k41_whole_delays_behind_a_buc.prog w) (sp := fun w => DL.lSp _ K41.spEnd) rfl (by decide) rfl ⟨rfl, by decide, by decide⟩ (fun w h Y => PySem.W.kIn_of Y) ?F (fun _ H a ns hl ho hS => K41.spEnd_at hl hS) (fun _ _ _ _ _ h => DL.cx_no h)
  case F =>
    intro w mg fa h KX G hmg
    refine' K41.all_mk KX G hmg ?aC0 ?aX_ServeError ?aX_InvalidNumber ?aX_InvalidRow ?aX_InvalidLot ?aX_TooMany ?aX_Undefined ?xL1 ?saX_InvalidNumber ?kcX_InvalidNumber ?iX_InvalidNumber ?tfX_InvalidNumber ?l1 ?c1 ?k1 ?eX_InvalidNumber ?tX_InvalidNumber ?nfX_InvalidNumber_number ?xL2 ?saX_InvalidRow ?kcX_InvalidRow ?iX_InvalidRow ?tfX_InvalidRow ?l2 ?c2 ?k2 ?eX_InvalidRow ?tX_InvalidRow ?nfX_InvalidRow_place ?cn_MOST_ROOM ?cn_MOST_EACH ?cn_MOST_ASKS ?cn_MOST_TICK ?cn_MOST_MANY ?cn_MOST_SPEED ?eX_ServeError ?icX_ServeError ?tX_ServeError ?sub_InvalidNumber_ServeError ?ne_InvalidNumber_Undefined ?icX_Undefined ?tX_Undefined ?sub_InvalidNumber_Undefined ?ne_InvalidNumber_TooMany ?icX_TooMany ?tX_TooMany ?sub_InvalidNumber_TooMany ?ne_InvalidNumber_InvalidLot ?icX_InvalidLot ?tX_InvalidLot ?sub_InvalidNumber_InvalidLot ?ne_InvalidNumber_InvalidRow ?icX_InvalidRow ?sub_InvalidNumber_InvalidRow ?caX_InvalidNumber ?cgX ?ctX ?moX_InvalidNumber ?icX_InvalidNumber ?gaX_InvalidNumber ?ggX_InvalidNumber ?hdX_InvalidNumber ?a3 ?l3 ?c3 ?k3 ?a4 ?l4 ?c4 ?k4 ?a5 ?l5 ?c5 ?k5 ?a6 ?l6 ?c6 ?k6 ?a7 ?l7 ?c7 ?k7 ?a8 ?l8 ?c8 ?k8 ?a9 ?l9 ?c9 ?k9 ?a10 ?l10 ?c10 ?k10 ?a11 ?l11 ?c11 ?k11 ?a12 ?i12 ?l12 ?c12 ?k12 ?a13 ?i13 ?l13 ?c13 ?k13 ?a14 ?i14 ?l14 ?c14 ?k14 ?a15 ?l15 ?c15 ?k15 ?a16 ?l16 ?c16 ?k16 ?a17 ?l17 ?c17 ?k17 ?a18 ?l18 ?c18 ?k18 ?a19 ?l19 ?c19 ?k19 ?a20 ?l20 ?c20 ?k20 ?a21 ?l21 ?c21 ?k21 ?a22 ?l22 ?c22 ?k22 ?a23 ?l23 ?c23 ?k23 ?a24 ?l24 ?c24 ?k24 ?a25 ?l25 ?c25 ?k25 ?a26 ?l26 ?c26 ?k26 ?a27 ?l27 ?c27 ?k27 ?a28 ?l28 ?c28 ?k28 ?a29 ?l29 ?c29 ?k29 ?a30 ?l30 ?c30 ?k30 ?a31 ?l31 ?c31 ?k31 ?a32 ?l32 ?c32 ?k32 ?a33 ?l33 ?c33 ?k33 ?a34 ?l34 ?c34 ?k34 ?a35 ?l35 ?c35 ?k35 ?a36 ?l36 ?c36 ?k36 ?pgC0 ?hdC0 ?poC0 ?saC0 ?mkC0 ?kcC0 ?z_bool ?z_enumerate ?z_int ?z_isinstance ?z_len ?z_list ?z_max ?z_min ?z_range ?z_str ?z_sum ?z_tuple ?na_Bucket_room ?na_Bucket_each ?na_Bucket_tokens ?na_Bucket_tick
    (case aC0 => k_is)
    (case aX_ServeError => k_is)
    (case aX_InvalidNumber => k_is)
    (case aX_InvalidRow => k_is)
    (case aX_InvalidLot => k_is)
    (case aX_TooMany => k_is)
    (case aX_Undefined => k_is)
    (case xL1 => k_is)
    (case saX_InvalidNumber => k_is)
    (case kcX_InvalidNumber => k_is)
    (case iX_InvalidNumber => k_is)
    (case tfX_InvalidNumber => k_is)
    (case l1 => k_is)
    (case c1 => k_is)
    (case k1 => k_is)
    (case eX_InvalidNumber => k_is)
    (case tX_InvalidNumber => k_is)
    (case nfX_InvalidNumber_number => k_is)
    (case xL2 => k_is)
    (case saX_InvalidRow => k_is)
    (case kcX_InvalidRow => k_is)
    (case iX_InvalidRow => k_is)
    (case tfX_InvalidRow => k_is)
    (case l2 => k_is)
    (case c2 => k_is)
    (case k2 => k_is)
    (case eX_InvalidRow => k_is)
    (case tX_InvalidRow => k_is)
    (case nfX_InvalidRow_place => k_is)
    (case cn_MOST_ROOM => k_is)
    (case cn_MOST_EACH => k_is)
    (case cn_MOST_ASKS => k_is)
    (case cn_MOST_TICK => k_is)
    (case cn_MOST_MANY => k_is)
    (case cn_MOST_SPEED => k_is)
    (case eX_ServeError => k_is)
    (case icX_ServeError => k_is)
    (case tX_ServeError => k_is)
    (case sub_InvalidNumber_ServeError => k_is)
    (case ne_InvalidNumber_Undefined => decide)
    (case icX_Undefined => k_is)
    (case tX_Undefined => k_is)
    (case sub_InvalidNumber_Undefined => k_is)
    (case ne_InvalidNumber_TooMany => decide)
    (case icX_TooMany => k_is)
    (case tX_TooMany => k_is)
    (case sub_InvalidNumber_TooMany => k_is)
    (case ne_InvalidNumber_InvalidLot => decide)
    (case icX_InvalidLot => k_is)
    (case tX_InvalidLot => k_is)
    (case sub_InvalidNumber_InvalidLot => k_is)
    (case ne_InvalidNumber_InvalidRow => decide)
    (case icX_InvalidRow => k_is)
    (case sub_InvalidNumber_InvalidRow => k_is)
    (case caX_InvalidNumber => k_is)
    (case cgX => k_is)
    (case ctX => k_is)
    (case moX_InvalidNumber => k_is)
    (case icX_InvalidNumber => k_is)
    (case gaX_InvalidNumber => k_is)
    (case ggX_InvalidNumber => k_is)
    (case hdX_InvalidNumber => k_is)
    (case a3 => k_is)
    (case l3 => k_is)
    (case c3 => k_is)
    (case k3 => k_is)
    (case a4 => k_is)
    (case l4 => k_is)
    (case c4 => k_is)
    (case k4 => k_is)
    (case a5 => k_is)
    (case l5 => k_is)
    (case c5 => k_is)
    (case k5 => k_is)
    (case a6 => k_is)
    (case l6 => k_is)
    (case c6 => k_is)
    (case k6 => k_is)
    (case a7 => k_is)
    (case l7 => k_is)
    (case c7 => k_is)
    (case k7 => k_is)
    (case a8 => k_is)
    (case l8 => k_is)
    (case c8 => k_is)
    (case k8 => k_is)
    (case a9 => k_is)
    (case l9 => k_is)
    (case c9 => k_is)
    (case k9 => k_is)
    (case a10 => k_is)
    (case l10 => k_is)
    (case c10 => k_is)
    (case k10 => k_is)
    (case a11 => k_is)
    (case l11 => k_is)
    (case c11 => k_is)
    (case k11 => k_is)
    (case a12 => k_is)
    (case i12 => k_is)
    (case l12 => k_is)
    (case c12 => k_is)
    (case k12 => k_is)
    (case a13 => k_is)
    (case i13 => k_is)
    (case l13 => k_is)
    (case c13 => k_is)
    (case k13 => k_is)
    (case a14 => k_is)
    (case i14 => k_is)
    (case l14 => k_is)
    (case c14 => k_is)
    (case k14 => k_is)
    (case a15 => k_is)
    (case l15 => k_is)
    (case c15 => k_is)
    (case k15 => k_is)
    (case a16 => k_is)
    (case l16 => k_is)
    (case c16 => k_is)
    (case k16 => k_is)
    (case a17 => k_is)
    (case l17 => k_is)
    (case c17 => k_is)
    (case k17 => k_is)
    (case a18 => k_is)
    (case l18 => k_is)
    (case c18 => k_is)
    (case k18 => k_is)
    (case a19 => k_is)
    (case l19 => k_is)
    (case c19 => k_is)
    (case k19 => k_is)
    (case a20 => k_is)
    (case l20 => k_is)
    (case c20 => k_is)
    (case k20 => k_is)
    (case a21 => k_is)
    (case l21 => k_is)
    (case c21 => k_is)
    (case k21 => k_is)
    (case a22 => k_is)
    (case l22 => k_is)
    (case c22 => k_is)
    (case k22 => k_is)
    (case a23 => k_is)
    (case l23 => k_is)
    (case c23 => k_is)
    (case k23 => k_is)
    (case a24 => k_is)
    (case l24 => k_is)
    (case c24 => k_is)
    (case k24 => k_is)
    (case a25 => k_is)
    (case l25 => k_is)
    (case c25 => k_is)
    (case k25 => k_is)
    (case a26 => k_is)
    (case l26 => k_is)
    (case c26 => k_is)
    (case k26 => k_is)
    (case a27 => k_is)
    (case l27 => k_is)
    (case c27 => k_is)
    (case k27 => k_is)
    (case a28 => k_is)
    (case l28 => k_is)
    (case c28 => k_is)
    (case k28 => k_is)
    (case a29 => k_is)
    (case l29 => k_is)
    (case c29 => k_is)
    (case k29 => k_is)
    (case a30 => k_is)
    (case l30 => k_is)
    (case c30 => k_is)
    (case k30 => k_is)
    (case a31 => k_is)
    (case l31 => k_is)
    (case c31 => k_is)
    (case k31 => k_is)
    (case a32 => k_is)
    (case l32 => k_is)
    (case c32 => k_is)
    (case k32 => k_is)
    (case a33 => k_is)
    (case l33 => k_is)
    (case c33 => k_is)
    (case k33 => k_is)
    (case a34 => k_is)
    (case l34 => k_is)
    (case c34 => k_is)
    (case k34 => k_is)
    (case a35 => k_is)
    (case l35 => k_is)
    (case c35 => k_is)
    (case k35 => k_is)
    (case a36 => k_is)
    (case l36 => k_is)
    (case c36 => k_is)
    (case k36 => k_is)
    (case pgC0 => k_is)
    (case hdC0 => k_is)
    (case poC0 => k_is)
    (case saC0 => k_is)
    (case mkC0 => k_is)
    (case kcC0 => k_is)
    (case z_bool => k_is)
    (case z_enumerate => k_is)
    (case z_int => k_is)
    (case z_isinstance => k_is)
    (case z_len => k_is)
    (case z_list => k_is)
    (case z_max => k_is)
    (case z_min => k_is)
    (case z_range => k_is)
    (case z_str => k_is)
    (case z_sum => k_is)
    (case z_tuple => k_is)
    (case na_Bucket_room => k_is)
    (case na_Bucket_each => k_is)
    (case na_Bucket_tokens => k_is)
    (case na_Bucket_tick => k_is)
