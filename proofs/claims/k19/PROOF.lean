import PyProof.Rows.All
import Wide.All
import OpenK.AllK
import Wide.FinOn
import HandS.ForMost
import HandS.ForExc
import HandS.IsInst
import KE.KeyNested
import HandS.Wide
import HandS.SortInts
import HandS.TupAny
import KE.GoesMore
import HandS.TupMul
import HandS.ExcInit
import HandS.ExcField
import HandS.ExcIs
import KE.KExcIs
import HandS.Small
import PyProof.Rows.TupDisplay
import HandS.TupLen
import KE.DataEq
import PyProof.SeqIndex
import KE.DataCmp
import HandS.Ends
import HandS.HotCalls
import KE.KTupSum
import KE.DataMinMax
import PySem.Challenge.RW_everyasked_k19_whole_lane_plans
set_option Elab.async false
set_option linter.all false
set_option maxRecDepth 100000
set_option maxHeartbeats 2000000
/-! The data layer, part a: data trees, the abstract store, what stands for what. -/
namespace DL
open PySem PySem.Spec PyProof.Rows L2

/-- data: trees that never change; ref a: a mutable object of the store -/
inductive D where
  | non | bl (b : Bool) | int (i : Int) | str (x : Str) | ref (a : Addr)
  | lst (xs : List D) | tup (xs : List D) | fro (xs : List D) | obj (C : Addr) (N : List Str) (xs : List D)
  | exc (a dd C : Addr) (f : Str) (x : D)
/-- mutable objects; an instance: the names of its fields, their values -/
inductive MO where
  | lst (xs : List D) | ins (C : Addr) (N : List Str) (xs : List (Option D)) | dK (kvs : List (Key × D)) | dN (a : Addr) (kvs : List (D × D))
abbrev DE := List (Option D)
abbrev Sto := Addr → Option MO
def put (S : Sto) (a : Addr) (m : MO) : Sto := fun b => if b = a then some m else S b
def del (S : Sto) (a : Addr) : Sto := fun b => if b = a then none else S b
theorem put_same {S : Sto} {a : Addr} {m : MO} : put S a m a = some m := if_pos rfl
theorem put_ne {S : Sto} {a b : Addr} {m : MO} (h : b ≠ a) : put S a m b = S b := if_neg h
theorem put_put {S : Sto} {a : Addr} {m n : MO} : put (put S a m) a n = put S a n := by
  funext b; unfold put; split <;> rfl
theorem put_self {S : Sto} {a : Addr} {m : MO} (h : S a = some m) : put S a m = S := by
  funext b; unfold put; split
  · next e => rw [e, h]
  · rfl
theorem del_put {S : Sto} {a : Addr} {m : MO} (h : S a = none) : del (put S a m) a = S := by
  funext b; unfold del put
  by_cases e : b = a
  · rw [if_pos e, e, h]
  · rw [if_neg e, if_neg e]
theorem put_comm {S : Sto} {a b : Addr} {m n : MO} (h : a ≠ b) : put (put S a m) b n = put (put S b n) a m := by
  funext c; unfold put
  by_cases e1 : c = a
  · subst e1; rw [if_pos rfl, if_neg h]; rw [if_pos rfl]
  · by_cases e2 : c = b
    · rw [if_pos e2, if_neg e1, if_pos e2]
    · rw [if_neg e2, if_neg e1, if_neg e1, if_neg e2]
theorem ne_of_S {S : Sto} {a b : Addr} {m : MO} (h : S a = some m) (h' : S b = none) : a ≠ b := by
  intro e; subst e; rw [h] at h'; cases h'

mutual
def Rep (K : PySem.W.Frag) (W : Hp) : D → V → Prop
  | .non, v => v = .non
  | .bl b, v => v = .bl b
  | .int i, v => v = .int i
  | .str x, v => v = .str x
  | .ref a, v => v = .ref a
  | .lst xs, v => ∃ a vs, v = .ref a ∧ W a = some (.lst vs) ∧ Reps K W xs vs
  | .tup xs, v => ∃ a vs, v = .ref a ∧ SqT K W a vs ∧ Reps K W xs vs
  | .fro xs, v => ∃ a vs, v = .ref a ∧ SqL K W a vs ∧ Reps K W xs vs
  | .obj C N xs, v => ∃ a dx gs vs, v = .ref a ∧ W a = some (.ins C dx gs) ∧ (∀ (i : Nat) (f : Str), N[i]? = some f → gs.lookup f = vs[i]?) ∧ (∀ f : Str, f ∉ N → gs.lookup f = none) ∧ Reps K W xs vs
  | .exc a dd C f x, v => v = .ref a ∧ ∃ gs u, W dd = some (.xd gs) ∧ gs.lookup f = some u ∧ Rep K W x u
def Reps (K : PySem.W.Frag) (W : Hp) : List D → List V → Prop
  | [], vs => vs = []
  | d :: ds, vs => ∃ v r, vs = v :: r ∧ Rep K W d v ∧ Reps K W ds r
end
abbrev Repf (K : PySem.W.Frag) (W : Hp) (fs : List (Str × D)) (gs : List (Str × V)) : Prop := ∀ f d, fs.lookup f = some d → ∃ v, gs.lookup f = some v ∧ Rep K W d v
def Repk {κ : Type} (K : PySem.W.Frag) (W : Hp) : List (κ × D) → List (κ × V) → Prop
  | [], gs => gs = []
  | (f, d) :: ds, gs => ∃ v r, gs = (f, v) :: r ∧ Rep K W d v ∧ Repk K W ds r

section
variable {K : PySem.W.Frag} {W W' : Hp}
theorem sqL_mono (e : Same W W') {a : Addr} {vs : List V} (h : SqL K W a vs) : SqL K W' a vs := e.seq h
theorem sqT_mono (e : Same W W') {a : Addr} {vs : List V} (h : SqT K W a vs) : SqT K W' a vs := by
  rcases h with (h | ⟨o, h⟩) | h
  · exact .inl (.inl (e _ _ h))
  · exact .inl (.inr ⟨o, e _ _ h⟩)
  · exact .inr h
mutual
theorem Rep.mono (e : Same W W') : ∀ {d : D} {v : V}, Rep K W d v → Rep K W' d v
  | .non, _, h => h
  | .bl _, _, h => h
  | .int _, _, h => h
  | .str _, _, h => h
  | .ref _, _, h => h
  | .lst _, _, ⟨a, vs, e1, e2, e3⟩ => ⟨a, vs, e1, e _ _ e2, Reps.mono e e3⟩
  | .tup _, _, ⟨a, vs, e1, e2, e3⟩ => ⟨a, vs, e1, sqT_mono e e2, Reps.mono e e3⟩
  | .fro _, _, ⟨a, vs, e1, e2, e3⟩ => ⟨a, vs, e1, sqL_mono e e2, Reps.mono e e3⟩
  | .obj _ _ _, _, ⟨a, dx, gs, vs, e1, e2, e4, e5, e3⟩ => ⟨a, dx, gs, vs, e1, e _ _ e2, e4, e5, Reps.mono e e3⟩
  | .exc _ _ _ _ _, _, ⟨e1, gs, u, e2, e3, e4⟩ => ⟨e1, gs, u, e _ _ e2, e3, Rep.mono e e4⟩
theorem Reps.mono (e : Same W W') : ∀ {ds : List D} {vs : List V}, Reps K W ds vs → Reps K W' ds vs
  | [], _, h => h
  | _ :: _, _, ⟨v, r, e1, e2, e3⟩ => ⟨v, r, e1, Rep.mono e e2, Reps.mono e e3⟩
end
theorem Repk.mono {κ : Type} (e : Same W W') : ∀ {ds : List (κ × D)} {vs : List (κ × V)}, Repk K W ds vs → Repk K W' ds vs
  | [], _, h => h
  | (_, _) :: _, _, ⟨v, r, e1, e2, e3⟩ => ⟨v, r, e1, Rep.mono e e2, Repk.mono e e3⟩
theorem Reps.length : ∀ {ds : List D} {vs : List V}, Reps K W ds vs → vs.length = ds.length
  | [], _, h => by rw [show _ = [] from h]; rfl
  | _ :: ds, _, ⟨v, r, e1, e2, e3⟩ => by
    subst e1
    show r.length + 1 = ds.length + 1
    rw [Reps.length e3]
theorem Reps.get : ∀ {ds : List D} {vs : List V} {i : Nat} {d : D}, Reps K W ds vs → ds[i]? = some d → ∃ v, vs[i]? = some v ∧ Rep K W d v
  | [], _, _, _, _, e => by simp at e
  | _ :: _, _, 0, _, ⟨v, r, e1, e2, e3⟩, e => by
    subst e1
    have e' := Option.some.inj e
    subst e'
    exact ⟨v, rfl, e2⟩
  | _ :: _, _, i + 1, _, ⟨v, r, e1, e2, e3⟩, e => by
    subst e1
    exact Reps.get (i := i) e3 e
theorem Reps.append : ∀ {ds es : List D} {vs ws : List V}, Reps K W ds vs → Reps K W es ws → Reps K W (ds ++ es) (vs ++ ws)
  | [], _, _, _, h, h' => by
    rw [show _ = [] from h]
    exact h'
  | _ :: _, _, _, _, ⟨v, r, e1, e2, e3⟩, h' => by
    subst e1
    exact ⟨v, _, rfl, e2, Reps.append e3 h'⟩
theorem Reps.one {d : D} {v : V} (h : Rep K W d v) : Reps K W [d] [v] := ⟨v, [], rfl, h, rfl⟩
theorem Reps.take : ∀ {ds : List D} {vs : List V} (n : Nat), Reps K W ds vs → Reps K W (ds.take n) (vs.take n)
  | [], _, n, h => by
    rw [show _ = [] from h, List.take_nil, List.take_nil]; rfl
  | _ :: _, _, 0, _ => by rw [List.take_zero, List.take_zero]; rfl
  | _ :: _, _, n + 1, ⟨v, r, e1, e2, e3⟩ => by
    subst e1
    exact ⟨v, _, rfl, e2, Reps.take n e3⟩
theorem Reps.drop : ∀ {ds : List D} {vs : List V} (n : Nat), Reps K W ds vs → Reps K W (ds.drop n) (vs.drop n)
  | [], _, n, h => by
    rw [show _ = [] from h, List.drop_nil, List.drop_nil]; rfl
  | _ :: _, _, 0, h => h
  | _ :: _, _, n + 1, ⟨v, r, e1, e2, e3⟩ => by
    subst e1
    exact Reps.drop n e3
theorem Reps.set {d : D} {v : V} (h : Rep K W d v) : ∀ {ds : List D} {vs : List V} (i : Nat), Reps K W ds vs → Reps K W (ds.set i d) (vs.set i v)
  | [], _, _, h' => by
    rw [show _ = [] from h']; rfl
  | _ :: _, _, 0, ⟨_, r, e1, e2, e3⟩ => by
    subst e1
    exact ⟨v, r, rfl, h, e3⟩
  | _ :: _, _, i + 1, ⟨w, r, e1, e2, e3⟩ => by
    subst e1
    exact ⟨w, _, rfl, e2, Reps.set h i e3⟩
theorem Repf.mono (e : Same W W') {fs : List (Str × D)} {gs : List (Str × V)} (h : Repf K W fs gs) : Repf K W' fs gs := fun f d q => by
  obtain ⟨v, a, b⟩ := h f d q
  exact ⟨v, a, b.mono e⟩
/-- slots of an environment, fields of an instance -/
def getV : DE → Nat → Option D
  | [], _ => none
  | x :: _, 0 => x
  | _ :: r, i + 1 => getV r i
def setV : DE → Nat → D → DE
  | [], _, _ => []
  | _ :: r, 0, d => some d :: r
  | x :: r, i + 1, d => x :: setV r i d
def cntV : DE → Nat
  | [] => 0
  | none :: r => cntV r
  | some _ :: r => cntV r + 1
theorem getV_setV : ∀ {e : DE} {i j : Nat} {d x : D}, getV (setV e i d) j = some x → (j = i ∧ x = d) ∨ (j ≠ i ∧ getV e j = some x)
  | [], _, _, _, _, h => by cases h
  | _ :: r, 0, 0, d, x, h => .inl ⟨rfl, (Option.some.inj h).symm⟩
  | _ :: r, 0, j + 1, d, x, h => .inr ⟨Nat.succ_ne_zero j, h⟩
  | y :: r, i + 1, 0, d, x, h => .inr ⟨(Nat.succ_ne_zero i).symm, h⟩
  | y :: r, i + 1, j + 1, d, x, h => by
    rcases getV_setV (e := r) (i := i) (j := j) h with ⟨a, b⟩ | ⟨a, b⟩
    · exact .inl ⟨by rw [a], b⟩
    · exact .inr ⟨fun z => a (Nat.succ.inj z), b⟩
theorem getV_set_ne : ∀ {e : DE} {i j : Nat} {d : D}, j ≠ i → getV (setV e i d) j = getV e j
  | [], _, _, _, _ => rfl
  | _ :: r, 0, 0, d, h => absurd rfl h
  | _ :: r, 0, j + 1, d, h => rfl
  | y :: r, i + 1, 0, d, h => rfl
  | y :: r, i + 1, j + 1, d, h => getV_set_ne (e := r) (i := i) (j := j) fun z => h (by rw [z])
theorem getV_set_same : ∀ {e : DE} {i : Nat} {d : D}, i < e.length → getV (setV e i d) i = some d
  | [], _, _, h => absurd h (Nat.not_lt_zero _)
  | _ :: r, 0, d, _ => rfl
  | y :: r, i + 1, d, h => getV_set_same (e := r) (i := i) (Nat.lt_of_succ_lt_succ h)
theorem setV_length : ∀ {e : DE} {i : Nat} {d : D}, (setV e i d).length = e.length
  | [], _, _ => rfl
  | _ :: r, 0, d => rfl
  | y :: r, i + 1, d => congrArg (· + 1) (setV_length (e := r) (i := i))
theorem cntV_le : ∀ e : DE, cntV e ≤ e.length
  | [] => Nat.le_refl _
  | none :: r => Nat.le_succ_of_le (cntV_le r)
  | some _ :: r => Nat.succ_le_succ (cntV_le r)
theorem cntV_none : ∀ {e : DE} {i : Nat} {d : D}, i < e.length → getV e i = none → cntV (setV e i d) = cntV e + 1
  | [], _, _, h, _ => absurd h (Nat.not_lt_zero _)
  | none :: r, 0, d, _, _ => rfl
  | some _ :: r, 0, d, _, h => by cases h
  | none :: r, i + 1, d, h, q => cntV_none (e := r) (i := i) (Nat.lt_of_succ_lt_succ h) q
  | some _ :: r, i + 1, d, h, q => congrArg (· + 1) (cntV_none (e := r) (i := i) (Nat.lt_of_succ_lt_succ h) q)
theorem cntV_some : ∀ {e : DE} {i : Nat} {d x : D}, getV e i = some x → cntV (setV e i d) = cntV e
  | [], _, _, _, h => by cases h
  | none :: r, 0, d, _, h => by cases h
  | some _ :: r, 0, d, _, h => rfl
  | none :: r, i + 1, d, _, q => cntV_some (e := r) (i := i) q
  | some _ :: r, i + 1, d, _, q => congrArg (· + 1) (cntV_some (e := r) (i := i) q)
theorem putF_len {f : Str} {v w : V} : ∀ {gs : List (Str × V)}, gs.lookup f = some w → (putF f v gs).length = gs.length
  | [], h => by cases h
  | (g, x) :: r, h => by
    show (if g = f then (g, v) :: r else (g, x) :: putF f v r).length = r.length + 1
    by_cases q : g = f
    · rw [if_pos q]; rfl
    · rw [if_neg q]
      have hb : (f == g) = false := beq_eq_false_iff_ne.mpr fun z => q z.symm
      rw [List.lookup_cons, hb] at h
      show (putF f v r).length + 1 = r.length + 1
      rw [putF_len (gs := r) h]
/-- an instance's fields -/
structure FRep (K : PySem.W.Frag) (W : Hp) (N : List Str) (xs : DE) (gs : List (Str × V)) : Prop where
  nd : N.Nodup
  few : N.length ≤ 900
  len : xs.length = N.length
  is : ∀ (i : Nat) (f : Str) (d : D), N[i]? = some f → getV xs i = some d → ∃ v, gs.lookup f = some v ∧ Rep K W d v
  no : ∀ (i : Nat) (f : Str), N[i]? = some f → getV xs i = none → gs.lookup f = none
  out : ∀ f : Str, f ∉ N → gs.lookup f = none
  cnt : gs.length ≤ cntV xs
theorem FRep.mono (e : Same W W') {N : List Str} {xs : DE} {gs : List (Str × V)} (h : FRep K W N xs gs) : FRep K W' N xs gs :=
  ⟨h.nd, h.few, h.len, fun i f d a b => by
    obtain ⟨v, c, r⟩ := h.is i f d a b
    exact ⟨v, c, r.mono e⟩, h.no, h.out, h.cnt⟩
theorem FRep.lt {N : List Str} {xs : DE} {gs : List (Str × V)} (h : FRep K W N xs gs) : gs.length < 1000 := by
  have a := h.cnt
  have b := cntV_le xs
  have c := h.len
  have d := h.few
  omega
theorem FRep.put {N : List Str} {xs : DE} {gs : List (Str × V)} (h : FRep K W N xs gs) {i : Nat} {f : Str} {d : D} {v : V} (hi : N[i]? = some f) (r : Rep K W d v) : FRep K W N (setV xs i d) (putF f v gs) := by
  have hlt : i < N.length := (List.getElem?_eq_some_iff.mp hi).1
  have hlx : i < xs.length := by rw [h.len]; exact hlt
  refine ⟨h.nd, h.few, by rw [setV_length]; exact h.len, fun j g x hj hx => ?_, fun j g hj hx => ?_, fun g hg => ?_, ?_⟩
  · rw [lookup_putF]
    rcases getV_setV hx with ⟨a, b⟩ | ⟨a, b⟩
    · subst a b
      rw [hi] at hj
      cases hj
      exact ⟨v, if_pos rfl, r⟩
    · have ne : g ≠ f := fun z => a (by subst z; exact nodup_ix h.nd hj hi)
      obtain ⟨w, c, rr⟩ := h.is j g x hj b
      exact ⟨w, by rw [if_neg ne]; exact c, rr⟩
  · rw [lookup_putF]
    by_cases e : j = i
    · subst e
      rw [getV_set_same hlx] at hx
      cases hx
    · rw [getV_set_ne e] at hx
      have ne : g ≠ f := fun z => e (by subst z; exact nodup_ix h.nd hj hi)
      rw [if_neg ne]
      exact h.no j g hj hx
  · have ne : g ≠ f := fun z => hg (by subst z; exact List.mem_of_getElem? hi)
    rw [lookup_putF, if_neg ne]
    exact h.out g hg
  · cases q : getV xs i with
    | none =>
      rw [cntV_none hlx q]
      exact Nat.le_trans (length_putF f v gs) (Nat.succ_le_succ h.cnt)
    | some x =>
      obtain ⟨w, c, _⟩ := h.is i f x hi q
      rw [cntV_some q, putF_len c]
      exact h.cnt
end

/-! ### keys: tuples of ints, bools, None and of such tuples -/
mutual
def nkD : D → Option NestedKey
  | .non => some .none
  | .bl b => some (.num (if b = true then 1 else 0))
  | .int i => some (.num i)
  | .tup xs => (nksD xs).map NestedKey.tup
  | _ => none
def nksD : List D → Option (List NestedKey)
  | [] => some []
  | d :: r => (nkD d).bind fun k => (nksD r).map (k :: ·)
end
mutual
def khash : NestedKey → Int
  | .none => reduceHash 0xFCA86420
  | .num i => hashInt i
  | .text _ => 0
  | .tup ks => reduceHash (Builtin.Tuple.tupleHashOf (khashes ks))
def khashes : List NestedKey → List Int
  | [] => []
  | k :: ks => khash k :: khashes ks
end
/-- a dict's object: its entries -/
def dnP (a : Addr) (xs : List (NestedKey × Addr × Value)) : Heap → Prop := fun h => ∃ ob es ep, h.get? a = some ob ∧ ob.ExactDict ∧ ob.data = .dict es ep ∧ es.toList = xs.map fun x => ⟨khash x.1, .ref x.2.1, x.2.2⟩
def DN (K : PySem.W.Frag) (W : Hp) : List (D × D) → List (NestedKey × Addr × Value) → Prop
  | [], xs => xs = []
  | p :: r, xs => ∃ k b u v r', xs = (k, b, u) :: r' ∧ (nkD p.1 = some k ∧ k.depth ≤ 8) ∧ Rep K W p.1 (.ref b) ∧ (Rep K W p.2 v ∧ RelV v u) ∧ DN K W r r'
theorem DN.mono {K : PySem.W.Frag} {W W' : Hp} (e : Same W W') : ∀ {ds : List (D × D)} {xs : List (NestedKey × Addr × Value)}, DN K W ds xs → DN K W' ds xs
  | [], _, h => h
  | _ :: _, _, ⟨k, b, u, v, r', e1, e2, e3, ⟨e4, e5⟩, e6⟩ => ⟨k, b, u, v, r', e1, e2, e3.mono e, ⟨e4.mono e, e5⟩, DN.mono e e6⟩
/-- what stands at a mutable object's address -/
def MRep (K : PySem.W.Frag) (W : Hp) : MO → HO → Prop
  | .lst xs, o => ∃ vs, o = .lst vs ∧ Reps K W xs vs
  | .ins C N xs, o => ∃ dx gs, o = .ins C dx gs ∧ FRep K W N xs gs
  | .dK kvs, o => ∃ ws, o = .dK ws ∧ Repk K W kvs ws
  | .dN a kvs, o => ∃ xs, o = .ext (dnP a xs) ∧ (kvs.length ≤ sizeLine ∧ (a == sysModules) = false ∧ (xs.map (·.1)).Nodup) ∧ DN K W kvs xs
theorem MRep.mono {K : PySem.W.Frag} {W W' : Hp} (e : Same W W') : ∀ {m : MO} {o : HO}, MRep K W m o → MRep K W' m o
  | .lst _, _, ⟨vs, e1, e2⟩ => ⟨vs, e1, Reps.mono e e2⟩
  | .ins _ _ _, _, ⟨dx, gs, e1, e2⟩ => ⟨dx, gs, e1, e2.mono e⟩
  | .dK _, _, ⟨ws, e1, e2⟩ => ⟨ws, e1, Repk.mono e e2⟩
  | .dN _ _, _, ⟨xs, e1, z, e2⟩ => ⟨xs, e1, z, DN.mono e e2⟩
/-- the heap: what is seen and never changes (W), the store (S) -/
structure Ok (K : PySem.W.Frag) (W : Hp) (S : Sto) (H : Hp) : Prop where
  vis : Same W H
  sto : ∀ a m, S a = some m → ∃ o, H a = some o ∧ MRep K W m o
  sep : ∀ a m, S a = some m → W a = none
def delV : DE → Nat → DE
  | [], _ => []
  | _ :: r, 0 => none :: r
  | x :: r, i + 1 => x :: delV r i
def Sl (K : PySem.W.Frag) (W : Hp) (e : DE) (σ : L2.St) : Prop := ∀ i d, getV e i = some d → ∃ v, σ[i]? = some (some v) ∧ Rep K W d v
theorem getV_delV : ∀ {e : DE} {i j : Nat} {x : D}, getV (delV e i) j = some x → j ≠ i ∧ getV e j = some x
  | [], _, _, _, h => by cases h
  | _ :: r, 0, 0, x, h => by cases h
  | _ :: r, 0, j + 1, x, h => ⟨Nat.succ_ne_zero j, h⟩
  | y :: r, i + 1, 0, x, h => ⟨(Nat.succ_ne_zero i).symm, h⟩
  | y :: r, i + 1, j + 1, x, h => by
    obtain ⟨a, b⟩ := getV_delV (e := r) (i := i) (j := j) h
    exact ⟨fun z => a (Nat.succ.inj z), b⟩
section
variable {K : PySem.W.Frag} {W W' : Hp} {S : Sto} {H : Hp} {e : DE} {σ : L2.St}
theorem Sl.mono (z : Same W W') (h : Sl K W e σ) : Sl K W' e σ := fun i d q => by
  obtain ⟨v, a, b⟩ := h i d q
  exact ⟨v, a, b.mono z⟩
theorem lt_of_some {α : Type} {l : List α} {i : Nat} {x : α} (h : l[i]? = some x) : i < l.length := (List.getElem?_eq_some_iff.mp h).1
theorem Sl.set {i : Nat} {d : D} {v : V} (h : Sl K W e σ) (hi : i < σ.length) (r : Rep K W d v) : Sl K W (setV e i d) (σ.set i (some v)) := fun j x q => by
  rcases getV_setV q with ⟨a, b⟩ | ⟨a, b⟩
  · subst a b
    exact ⟨v, List.getElem?_set_self hi, r⟩
  · obtain ⟨w, c, f⟩ := h j x b
    exact ⟨w, by rw [List.getElem?_set_ne (Ne.symm a)]; exact c, f⟩
theorem Ok.fresh (ok : Ok K W S H) {p : Addr} (h : H p = none) : W p = none ∧ S p = none := by
  constructor
  · cases q : W p with
    | none => rfl
    | some o => rw [ok.vis _ _ q] at h; cases h
  · cases q : S p with
    | none => rfl
    | some m =>
      obtain ⟨o, e, _⟩ := ok.sto _ _ q
      rw [e] at h; cases h
theorem same_new {p : Addr} {o : HO} (h : W p = none) : Same W (upd W p o) := fun b x e => by
  rw [upd_ne (ne_of_none e h)]
  exact e
/-- a new object that never changes -/
theorem Ok.newW (ok : Ok K W S H) {p : Addr} {o : HO} (h : H p = none) : Ok K (upd W p o) S (upd H p o) := by
  obtain ⟨hW, hS⟩ := ok.fresh h
  refine ⟨fun b x e => ?_, fun a m e => ?_, fun a m e => ?_⟩
  · by_cases q : b = p
    · subst q; rw [upd_same] at e ⊢; exact e
    · rw [upd_ne q] at e ⊢; exact ok.vis _ _ e
  · obtain ⟨x, e1, e2⟩ := ok.sto _ _ e
    refine ⟨x, ?_, e2.mono (same_new hW)⟩
    rw [upd_ne (ne_of_S e hS)]; exact e1
  · rw [upd_ne (ne_of_S e hS)]; exact ok.sep _ _ e
/-- a new mutable object -/
theorem Ok.newS (ok : Ok K W S H) {p : Addr} {o : HO} {m : MO} (h : H p = none) (r : MRep K W m o) : Ok K W (put S p m) (upd H p o) := by
  obtain ⟨hW, hS⟩ := ok.fresh h
  refine ⟨fun b x e => ?_, fun a n e => ?_, fun a n e => ?_⟩
  · rw [upd_ne (ne_of_none e hW)]; exact ok.vis _ _ e
  · by_cases q : a = p
    · subst q
      rw [put_same] at e
      cases e
      exact ⟨o, upd_same, r⟩
    · rw [put_ne q] at e
      obtain ⟨x, e1, e2⟩ := ok.sto _ _ e
      exact ⟨x, by rw [upd_ne q]; exact e1, e2⟩
  · by_cases q : a = p
    · subst q; exact hW
    · rw [put_ne q] at e; exact ok.sep _ _ e
/-- a mutable object changes -/
theorem Ok.chg (ok : Ok K W S H) {p : Addr} {o : HO} {m m0 : MO} (h : S p = some m0) (r : MRep K W m o) : Ok K W (put S p m) (upd H p o) := by
  have hW := ok.sep _ _ h
  refine ⟨fun b x e => ?_, fun a n e => ?_, fun a n e => ?_⟩
  · rw [upd_ne (ne_of_none e hW)]; exact ok.vis _ _ e
  · by_cases q : a = p
    · subst q
      rw [put_same] at e
      cases e
      exact ⟨o, upd_same, r⟩
    · rw [put_ne q] at e
      obtain ⟨x, e1, e2⟩ := ok.sto _ _ e
      exact ⟨x, by rw [upd_ne q]; exact e1, e2⟩
  · by_cases q : a = p
    · subst q; exact hW
    · rw [put_ne q] at e; exact ok.sep _ _ e
/-- a mutable object is thrown out of the store -/
theorem Ok.less (ok : Ok K W S H) {S' : Sto} (h : ∀ a m, S' a = some m → S a = some m) : Ok K W S' H :=
  ⟨ok.vis, fun a m e => ok.sto a m (h a m e), fun a m e => ok.sep a m (h a m e)⟩
theorem Ok.del (ok : Ok K W S H) (a : Addr) : Ok K W (del S a) H := ok.less fun b m e => by
  unfold DL.del at e
  by_cases q : b = a
  · rw [if_pos q] at e; cases e
  · rw [if_neg q] at e; exact e
/-- a mutable object never changes again -/
theorem Ok.frz (ok : Ok K W S H) {a : Addr} {m : MO} {o : HO} (h : S a = some m) (ho : H a = some o) : Ok K (upd W a o) (DL.del S a) H := by
  have hW := ok.sep _ _ h
  refine ⟨fun b x e => ?_, fun b n e => ?_, fun b n e => ?_⟩
  · by_cases q : b = a
    · subst q; rw [upd_same] at e; cases e; exact ho
    · rw [upd_ne q] at e; exact ok.vis _ _ e
  · unfold DL.del at e
    by_cases q : b = a
    · rw [if_pos q] at e; cases e
    · rw [if_neg q] at e
      obtain ⟨x, e1, e2⟩ := ok.sto _ _ e
      exact ⟨x, e1, e2.mono (same_new hW)⟩
  · unfold DL.del at e
    by_cases q : b = a
    · rw [if_pos q] at e; cases e
    · rw [if_neg q] at e
      rw [upd_ne q]; exact ok.sep _ _ e
end
end DL
set_option Elab.async false
set_option linter.all false
set_option maxRecDepth 100000
set_option maxHeartbeats 2000000
/-! The data layer, part b: judgements over data, expressions, statements, calls. -/
namespace DL
open PySem PySem.Spec PyProof.Rows L2

/-- what a step keeps: what is seen, and what belongs to nobody here -/
structure Stp (W : Hp) (S : Sto) (H : Hp) (W' : Hp) (S' : Sto) (H' : Hp) : Prop where
  vis : Same W W'
  frm : ∀ a o, H a = some o → W a = none → S a = none → H' a = some o ∧ W' a = none ∧ S' a = none
theorem Stp.refl {W : Hp} {S : Sto} {H : Hp} : Stp W S H W S H := ⟨Same.refl W, fun _ _ h1 h2 h3 => ⟨h1, h2, h3⟩⟩
theorem Stp.trans {W W1 W2 : Hp} {S S1 S2 : Sto} {H H1 H2 : Hp} (a : Stp W S H W1 S1 H1) (b : Stp W1 S1 H1 W2 S2 H2) : Stp W S H W2 S2 H2 :=
  ⟨a.vis.trans b.vis, fun p o h1 h2 h3 => let ⟨x, y, z⟩ := a.frm p o h1 h2 h3; b.frm p o x y z⟩
section
variable {K : PySem.W.Frag} {W : Hp} {S : Sto} {H : Hp} {p : Addr} {o : HO} {m m0 : MO}
theorem Ok.stW (ok : Ok K W S H) (h : H p = none) : Stp W S H (upd W p o) S (upd H p o) :=
  ⟨same_new (ok.fresh h).1, fun a x h1 h2 h3 => by
    have ne : a ≠ p := ne_of_none h1 h
    exact ⟨by rw [upd_ne ne]; exact h1, by rw [upd_ne ne]; exact h2, h3⟩⟩
theorem Ok.stS (ok : Ok K W S H) (h : H p = none) : Stp W S H W (put S p m) (upd H p o) :=
  ⟨Same.refl W, fun a x h1 h2 h3 => by
    have ne : a ≠ p := ne_of_none h1 h
    exact ⟨by rw [upd_ne ne]; exact h1, h2, by rw [put_ne ne]; exact h3⟩⟩
theorem Ok.stJ (ok : Ok K W S H) (h : H p = none) : Stp W S H W S (upd H p o) :=
  ⟨Same.refl W, fun a x h1 h2 h3 => ⟨by rw [upd_ne (ne_of_none h1 h)]; exact h1, h2, h3⟩⟩
theorem Ok.stC (ok : Ok K W S H) (h : S p = some m0) : Stp W S H W (put S p m) (upd H p o) :=
  ⟨Same.refl W, fun a x h1 h2 h3 => by
    have ne : a ≠ p := fun e => by subst e; rw [h] at h3; cases h3
    exact ⟨by rw [upd_ne ne]; exact h1, h2, by rw [put_ne ne]; exact h3⟩⟩
theorem Ok.stF (ok : Ok K W S H) (h : S p = some m0) : Stp W S H (upd W p o) (DL.del S p) H :=
  ⟨same_new (ok.sep _ _ h), fun a x h1 h2 h3 => by
    have ne : a ≠ p := fun e => by subst e; rw [h] at h3; cases h3
    exact ⟨h1, by rw [upd_ne ne]; exact h2, by unfold DL.del; rw [if_neg ne]; exact h3⟩⟩
end
abbrev XQ := Addr → List (Str × D) → Sto → Prop
abbrev Qd := D → Sto → Prop
abbrev WPe := DE → Sto → Qd → XQ → Prop
abbrev WPt := DE → Sto → (Bool → Sto → Prop) → XQ → Prop
abbrev WPa := DE → Sto → (List D → Sto → Prop) → XQ → Prop
structure QS where
  nx : DE → Sto → Prop
  rt : D → Sto → Prop
  bk : DE → Sto → Prop
  ct : DE → Sto → Prop
  xc : Addr → List (Str × D) → DE → Sto → Prop
abbrev WPs := DE → Sto → QS → Prop
abbrev Ctr := List D → Sto → Qd → XQ → Prop
def X0 : XQ := fun _ _ _ => False
def some! {α : Type} (o : Option α) (k : α → Prop) : Prop := match o with | some a => k a | none => False
theorem some!_ex {α : Type} {o : Option α} {k : α → Prop} (h : some! o k) : ∃ a, o = some a ∧ k a := by
  cases o with
  | none => exact h.elim
  | some a => exact ⟨a, rfl, h⟩

section
variable (K : PySem.W.Frag)
def CV (W : Hp) (S : Sto) (H : Hp) (Q0 : Qd) (Q : VK) : Prop := ∀ d S' v W' H', Q0 d S' → Stp W S H W' S' H' → Ok K W' S' H' → Rep K W' d v → Q v H'
def CVs (W : Hp) (S : Sto) (H : Hp) (Q0 : List D → Sto → Prop) (Q : List V → Hp → Prop) : Prop := ∀ d S' v W' H', Q0 d S' → Stp W S H W' S' H' → Ok K W' S' H' → Reps K W' d v → Q v H'
def CB (W : Hp) (S : Sto) (H : Hp) (Q0 : Bool → Sto → Prop) (Q : Bool → Hp → Prop) : Prop := ∀ b S' W' H', Q0 b S' → Stp W S H W' S' H' → Ok K W' S' H' → Q b H'
def CXc (W : Hp) (S : Sto) (H : Hp) (X0 : XQ) (E : XK) : Prop := ∀ C fs S' dd gs W' H', X0 C fs S' → Stp W S H W' S' H' → Ok K W' S' H' → W' dd = some (.xd gs) → Repf K W' fs gs → E (.ref C) (some dd) H'
def lE (Wx : WX) (w : WPe) : TE := fun σ H Q => ∃ W env S Q0 X0, Ok K W S H ∧ Sl K W env σ ∧ w env S Q0 X0 ∧ CV K W S H Q0 Q ∧ CXc K W S H X0 (fun c d H' => Wx c d σ H')
def lT (Wx : WX) (w : WPt) : TT := fun σ H Q => ∃ W env S Q0 X0, Ok K W S H ∧ Sl K W env σ ∧ w env S Q0 X0 ∧ CB K W S H Q0 Q ∧ CXc K W S H X0 (fun c d H' => Wx c d σ H')
def lA (Wx : WX) (w : WPa) : TA := fun σ H Q => ∃ W env S Q0 X0, Ok K W S H ∧ Sl K W env σ ∧ w env S Q0 X0 ∧ CVs K W S H Q0 Q ∧ CXc K W S H X0 (fun c d H' => Wx c d σ H')
structure CS (Wx : WX) (W : Hp) (S : Sto) (H : Hp) (q : QS) (D : Ends) : Prop where
  nx : ∀ e S' σ' W' H', q.nx e S' → Stp W S H W' S' H' → Ok K W' S' H' → Sl K W' e σ' → D.nx σ' H'
  rt : ∀ d S' v W' H', q.rt d S' → Stp W S H W' S' H' → Ok K W' S' H' → Rep K W' d v → D.rt v H'
  bk : ∀ e S' σ' W' H', q.bk e S' → Stp W S H W' S' H' → Ok K W' S' H' → Sl K W' e σ' → D.bk σ' H'
  ct : ∀ e S' σ' W' H', q.ct e S' → Stp W S H W' S' H' → Ok K W' S' H' → Sl K W' e σ' → D.ct σ' H'
  xc : ∀ C fs e S' dd gs σ' W' H', q.xc C fs e S' → Stp W S H W' S' H' → Ok K W' S' H' → Sl K W' e σ' → W' dd = some (.xd gs) → Repf K W' fs gs → Wx (.ref C) (some dd) σ' H'
def lS (Wx : WX) (n : Nat) (w : WPs) : TS := fun D σ H => ∃ W env S q, Ok K W S H ∧ Sl K W env σ ∧ σ.length = n ∧ w env S q ∧ CS K Wx W S H q { D with nx := fun σ' H' => σ'.length = n → D.nx σ' H', bk := fun σ' H' => σ'.length = n → D.bk σ' H', ct := fun σ' H' => σ'.length = n → D.ct σ' H' }
def lSp (spec : Ctr) : Sp := fun vs H Q E => ∃ W S ds Q0 X0, Ok K W S H ∧ Reps K W ds vs ∧ spec ds S Q0 X0 ∧ CV K W S H Q0 Q ∧ CXc K W S H X0 E
/-- an operation on two values -/
abbrev O2 := Sto → D → D → Qd → Prop
def lOp (o : O2) : R2 := fun x y H Q => ∃ W S a b Q0, Ok K W S H ∧ Rep K W a x ∧ Rep K W b y ∧ o S a b Q0 ∧ CV K W S H Q0 Q
/-- a call of a built-in on values -/
abbrev OC := Sto → List D → Qd → Prop
def lC (o : OC) : List V → Hp → VK → Prop := fun xs H Q => ∃ W S ds Q0, Ok K W S H ∧ Reps K W ds xs ∧ o S ds Q0 ∧ CV K W S H Q0 Q
/-- a method of a built-in type: may change the store -/
abbrev OM := Sto → D → List D → Qd → Prop
end
section
variable {K : PySem.W.Frag} {W W' : Hp} {S S2 : Sto} {H H2 : Hp}
theorem CV.mono {Q0 : Qd} {Q : VK} (e : Stp W S H W' S2 H2) (h : CV K W S H Q0 Q) : CV K W' S2 H2 Q0 Q := fun d S' v W2 H' q s => h d S' v W2 H' q (e.trans s)
theorem CXc.mono {X0 : XQ} {E : XK} (e : Stp W S H W' S2 H2) (h : CXc K W S H X0 E) : CXc K W' S2 H2 X0 E := fun C fs S' dd gs W2 H' q s => h C fs S' dd gs W2 H' q (e.trans s)
theorem CXc.no {E : XK} : CXc K W S H X0 E := fun _ _ _ _ _ _ _ h => h.elim
theorem CS.mono {Wx : WX} {q : QS} {D : Ends} (e : Stp W S H W' S2 H2) (h : CS K Wx W S H q D) : CS K Wx W' S2 H2 q D :=
  ⟨fun a b c d f g s => h.nx a b c d f g (e.trans s), fun a b c d f g s => h.rt a b c d f g (e.trans s), fun a b c d f g s => h.bk a b c d f g (e.trans s), fun a b c d f g s => h.ct a b c d f g (e.trans s),
    fun a b c d f g i j k l s => h.xc a b c d f g i j k l (e.trans s)⟩
end

section
variable (X : Cx)
structure PD (e : Expr) (w : WPe) : Prop where
  run : ∀ Wx, Takes X Wx → PE X e (lE X.K Wx w)
structure PDt (e : Expr) (w : WPt) : Prop where
  run : ∀ Wx, Takes X Wx → PT X e (lT X.K Wx w)
structure PDw (e : Expr) (w : WPt) : Prop where
  run : ∀ Wx, Takes X Wx → PW X e (lT X.K Wx w)
structure PDa (es : List Expr) (w : WPa) : Prop where
  run : ∀ Wx, Takes X Wx → PA X es (lA X.K Wx w)
structure PDs (st : Stmt) (w : WPs) : Prop where
  run : ∀ Wx, Takes X Wx → PS X st (lS X.K Wx X.N.length w)
structure PDss (st : List Stmt) (w : WPs) : Prop where
  run : ∀ Wx, Takes X Wx → PSs X st (lS X.K Wx X.N.length w)
end
section
variable {X : Cx} {e a b c : Expr} {es : List Expr} {pos : Pos}
theorem PE.imp {t t' : TE} (h : PE X e t) (i : ∀ σ H Q, t' σ H Q → t σ H Q) : PE X e t' := ⟨fun pins s σ H Q I q => h.run pins s σ H Q I (i σ H Q q)⟩
theorem PT.imp {t t' : TT} (h : PT X e t) (i : ∀ σ H Q, t' σ H Q → t σ H Q) : PT X e t' := ⟨fun pins s σ H Q I q => h.run pins s σ H Q I (i σ H Q q)⟩
theorem PW.imp {t t' : TT} (h : PW X e t) (i : ∀ σ H Q, t' σ H Q → t σ H Q) : PW X e t' := ⟨fun wh pins s σ H Q I q => h.run wh pins s σ H Q I (i σ H Q q)⟩
theorem PA.imp {t t' : TA} (h : PA X es t) (i : ∀ σ H Q, t' σ H Q → t σ H Q) : PA X es t' := ⟨fun po pins s σ H Q I q => h.run po pins s σ H Q I (i σ H Q q)⟩
theorem PS.imp {st : Stmt} {t t' : TS} (h : PS X st t) (i : ∀ D σ H, t' D σ H → t D σ H) : PS X st t' := ⟨fun pins s σ H D I q => h.run pins s σ H D I (i D σ H q)⟩
theorem PSs.imp {st : List Stmt} {t t' : TS} (h : PSs X st t) (i : ∀ D σ H, t' D σ H → t D σ H) : PSs X st t' := ⟨fun pins s σ H D I q => h.run pins s σ H D I (i D σ H q)⟩

/-! ### names, constants -/
def wVar (i : Nat) : WPe := fun env S Q _ => some! (getV env i) fun d => Q d S
def wC (d : D) : WPe := fun _ S Q _ => Q d S
theorem pd_var (i : Nat) {x : Str} (hN : X.N[i]? = some x := by rfl) (hv : Vis X.env.scope x := by first | exact Or.inl rfl | exact Or.inr (Or.inl rfl) | exact Or.inr (Or.inr rfl)) (hd : (x == ("__debug__" : Str)) = false := by decide)
    (hcd : (x == ("__classdict__" : Str)) = false := by decide) : PD X (.Name x pos) (wVar i) := ⟨fun Wx tk => PE.imp (pe_var hN hv hd hcd) fun σ H Q ⟨W, env, S, Q0, X1, ok, sl, hw, cv, cx⟩ => by
  obtain ⟨d, hd, q⟩ := some!_ex hw
  obtain ⟨v, hv, r⟩ := sl i d hd
  exact ⟨v, hv, cv d S v W H q Stp.refl ok r⟩⟩
theorem pd_c {d : D} {v : V} (h : PE X e (tC v)) (r : ∀ W, Rep X.K W d v) : PD X e (wC d) := ⟨fun Wx tk => PE.imp h fun σ H Q ⟨W, env, S, Q0, X1, ok, sl, hw, cv, cx⟩ => cv d S v W H hw Stp.refl ok (r W)⟩
theorem pd_int {i : Int} {j : Nat} : PD X (.Constant (.int i) j pos) (wC (.int i)) := pd_c pe_int fun _ => rfl
theorem pd_bl {i : Bool} {j : Nat} : PD X (.Constant (.bool i) j pos) (wC (.bl i)) := pd_c pe_bl fun _ => rfl
theorem pd_non {j : Nat} : PD X (.Constant .none j pos) (wC .non) := pd_c pe_non fun _ => rfl
theorem pd_str {x : Str} {j : Nat} : PD X (.Constant (.str x) j pos) (wC (.str x)) := pd_c pe_str fun _ => rfl

/-! ### two places, one place -/
def wBin (o : O2) (wa wb : WPe) : WPe := fun env S Q X => wa env S (fun x S1 => wb env S1 (fun y S2 => o S2 x y Q) X) X
theorem bin_go {K : PySem.W.Frag} {Wx : WX} {o : O2} {wa wb : WPe} {σ : L2.St} {H : Hp} {Q : VK} (h : lE K Wx (wBin o wa wb) σ H Q) : tOp (lOp K o) (lE K Wx wa) (lE K Wx wb) σ H Q := by
  obtain ⟨W, env, S, Q0, X1, ok, sl, hw, cv, cx⟩ := h
  refine ⟨W, env, S, _, X1, ok, sl, hw, fun x S1 v W1 H1 h1 s1 ok1 r1 => ?_, cx⟩
  refine ⟨W1, env, S1, _, X1, ok1, sl.mono s1.vis, h1, fun y S2 u W2 H2 h2 s2 ok2 r2 => ?_, cx.mono s1⟩
  exact ⟨W2, S2, x, y, Q0, ok2, r1.mono s2.vis, r2, h2, cv.mono (s1.trans s2)⟩
theorem pd_op {op : Operator} {o : O2} {wa wb : WPe} (ho : OpR X (binaryOp op) (lOp X.K o)) (ha : PD X a wa) (hb : PD X b wb) : PD X (.BinOp a op b pos) (wBin o wa wb) :=
  ⟨fun Wx tk => PE.imp (pe_op ho (ha.run Wx tk) (hb.run Wx tk)) fun _ _ _ h => bin_go h⟩
theorem pd_cmp {op : CmpOp} {o : O2} {wa wb : WPe} (ho : OpR X (compareOp op) (lOp X.K o)) (ha : PD X a wa) (hb : PD X b wb) (hm : behindInMarks op b = false) : PD X (.Compare a [op] [b] pos) (wBin o wa wb) :=
  ⟨fun Wx tk => PE.imp (pe_cmpR ho (ha.run Wx tk) (hb.run Wx tk) hm) fun _ _ _ h => bin_go h⟩
theorem pd_ix {o : O2} {wa wb : WPe} (hr : IxR X (lOp X.K o)) (ha : PD X a wa) (hb : PD X b wb) (hs : PlainIx b := by exact fun _ _ => rfl) : PD X (.Subscript a b pos) (wBin o wa wb) :=
  ⟨fun Wx tk => PE.imp (pe_ix hr (ha.run Wx tk) (hb.run Wx tk) hs) fun _ _ _ h => bin_go h⟩
abbrev O1 := Sto → D → Qd → Prop
def lU (K : PySem.W.Frag) (o : O1) : V → Hp → VK → Prop := fun x H Q => ∃ W S a Q0, Ok K W S H ∧ Rep K W a x ∧ o S a Q0 ∧ CV K W S H Q0 Q
def wUn (o : O1) (wa : WPe) : WPe := fun env S Q X => wa env S (fun x S1 => o S1 x Q) X
theorem pd_un {op : UnaryOp} {o : O1} {wa : WPe} (ho : UnR X (unaryOp op) (lU X.K o)) (ha : PD X a wa) : PD X (.UnaryOp op a pos) (wUn o wa) :=
  ⟨fun Wx tk => PE.imp (pe_un ho (ha.run Wx tk)) fun σ H Q ⟨W, env, S, Q0, X1, ok, sl, hw, cv, cx⟩ => ⟨W, env, S, _, X1, ok, sl, hw, fun x S1 v W1 H1 h1 s1 ok1 r1 => ⟨W1, S1, x, Q0, ok1, r1, h1, cv.mono s1⟩, cx⟩⟩
/-! ### tests -/
def wTest (w : WPe) : WPt := fun env S Q X => w env S (fun d S' => match d with | .bl b => Q b S' | _ => False) X
/-- a comparison as a test -/
theorem pdt_cmp {op : CmpOp} {o : O2} {wa wb : WPe} (ho : OpR X (compareOp op) (lOp X.K o)) (ha : PD X a wa) (hb : PD X b wb) (hm : behindInMarks op b = false) : PDt X (.Compare a [op] [b] pos) (wTest (wBin o wa wb)) :=
  ⟨fun Wx tk => PT.imp (pt_cmpR ho (ha.run Wx tk) (hb.run Wx tk) hm) fun σ H Q ⟨W, env, S, Q0, X1, ok, sl, hw, cv, cx⟩ => bin_go ⟨W, env, S, _, X1, ok, sl, hw, fun d S1 v W1 H1 h1 s1 ok1 r1 => by
    cases d with
    | bl k =>
      have e : v = .bl k := r1
      exact ⟨k, e, cv k S1 W1 H1 h1 s1 ok1⟩
    | _ => exact h1.elim, cx⟩⟩
/-- an expression whose value is a bool -/
theorem pdt_val {w : WPe} (h : PD X e w) (he : ∀ whole, isTrue e X.env whole = (do let v ← whole; standAt e.pos; holding [v] (truthy v)) := by intro _; rfl) : PDt X e (wTest w) :=
  ⟨fun Wx tk => PT.imp (pt_val (h.run Wx tk) he) fun σ H Q ⟨W, env, S, Q0, X1, ok, sl, hw, cv, cx⟩ => ⟨W, env, S, _, X1, ok, sl, hw, fun d S1 v W1 H1 h1 s1 ok1 r1 => by
    cases d with
    | bl k =>
      have e : v = .bl k := r1
      exact ⟨k, e, cv k S1 W1 H1 h1 s1 ok1⟩
    | _ => exact h1.elim, cx⟩⟩
def wAnd (w u : WPt) : WPt := fun env S Q X => w env S (fun b S1 => if b = true then u env S1 Q X else Q false S1) X
def wOr (w u : WPt) : WPt := fun env S Q X => w env S (fun b S1 => if b = true then Q true S1 else u env S1 Q X) X
def wNot (w : WPt) : WPt := fun env S Q X => w env S (fun b S1 => Q (!b) S1) X
variable {wa wb wc : WPe} {ta tb : WPt} {rest : List Expr}
theorem pdw_and1 (ha : PDt X a ta) : PDw X (.BoolOp .And [a] pos) ta := ⟨fun Wx tk => pw_and1 (ha.run Wx tk)⟩
theorem pdw_or1 (ha : PDt X a ta) : PDw X (.BoolOp .Or [a] pos) ta := ⟨fun Wx tk => pw_or1 (ha.run Wx tk)⟩
theorem pdw_and (ha : PDt X a ta) (hb : PDw X (.BoolOp .And (b :: rest) pos) tb) : PDw X (.BoolOp .And (a :: b :: rest) pos) (wAnd ta tb) :=
  ⟨fun Wx tk => PW.imp (pw_and (ha.run Wx tk) (hb.run Wx tk)) fun σ H Q ⟨W, env, S, Q0, X1, ok, sl, hw, cv, cx⟩ => ⟨W, env, S, _, X1, ok, sl, hw, fun k S1 W1 H1 h1 s1 ok1 => by
    cases k with
    | true => exact iteT ⟨W1, env, S1, Q0, X1, ok1, sl.mono s1.vis, (if_pos rfl).mp h1, fun b2 S2 W2 H2 q2 s2 => cv b2 S2 W2 H2 q2 (s1.trans s2), cx.mono s1⟩
    | false => exact iteF (cv false S1 W1 H1 ((if_neg Bool.false_ne_true).mp h1) s1 ok1), cx⟩⟩
theorem pdw_or (ha : PDt X a ta) (hb : PDw X (.BoolOp .Or (b :: rest) pos) tb) : PDw X (.BoolOp .Or (a :: b :: rest) pos) (wOr ta tb) :=
  ⟨fun Wx tk => PW.imp (pw_or (ha.run Wx tk) (hb.run Wx tk)) fun σ H Q ⟨W, env, S, Q0, X1, ok, sl, hw, cv, cx⟩ => ⟨W, env, S, _, X1, ok, sl, hw, fun k S1 W1 H1 h1 s1 ok1 => by
    cases k with
    | true => exact iteT (cv true S1 W1 H1 ((if_pos rfl).mp h1) s1 ok1)
    | false => exact iteF ⟨W1, env, S1, Q0, X1, ok1, sl.mono s1.vis, (if_neg Bool.false_ne_true).mp h1, fun b2 S2 W2 H2 q2 s2 => cv b2 S2 W2 H2 q2 (s1.trans s2), cx.mono s1⟩, cx⟩⟩
theorem PDw.pt (h : PDw X e ta) : PDt X e ta := ⟨fun Wx tk => (h.run Wx tk).pt⟩
theorem pdt_not (ha : PDt X a ta) : PDt X (.UnaryOp .Not a pos) (wNot ta) :=
  ⟨fun Wx tk => PT.imp (pt_not (ha.run Wx tk)) fun σ H Q ⟨W, env, S, Q0, X1, ok, sl, hw, cv, cx⟩ => ⟨W, env, S, _, X1, ok, sl, hw, fun k S1 W1 H1 h1 s1 ok1 => cv (!k) S1 W1 H1 h1 s1 ok1, cx⟩⟩
/-- and, or, not as values: bools -/
def wAndV (wa wb : WPe) : WPe := fun env S Q X => wa env S (fun d S1 => match d with | .bl b => if b = true then wb env S1 Q X else Q (.bl false) S1 | _ => False) X
def wOrV (wa wb : WPe) : WPe := fun env S Q X => wa env S (fun d S1 => match d with | .bl b => if b = true then Q (.bl true) S1 else wb env S1 Q X | _ => False) X
def wNotV (wa : WPe) : WPe := fun env S Q X => wa env S (fun d S1 => match d with | .bl b => Q (.bl (!b)) S1 | _ => False) X
theorem pd_one {op} (ha : PD X a wa) : PD X (.BoolOp op [a] pos) wa := ⟨fun Wx tk => pe_one (ha.run Wx tk)⟩
theorem pd_and (ha : PD X a wa) (hb : PD X (.BoolOp .And (b :: rest) pos) wb) : PD X (.BoolOp .And (a :: b :: rest) pos) (wAndV wa wb) :=
  ⟨fun Wx tk => PE.imp (pe_and (ha.run Wx tk) (hb.run Wx tk)) fun σ H Q ⟨W, env, S, Q0, X1, ok, sl, hw, cv, cx⟩ => ⟨W, env, S, _, X1, ok, sl, hw, fun k S1 v W1 H1 h1 s1 ok1 r1 => by
    cases k with
    | bl k =>
      refine ⟨k, r1, ?_⟩
      cases k with
      | true => exact iteT ⟨W1, env, S1, Q0, X1, ok1, sl.mono s1.vis, (if_pos rfl).mp h1, cv.mono s1, cx.mono s1⟩
      | false => exact iteF (cv _ S1 _ W1 H1 ((if_neg Bool.false_ne_true).mp h1) s1 ok1 rfl)
    | _ => exact h1.elim, cx⟩⟩
theorem pd_or (ha : PD X a wa) (hb : PD X (.BoolOp .Or (b :: rest) pos) wb) : PD X (.BoolOp .Or (a :: b :: rest) pos) (wOrV wa wb) :=
  ⟨fun Wx tk => PE.imp (pe_or (ha.run Wx tk) (hb.run Wx tk)) fun σ H Q ⟨W, env, S, Q0, X1, ok, sl, hw, cv, cx⟩ => ⟨W, env, S, _, X1, ok, sl, hw, fun k S1 v W1 H1 h1 s1 ok1 r1 => by
    cases k with
    | bl k =>
      refine ⟨k, r1, ?_⟩
      cases k with
      | true => exact iteT (cv _ S1 _ W1 H1 ((if_pos rfl).mp h1) s1 ok1 rfl)
      | false => exact iteF ⟨W1, env, S1, Q0, X1, ok1, sl.mono s1.vis, (if_neg Bool.false_ne_true).mp h1, cv.mono s1, cx.mono s1⟩
    | _ => exact h1.elim, cx⟩⟩
theorem pd_not (ha : PD X a wa) : PD X (.UnaryOp .Not a pos) (wNotV wa) :=
  ⟨fun Wx tk => PE.imp (pe_not (ha.run Wx tk)) fun σ H Q ⟨W, env, S, Q0, X1, ok, sl, hw, cv, cx⟩ => ⟨W, env, S, _, X1, ok, sl, hw, fun k S1 v W1 H1 h1 s1 ok1 r1 => by
    cases k with
    | bl k => exact ⟨k, r1, cv _ S1 _ W1 H1 h1 s1 ok1 rfl⟩
    | _ => exact h1.elim, cx⟩⟩
def wIfE (t : WPt) (wa wb : WPe) : WPe := fun env S Q X => t env S (fun k S1 => if k = true then wa env S1 Q X else wb env S1 Q X) X
theorem pd_ifE (hc : PDt X c ta) (ha : PD X a wa) (hb : PD X b wb) : PD X (.IfExp c a b pos) (wIfE ta wa wb) :=
  ⟨fun Wx tk => PE.imp (pe_ifExp (hc.run Wx tk) (ha.run Wx tk) (hb.run Wx tk)) fun σ H Q ⟨W, env, S, Q0, X1, ok, sl, hw, cv, cx⟩ => ⟨W, env, S, _, X1, ok, sl, hw, fun k S1 W1 H1 h1 s1 ok1 => by
    cases k with
    | true => exact iteT ⟨W1, env, S1, Q0, X1, ok1, sl.mono s1.vis, (if_pos rfl).mp h1, cv.mono s1, cx.mono s1⟩
    | false => exact iteF ⟨W1, env, S1, Q0, X1, ok1, sl.mono s1.vis, (if_neg Bool.false_ne_true).mp h1, cv.mono s1, cx.mono s1⟩, cx⟩⟩
/-- a < b < c -/
def wChain (o o' : O2) (wa wb wc : WPe) : WPe := fun env S Q X => wa env S (fun x S1 => wb env S1 (fun y S2 => o S2 x y fun k S3 => match k with | .bl k => if k = true then wc env S3 (fun z S4 => o' S4 y z Q) X else Q (.bl false) S3 | _ => False) X) X
end
end DL
set_option Elab.async false
set_option linter.all false
set_option maxRecDepth 100000
set_option maxHeartbeats 2000000
/-! The data layer, part c: calls, displays, fields, statements. -/
namespace DL
open PySem PySem.Spec PyProof.Rows L2

section
variable {X : Cx} {CX : CXT} {k : Nat} {f C : Addr} {fd : FuncData} {ps : List Str} {sp : Sp} {E : L2.St → XK} {x m : Str} {p pos apos : Pos} {e o : Expr} {es : List Expr} {ta : TE} {t : TA}
def tMethS (C : Addr) (m : Str) (sp : Sp) (E : L2.St → XK) (ta : TE) (t : TA) : TE := fun σ H Q => ta σ H fun x H1 => ∃ a dx fs, x = .ref a ∧ H1 a = some (.ins C dx fs) ∧ fs.lookup m = none ∧
  t σ H1 fun vs H2 => sp (x :: vs) H2 Q (E σ)
theorem run_fnN {pins : List (Addr × Obj)} {σ : L2.St} {H : Hp} {s : Shared} {Q : VK} {us : List Value} {vs : List V} (F : FnOk X.prog X.w X.K X.mg X.base CX k f fd ps sp) (hr : Room k X.A) (hb : Binds X.K fd ps []) (hx : PassesAt CX X σ (E σ))
    (I : Inv X pins σ H s) (r : Vals vs us) (h : sp vs H Q (E σ)) : wpAny (model X.prog X.w) X.A (call (.ref f) us) (EP X pins σ Q) X.xe s := run_fnS F hr hb hx I r h
theorem pe_methS {pl : Sem Bool} (he : PE X o ta) (c : Cls X.K C) (hm : Meth X.K C m f) (F : FnOk X.prog X.w X.K X.mg X.base CX k f fd ps sp) (hr : Room k X.A) (hb : Binds X.K fd ps []) (hx : ∀ σ, PassesAt CX X σ (E σ)) (ha : PA X (e :: es) t)
    (hst : starEach (e :: es) X.env = (false, eval e X.env) :: starEach es X.env := by rfl) (hpl : (backTo pos (starEach es X.env)).any (·.1) = false := by rfl)
    (ht : eval (.Call (.Attribute o m apos) (e :: es) [] pos) X.env = (do
      let ov ← eval o X.env
      standAt apos.atName
      let (f, first) ← holding [ov] (getMethod ov m pl)
      callWith pos f first (backTo pos (starEach (e :: es) X.env)) (backToKw pos (keywordEach [] X.env))) := by rfl) :
    PE X (.Call (.Attribute o m apos) (e :: es) [] pos) (tMethS C m sp E ta t) := by
  refine ⟨fun pins s σ H Q I h => ?_⟩
  refine PySem.W.methodCall_KW (pl := pl) (thn (he.run pins s σ H _ I h) fun u s1 ⟨x, H1, I1, rx, a, dx, fs, ex, ea, l, q⟩ => ?_) ht
  subst ex
  obtain rfl : u = Value.ref a := rx
  refine getmeth_ok I1 ea c hm l ?_
  refine PySem.W.callWith_K (first := [.ref a]) (h₀ := X.base) I.ok.mod.kin hm.kp (thn (ha.run pos pins s1 σ H1 _ I1 q) fun us s2 ⟨vs, H2, I2, r, q2⟩ => ⟨I2.kIn, ?_⟩) hst hpl
  exact run_fnN (us := .ref a :: us) (vs := .ref a :: vs) F hr hb (hx σ) I2 (.cons rfl r) q2
theorem pe_meth0S {pl : Sem Bool} (he : PE X o ta) (c : Cls X.K C) (hm : Meth X.K C m f) (F : FnOk X.prog X.w X.K X.mg X.base CX k f fd ps sp) (hr : Room k X.A) (hb : Binds X.K fd ps []) (hx : ∀ σ, PassesAt CX X σ (E σ))
    (ht : eval (.Call (.Attribute o m apos) [] [] pos) X.env = (do
      let ov ← eval o X.env
      standAt apos.atName
      let (f, first) ← holding [ov] (getMethod ov m pl)
      callWith pos f first (backTo pos (starEach [] X.env)) (backToKw pos (keywordEach [] X.env))) := by rfl) :
    PE X (.Call (.Attribute o m apos) [] [] pos) (tMethS C m sp E ta tNil) := by
  refine ⟨fun pins s σ H Q I h => ?_⟩
  refine PySem.W.methodCall_KW (pl := pl) (thn (he.run pins s σ H _ I h) fun u s1 ⟨x, H1, I1, rx, a, dx, fs, ex, ea, l, q⟩ => ?_) ht
  subst ex
  obtain rfl : u = Value.ref a := rx
  refine getmeth_ok I1 ea c hm l ?_
  exact PySem.W.callWith_K0 (first := [.ref a]) I1.kIn hm.kp (run_fnN (us := [.ref a]) (vs := [.ref a]) F hr hb (hx σ) I1 (.cons rfl .nil) q)
theorem pe_call0S (F : FnOk X.prog X.w X.K X.mg X.base CX k f fd ps sp) (hr : Room k X.A) (hg : Gl X x) (hm : X.mg x = some (.ref f)) (hk : PySem.W.keepIn X.K (.ref f) = true) (hb : Binds X.K fd ps []) (hx : ∀ σ, PassesAt CX X σ (E σ))
    (hdb : (x == ("__debug__" : Str)) = false := by decide) : PE X (.Call (.Name x p) [] [] pos) (tCallS sp E tNil) := by
  refine ⟨fun pins s σ H Q I h => ?_⟩
  refine wpAny_Call_Name_kw (ld_glob I hg hm ?_ hdb)
  exact PySem.W.callWith_K0 I.kIn hk (run_fnN (us := []) F hr hb (hx σ) I .nil h)
def tMakeS (C : Addr) (sp : Sp) (E : L2.St → XK) (t : TA) : TE := fun σ H Q => t σ H fun vs H1 => ∀ x dx, H1 x = none → H1 dx = none → dx ≠ x →
  sp (.ref x :: vs) (upd (upd H1 dx (.own x)) x (.ins C dx [])) (fun v H2 => v = .non ∧ Q (.ref x) H2) (E σ)
theorem run_makeS {pins : List (Addr × Obj)} {σ : L2.St} {H : Hp} {s : Shared} {Q : VK} {us : List Value} {vs : List V} (M : Mk X.K C f) (F : FnOk X.prog X.w X.K X.mg X.base CX k f fd ps sp) (hr : Room (k + 1) X.A) (hb : Binds X.K fd ps [])
    (hx : PassesAt CX X σ (E σ)) (I : Inv X pins σ H s) (r : Vals vs us)
    (h : ∀ x dx, H x = none → H dx = none → dx ≠ x → sp (.ref x :: vs) (upd (upd H dx (.own x)) x (.ins C dx [])) (fun v H2 => v = .non ∧ Q (.ref x) H2) (E σ)) :
    wpAny (model X.prog X.w) X.A (call (.ref C) us) (EP X pins σ Q) X.xe s := by
  have hq := h (s.heap.objs.size + 1) s.heap.objs.size (I.hok.fresh (Nat.le_succ _)) (I.hok.fresh (Nat.le_refl _)) (Nat.ne_of_lt (Nat.lt_succ_self _))
  have I2 := Inv.made (C := C) I
  have r2 : Vals (V.ref (s.heap.objs.size + 1) :: vs) (Value.ref (s.heap.objs.size + 1) :: us) := .cons rfl r
  have hl : (Value.ref (s.heap.objs.size + 1) :: us ++ []).length = ps.length := by
    have e := r2.length
    rw [F.len _ _ _ _ hq] at e
    rw [List.append_nil]
    exact e.symm
  have hbb := hb { s with heap := (s.heap.push PySem.W.emptyDict).push (PySem.W.instObj C s.heap.objs.size) } (Value.ref (s.heap.objs.size + 1) :: us) I2.kIn hl
  rw [List.append_nil] at hbb
  refine wpAny_call (make_map (f := f) I.kIn M.makes M.init (beq_iff_eq.mp M.fn) (codeAny_mono (F.run _ X.stack _ _ ⟨Value.ref (s.heap.objs.size + 1) :: us, []⟩ (Value.ref (s.heap.objs.size + 1) :: us) _ _ (E σ) (hr.make C us [])
    (I2.env0.make C us []) hbb r2 hq) fun r s' hq' => ?_))
  cases r with
  | error e => exact hx pins _ _ e s' I2 hq'
  | ok fl =>
    cases fl with
    | ret u =>
      obtain ⟨v, H', I3, rv, ev, q3⟩ := I2.after hq'
      subst ev
      exact ⟨rv, ⟨V.ref (s.heap.objs.size + 1), H', I3, rfl, q3⟩⟩
    | next => exact False.elim hq'
    | brk => exact False.elim hq'
    | cont => exact False.elim hq'
theorem pe_makeS (M : Mk X.K C f) (F : FnOk X.prog X.w X.K X.mg X.base CX k f fd ps sp) (hr : Room (k + 1) X.A) (hg : Gl X x) (hm : X.mg x = some (.ref C)) (hb : Binds X.K fd ps []) (hx : ∀ σ, PassesAt CX X σ (E σ))
    (ha : PA X (e :: es) t) (hdb : (x == ("__debug__" : Str)) = false := by decide) (he : starEach (e :: es) X.env = (false, eval e X.env) :: starEach es X.env := by rfl) (hpl : (backTo pos (starEach es X.env)).any (·.1) = false := by rfl) :
    PE X (.Call (.Name x p) (e :: es) [] pos) (tMakeS C sp E t) := by
  refine ⟨fun pins s σ H Q I h => ?_⟩
  refine wpAny_Call_Name_kw (ld_glob I hg hm ?_ hdb)
  refine PySem.W.callWith_K (h₀ := X.base) I.ok.mod.kin M.kp (thn (ha.run pos pins s σ H _ I h) fun us s1 ⟨vs, H1, I1, r, q⟩ => ⟨I1.kIn, ?_⟩) he hpl
  exact run_makeS M F hr hb (hx σ) I1 r q
end

/-! ### arguments, displays -/
def wNil : WPa := fun _ S Q _ => Q [] S
def wCons (w : WPe) (r : WPa) : WPa := fun env S Q X => w env S (fun d S1 => r env S1 (fun ds S2 => Q (d :: ds) S2) X) X
def wLst (w : WPa) : WPe := fun env S Q X => w env S (fun ds S1 => ds.length ≤ sizeLine ∧ Q (.lst ds) S1) X
def wLstM (w : WPa) : WPe := fun env S Q X => w env S (fun ds S1 => ds.length ≤ sizeLine ∧ ∀ p, S1 p = none → Q (.ref p) (put S1 p (.lst ds))) X
def wTup (w : WPa) : WPe := fun env S Q X => w env S (fun ds S1 => ds.length ≤ sizeLine ∧ Q (.tup ds) S1) X
section
variable {X : Cx} {e : Expr} {es : List Expr} {pos : Pos} {w : WPe} {r : WPa}
theorem pda_nil : PDa X [] wNil := ⟨fun Wx tk => PA.imp pa_nil fun σ H Q ⟨W, env, S, Q0, X1, ok, sl, hw, cv, cx⟩ => cv [] S [] W H hw Stp.refl ok rfl⟩
theorem pda_cons (he : PD X e w) (hr : PDa X es r) (hs : starEach (e :: es) X.env = (false, eval e X.env) :: starEach es X.env := by rfl) : PDa X (e :: es) (wCons w r) :=
  ⟨fun Wx tk => PA.imp (pa_cons (he.run Wx tk) (hr.run Wx tk) hs) fun σ H Q ⟨W, env, S, Q0, X1, ok, sl, hw, cv, cx⟩ => ⟨W, env, S, _, X1, ok, sl, hw, fun d S1 v W1 H1 h1 s1 ok1 r1 =>
    ⟨W1, env, S1, _, X1, ok1, sl.mono s1.vis, h1, fun ds S2 vs W2 H2 h2 s2 ok2 r2 => cv (d :: ds) S2 (v :: vs) W2 H2 h2 (s1.trans s2) ok2 ⟨v, vs, rfl, r1.mono s2.vis, r2⟩, cx.mono s1⟩, cx⟩⟩
theorem pd_lst (h : PDa X es r) : PD X (.List es pos) (wLst r) :=
  ⟨fun Wx tk => PE.imp (pe_lst (h.run Wx tk)) fun σ H Q ⟨W, env, S, Q0, X1, ok, sl, hw, cv, cx⟩ => ⟨W, env, S, _, X1, ok, sl, hw, fun ds S1 vs W1 H1 ⟨hz, h1⟩ s1 ok1 r1 =>
    ⟨by rw [r1.length]; exact hz, fun p hp => cv _ S1 _ _ _ h1 (s1.trans (ok1.stW hp)) (ok1.newW hp) ⟨p, vs, rfl, upd_same, r1.mono (same_new (ok1.fresh hp).1)⟩⟩, cx⟩⟩
theorem pd_lstM (h : PDa X es r) : PD X (.List es pos) (wLstM r) :=
  ⟨fun Wx tk => PE.imp (pe_lst (h.run Wx tk)) fun σ H Q ⟨W, env, S, Q0, X1, ok, sl, hw, cv, cx⟩ => ⟨W, env, S, _, X1, ok, sl, hw, fun ds S1 vs W1 H1 ⟨hz, h1⟩ s1 ok1 r1 =>
    ⟨by rw [r1.length]; exact hz, fun p hp => cv _ _ _ _ _ (h1 p (ok1.fresh hp).2) (s1.trans (ok1.stS hp)) (ok1.newS hp ⟨vs, rfl, r1⟩) rfl⟩, cx⟩⟩
theorem pd_tup {z : Nat} (h : PDa X es r) : PD X (.Tuple es z pos) (wTup r) :=
  ⟨fun Wx tk => PE.imp (pe_tup (h.run Wx tk)) fun σ H Q ⟨W, env, S, Q0, X1, ok, sl, hw, cv, cx⟩ => ⟨W, env, S, _, X1, ok, sl, hw, fun ds S1 vs W1 H1 ⟨hz, h1⟩ s1 ok1 r1 =>
    ⟨by rw [r1.length]; exact hz, fun p hp => cv _ S1 _ _ _ h1 (s1.trans (ok1.stW hp)) (ok1.newW hp) ⟨p, vs, rfl, SqT.of upd_same, r1.mono (same_new (ok1.fresh hp).1)⟩⟩, cx⟩⟩
end

/-! ### calls of own defs -/
abbrev FnD (P : Program) (w : World) (K : PySem.W.Frag) (mg : Str → Option Value) (base : Heap) (k : Nat) (f : Addr) (fd : FuncData) (ps : List Str) (spec : Ctr) : Prop := FnOk P w K mg base (L2.CX P w) k f fd ps (lSp K spec)
def wCall (spec : Ctr) (wa : WPa) : WPe := fun env S Q X => wa env S (fun ds S1 => spec ds S1 Q X) X
/-- an instance of C whose fields are N -/
def isIns (C : Addr) (N : List Str) (S : Sto) (d : D) : Prop := match d with
  | .ref a => match S a with
    | some (.ins C' N' _) => C' = C ∧ N' = N
    | _ => False
  | .obj C' N' _ => C' = C ∧ N' = N
  | _ => False
def wMeth (C : Addr) (N : List Str) (spec : Ctr) (wo : WPe) (wa : WPa) : WPe := fun env S Q X => wo env S (fun o S1 => isIns C N S1 o ∧ wa env S1 (fun ds S2 => spec (o :: ds) S2 Q X) X) X
def noneV : List Str → DE
  | [] => []
  | _ :: r => none :: noneV r
def wMake (C : Addr) (N : List Str) (spec : Ctr) (wa : WPa) : WPe := fun env S Q X => wa env S (fun ds S1 => ∀ x, S1 x = none → spec (.ref x :: ds) (put S1 x (.ins C N (noneV N))) (fun r S2 => r = .non ∧ Q (.ref x) S2) X) X
theorem getV_noneV : ∀ {N : List Str} {i : Nat}, getV (noneV N) i = none
  | [], _ => rfl
  | _ :: _, 0 => rfl
  | _ :: r, i + 1 => getV_noneV (N := r) (i := i)
theorem noneV_length : ∀ {N : List Str}, (noneV N).length = N.length
  | [] => rfl
  | _ :: r => congrArg (· + 1) (noneV_length (N := r))
theorem frep_new {K : PySem.W.Frag} {W : Hp} {N : List Str} (hn : N.Nodup) (hf : N.length ≤ 900) : FRep K W N (noneV N) [] :=
  ⟨hn, hf, noneV_length, (fun i f d _ h => by
    rw [getV_noneV] at h
    cases h), (fun _ _ _ _ => rfl), (fun _ _ => rfl), Nat.zero_le _⟩
theorem Ok.junk {K : PySem.W.Frag} {W : Hp} {S : Sto} {H : Hp} {p : Addr} {o : HO} (ok : Ok K W S H) (h : H p = none) : Ok K W S (upd H p o) :=
  ⟨fun b x e => by rw [upd_ne (ne_of_none (ok.vis _ _ e) h)]; exact ok.vis _ _ e, fun a m e => by
    obtain ⟨x, e1, e2⟩ := ok.sto _ _ e
    exact ⟨x, by rw [upd_ne (ne_of_none e1 h)]; exact e1, e2⟩, ok.sep⟩
theorem isIns_rep {K : PySem.W.Frag} {W : Hp} {S : Sto} {H : Hp} {C : Addr} {N : List Str} {d : D} {v : V} (ok : Ok K W S H) (r : Rep K W d v) (h : isIns C N S d) {m : Str} (hm : m ∉ N) : ∃ a dx fs, v = .ref a ∧ H a = some (.ins C dx fs) ∧ fs.lookup m = none := by
  cases d with
  | ref a =>
    have h' : (match S a with | some (.ins C' N' _) => C' = C ∧ N' = N | _ => False) := h
    cases q : S a with
    | none => rw [q] at h'; exact h'.elim
    | some mo =>
      rw [q] at h'
      cases mo with
      | ins C' N' xs =>
        obtain ⟨e1, e2⟩ := h'
        subst e1 e2
        obtain ⟨o, e3, dx, gs, e4, fr⟩ := ok.sto _ _ q
        subst e4
        exact ⟨a, dx, gs, r, e3, fr.out m hm⟩
      | _ => exact h'.elim
  | obj C' N' xs =>
    obtain ⟨e1, e2⟩ := h
    subst e1 e2
    obtain ⟨a, dx, gs, vs, e1, e2, _, e4, _⟩ := r
    exact ⟨a, dx, gs, e1, ok.vis _ _ e2, e4 m hm⟩
  | _ => exact h.elim
section
variable {X : Cx} {k : Nat} {f C : Addr} {fd : FuncData} {ps : List Str} {spec : Ctr} {x m : Str} {p pos apos : Pos} {e o : Expr} {es : List Expr} {wo : WPe} {wa : WPa}
theorem call_go {Wx : WX} {σ : L2.St} {H : Hp} {Q : VK} {K : PySem.W.Frag} (h : lE K Wx (wCall spec wa) σ H Q) : tCallS (lSp K spec) (WE Wx) (lA K Wx wa) σ H Q := by
  obtain ⟨W, env, S, Q0, X1, ok, sl, hw, cv, cx⟩ := h
  exact ⟨W, env, S, _, X1, ok, sl, hw, fun ds S1 vs W1 H1 h1 s1 ok1 r1 => ⟨W1, S1, ds, Q0, X1, ok1, r1, h1, cv.mono s1, cx.mono s1⟩, cx⟩
theorem pd_call (F : FnD X.prog X.w X.K X.mg X.base k f fd ps spec) (hr : Room k X.A) (hm : X.mg x = some (.ref f)) (hk : PySem.W.keepIn X.K (.ref f) = true) (hb : Binds X.K fd ps [])
    (ha : PDa X (e :: es) wa) (hg : Gl X x := by rfl) (hdb : (x == ("__debug__" : Str)) = false := by decide) (he : starEach (e :: es) X.env = (false, eval e X.env) :: starEach es X.env := by rfl) (hpl : (backTo pos (starEach es X.env)).any (·.1) = false := by rfl) :
    PD X (.Call (.Name x p) (e :: es) [] pos) (wCall spec wa) :=
  ⟨fun Wx tk => PE.imp (pe_callS F hr hg hm hk hb (fun σ => passAt tk σ) (ha.run Wx tk) hdb he hpl) fun _ _ _ h => call_go h⟩
theorem pd_call0 (F : FnD X.prog X.w X.K X.mg X.base k f fd ps spec) (hr : Room k X.A) (hm : X.mg x = some (.ref f)) (hk : PySem.W.keepIn X.K (.ref f) = true) (hb : Binds X.K fd ps [])
    (hg : Gl X x := by rfl) (hdb : (x == ("__debug__" : Str)) = false := by decide) : PD X (.Call (.Name x p) [] [] pos) (wCall spec wNil) :=
  ⟨fun Wx tk => PE.imp (pe_call0S F hr hg hm hk hb (fun σ => passAt tk σ) hdb) fun σ H Q h => by
    obtain ⟨W, env, S, Q0, X1, ok, sl, hw, cv, cx⟩ := h
    exact ⟨W, S, [], Q0, X1, ok, rfl, hw, cv, cx⟩⟩
theorem pd_meth {N : List Str} {pl : Sem Bool} (c : Cls X.K C) (hm : Meth X.K C m f) (hN : m ∉ N) (F : FnD X.prog X.w X.K X.mg X.base k f fd ps spec) (hr : Room k X.A) (hb : Binds X.K fd ps []) (ho : PD X o wo) (ha : PDa X (e :: es) wa)
    (hst : starEach (e :: es) X.env = (false, eval e X.env) :: starEach es X.env := by rfl) (hpl : (backTo pos (starEach es X.env)).any (·.1) = false := by rfl)
    (ht : eval (.Call (.Attribute o m apos) (e :: es) [] pos) X.env = (do
      let ov ← eval o X.env
      standAt apos.atName
      let (f, first) ← holding [ov] (getMethod ov m pl)
      callWith pos f first (backTo pos (starEach (e :: es) X.env)) (backToKw pos (keywordEach [] X.env))) := by rfl) : PD X (.Call (.Attribute o m apos) (e :: es) [] pos) (wMeth C N spec wo wa) :=
  ⟨fun Wx tk => PE.imp (pe_methS (E := WE Wx) (ho.run Wx tk) c hm F hr hb (fun σ => passAt tk σ) (ha.run Wx tk) hst hpl ht) fun σ H Q ⟨W, env, S, Q0, X1, ok, sl, hw, cv, cx⟩ => ⟨W, env, S, _, X1, ok, sl, hw, fun d S1 v W1 H1 ⟨hi, h1⟩ s1 ok1 r1 => by
    obtain ⟨a, dx, fs, e1, e2, e3⟩ := isIns_rep ok1 r1 hi hN
    exact ⟨a, dx, fs, e1, e2, e3, W1, env, S1, _, X1, ok1, sl.mono s1.vis, h1, fun ds S2 vs W2 H2 h2 s2 ok2 r2 => ⟨W2, S2, d :: ds, Q0, X1, ok2, ⟨v, vs, rfl, r1.mono s2.vis, r2⟩, h2, cv.mono (s1.trans s2), cx.mono (s1.trans s2)⟩, cx.mono s1⟩, cx⟩⟩
theorem pd_meth0 {N : List Str} {pl : Sem Bool} (c : Cls X.K C) (hm : Meth X.K C m f) (hN : m ∉ N) (F : FnD X.prog X.w X.K X.mg X.base k f fd ps spec) (hr : Room k X.A) (hb : Binds X.K fd ps []) (ho : PD X o wo)
    (ht : eval (.Call (.Attribute o m apos) [] [] pos) X.env = (do
      let ov ← eval o X.env
      standAt apos.atName
      let (f, first) ← holding [ov] (getMethod ov m pl)
      callWith pos f first (backTo pos (starEach [] X.env)) (backToKw pos (keywordEach [] X.env))) := by rfl) : PD X (.Call (.Attribute o m apos) [] [] pos) (wMeth C N spec wo wNil) :=
  ⟨fun Wx tk => PE.imp (pe_meth0S (E := WE Wx) (ho.run Wx tk) c hm F hr hb (fun σ => passAt tk σ) ht) fun σ H Q ⟨W, env, S, Q0, X1, ok, sl, hw, cv, cx⟩ => ⟨W, env, S, _, X1, ok, sl, hw, fun d S1 v W1 H1 ⟨hi, h1⟩ s1 ok1 r1 => by
    obtain ⟨a, dx, fs, e1, e2, e3⟩ := isIns_rep ok1 r1 hi hN
    exact ⟨a, dx, fs, e1, e2, e3, W1, S1, [d], Q0, X1, ok1, ⟨v, [], rfl, r1, rfl⟩, h1, cv.mono s1, cx.mono s1⟩, cx⟩⟩
theorem pd_make {N : List Str} (M : Mk X.K C f) (hN : N.Nodup) (hl : N.length ≤ 900) (F : FnD X.prog X.w X.K X.mg X.base k f fd ps spec) (hr : Room (k + 1) X.A) (hm : X.mg x = some (.ref C)) (hb : Binds X.K fd ps [])
    (ha : PDa X (e :: es) wa) (hg : Gl X x := by rfl) (hdb : (x == ("__debug__" : Str)) = false := by decide) (he : starEach (e :: es) X.env = (false, eval e X.env) :: starEach es X.env := by rfl) (hpl : (backTo pos (starEach es X.env)).any (·.1) = false := by rfl) :
    PD X (.Call (.Name x p) (e :: es) [] pos) (wMake C N spec wa) :=
  ⟨fun Wx tk => PE.imp (pe_makeS (E := WE Wx) M F hr hg hm hb (fun σ => passAt tk σ) (ha.run Wx tk) hdb he hpl) fun σ H Q ⟨W, env, S, Q0, X1, ok, sl, hw, cv, cx⟩ => ⟨W, env, S, _, X1, ok, sl, hw, fun ds S1 vs W1 H1 h1 s1 ok1 r1 y dy hy hdy hne => by
    have hy2 : (upd H1 dy (HO.own y)) y = none := by rw [upd_ne (Ne.symm hne)]; exact hy
    have ok2 := (ok1.junk (o := .own y) hdy).newS (m := .ins C N (noneV N)) (o := .ins C dy []) hy2 ⟨dy, [], rfl, frep_new hN hl⟩
    have st := (ok1.stJ (o := .own y) hdy).trans (Ok.stS (m := .ins C N (noneV N)) (o := .ins C dy []) (ok1.junk (o := .own y) hdy) hy2)
    exact ⟨W1, _, .ref y :: ds, _, X1, ok2, ⟨_, _, rfl, rfl, r1⟩, h1 y (ok1.fresh hy).2, fun d S2 v W2 H2 ⟨hd, h2⟩ s2 ok3 r2 => by
      subst hd
      exact ⟨r2, cv _ S2 _ W2 H2 h2 (s1.trans (st.trans s2)) ok3 rfl⟩, cx.mono (s1.trans st)⟩, cx⟩⟩
end

/-! ### a mutable object as data from now on; a mutable list lent as data -/
def allV : DE → Option (List D)
  | [] => some []
  | none :: _ => none
  | some d :: r => (allV r).map (d :: ·)
def frzD (S : Sto) (d : D) (Q : Qd) : Prop := match d with
  | .ref a => match S a with
    | some (.lst xs) => Q (.lst xs) (del S a)
    | some (.ins C N xs) => some! (allV xs) fun ys => Q (.obj C N ys) (del S a)
    | _ => False
  | _ => Q d S
def wFrz (w : WPe) : WPe := fun env S Q X => w env S (fun d S1 => frzD S1 d Q) X
theorem allV_get : ∀ {xs : DE} {ys : List D}, allV xs = some ys → ys.length = xs.length ∧ ∀ i, getV xs i = ys[i]?
  | [], ys, h => by
    cases h
    exact ⟨rfl, fun i => by simp [getV]⟩
  | none :: _, ys, h => by cases h
  | some d :: r, ys, h => by
    have h' : (allV r).map (d :: ·) = some ys := h
    cases q : allV r with
    | none => rw [q] at h'; cases h'
    | some zs =>
      rw [q] at h'
      cases h'
      obtain ⟨a, b⟩ := allV_get q
      refine ⟨congrArg (· + 1) a, fun i => ?_⟩
      cases i with
      | zero => rfl
      | succ i => exact b i
theorem reps_of_get {K : PySem.W.Frag} {W : Hp} : ∀ {ys : List D} {g : Nat → Option V}, (∀ i d, ys[i]? = some d → ∃ v, g i = some v ∧ Rep K W d v) → (∀ i, ys.length ≤ i → g i = none) → ∃ vs : List V, Reps K W ys vs ∧ ∀ i, g i = vs[i]?
  | [], g, _, h2 => ⟨[], rfl, fun i => by rw [h2 i (Nat.zero_le _)]; simp⟩
  | d :: r, g, h1, h2 => by
    obtain ⟨v, e, rv⟩ := h1 0 d rfl
    obtain ⟨vs, rr, q⟩ := reps_of_get (ys := r) (g := fun i => g (i + 1)) (fun i d h => h1 (i + 1) d h) (fun i h => h2 (i + 1) (Nat.succ_le_succ h))
    refine ⟨v :: vs, ⟨v, vs, rfl, rv, rr⟩, fun i => ?_⟩
    cases i with
    | zero => exact e
    | succ i => exact q i
theorem frz_go {K : PySem.W.Frag} {W : Hp} {S : Sto} {H : Hp} {d : D} {v : V} {Q0 : Qd} {Q : VK} (ok : Ok K W S H) (r : Rep K W d v) (h : frzD S d Q0) (cv : CV K W S H Q0 Q) : Q v H := by
  cases d with
  | ref a =>
    have r' : v = .ref a := r
    subst r'
    cases q : S a with
    | none => unfold frzD at h; simp only [q] at h
    | some mo =>
      obtain ⟨o, e1, e2⟩ := ok.sto _ _ q
      have hW := ok.sep _ _ q
      cases mo with
      | lst xs =>
        unfold frzD at h
        simp only [q] at h
        obtain ⟨vs, e3, e4⟩ := e2
        subst e3
        exact cv _ _ _ _ _ h (ok.stF q) (ok.frz q e1) ⟨a, vs, rfl, upd_same, e4.mono (same_new hW)⟩
      | ins C N xs =>
        unfold frzD at h
        simp only [q] at h
        obtain ⟨ys, e5, h⟩ := some!_ex h
        obtain ⟨dx, gs, e3, fr⟩ := e2
        subst e3
        obtain ⟨l1, g1⟩ := allV_get e5
        have hlen : N.length = ys.length := by rw [l1, fr.len]
        obtain ⟨vs, rv, gv⟩ := reps_of_get (K := K) (W := W) (ys := ys) (g := fun i => (N[i]?).bind fun f => gs.lookup f) (fun i d hd => by
          have hi : i < N.length := by rw [hlen]; exact lt_of_some hd
          obtain ⟨v, c, rr⟩ := fr.is i N[i] d (List.getElem?_eq_getElem hi) (by rw [g1]; exact hd)
          exact ⟨v, by rw [List.getElem?_eq_getElem hi]; exact c, rr⟩) (fun i hi => by
          rw [List.getElem?_eq_none (by omega)]; rfl)
        refine cv _ _ _ _ _ h (ok.stF q) (ok.frz q e1) ⟨a, dx, gs, vs, rfl, upd_same, fun i f hf => ?_, fr.out, rv.mono (same_new hW)⟩
        rw [← gv i]
        show _ = (N[i]?).bind _
        rw [hf]; rfl
      | _ =>
        unfold frzD at h
        simp only [q] at h
  | _ => exact cv _ _ _ _ _ h Stp.refl ok r
section
variable {X : Cx} {e : Expr} {w : WPe}
theorem pd_frz (h : PD X e w) : PD X e (wFrz w) := ⟨fun Wx tk => PE.imp (h.run Wx tk) fun σ H Q ⟨W, env, S, Q0, X1, ok, sl, hw, cv, cx⟩ => ⟨W, env, S, _, X1, ok, sl, hw, fun d S1 v W1 H1 h1 s1 ok1 r1 => frz_go ok1 r1 h1 (cv.mono s1), cx⟩⟩
end
end DL
set_option Elab.async false
set_option linter.all false
set_option maxRecDepth 100000
set_option maxHeartbeats 2000000
/-! The data layer, part d: operations of values. -/
namespace DL
open PySem PySem.Spec PyProof.Rows L2

/-! ### lists and tuples, however held -/
def seqM (S : Sto) (d : D) : Option (List D) := match d with
  | .lst xs => some xs
  | .ref a => match S a with
    | some (.lst xs) => some xs
    | _ => none
  | _ => none
def seqL (S : Sto) (d : D) : Option (List D) := match d with
  | .fro xs => some xs
  | d => seqM S d
/-- a list or a tuple -/
def seqA (S : Sto) (d : D) : Option (List D) := match d with
  | .tup xs => some xs
  | d => seqL S d
section
variable {K : PySem.W.Frag} {W : Hp} {S : Sto} {H : Hp} {d : D} {v : V} {xs : List D}
theorem seqM_rep (ok : Ok K W S H) (r : Rep K W d v) (h : seqM S d = some xs) : ∃ a vs, v = .ref a ∧ H a = some (.lst vs) ∧ Reps K W xs vs := by
  cases d with
  | lst ys =>
    cases h
    obtain ⟨a, vs, e1, e2, e3⟩ := r
    exact ⟨a, vs, e1, ok.vis _ _ e2, e3⟩
  | ref a =>
    have h' : (match S a with | some (.lst xs) => some xs | _ => none) = some xs := h
    cases q : S a with
    | none => rw [q] at h'; cases h'
    | some m =>
      rw [q] at h'
      cases m with
      | lst ys =>
        cases h'
        obtain ⟨o, e1, vs, e2, e3⟩ := ok.sto _ _ q
        subst e2
        exact ⟨a, vs, r, e1, e3⟩
      | _ => cases h'
  | _ => cases h
theorem seqL_rep (ok : Ok K W S H) (r : Rep K W d v) (h : seqL S d = some xs) : ∃ a vs, v = .ref a ∧ SqL K H a vs ∧ Reps K W xs vs := by
  cases d with
  | fro ys =>
    cases h
    obtain ⟨a, vs, e1, e2, e3⟩ := r
    exact ⟨a, vs, e1, sqL_mono ok.vis e2, e3⟩
  | lst ys =>
    obtain ⟨a, vs, e1, e2, e3⟩ := seqM_rep ok r h
    exact ⟨a, vs, e1, SqL.of e2, e3⟩
  | ref a =>
    obtain ⟨a, vs, e1, e2, e3⟩ := seqM_rep ok r h
    exact ⟨a, vs, e1, SqL.of e2, e3⟩
  | _ => cases h
theorem seqA_rep (ok : Ok K W S H) (r : Rep K W d v) (h : seqA S d = some xs) : ∃ a vs, v = .ref a ∧ (SqL K H a vs ∨ SqT K H a vs) ∧ Reps K W xs vs := by
  cases d with
  | tup ys =>
    cases h
    obtain ⟨a, vs, e1, e2, e3⟩ := r
    exact ⟨a, vs, e1, .inr (sqT_mono ok.vis e2), e3⟩
  | fro ys =>
    obtain ⟨a, vs, e1, e2, e3⟩ := seqL_rep ok r h
    exact ⟨a, vs, e1, .inl e2, e3⟩
  | lst ys =>
    obtain ⟨a, vs, e1, e2, e3⟩ := seqL_rep ok r h
    exact ⟨a, vs, e1, .inl e2, e3⟩
  | ref a =>
    obtain ⟨a, vs, e1, e2, e3⟩ := seqL_rep ok r h
    exact ⟨a, vs, e1, .inl e2, e3⟩
  | _ => cases h
theorem seqM_put {p : Addr} {m : MO} (h : seqM S d = some xs) (hp : S p = none) : seqM (put S p m) d = some xs := by
  cases d with
  | ref a =>
    have h' : (match S a with | some (.lst xs) => some xs | _ => none) = some xs := h
    have ne : a ≠ p := fun e => by subst e; rw [hp] at h'; cases h'
    show (match put S p m a with | some (.lst xs) => some xs | _ => none) = some xs
    rw [put_ne ne]; exact h'
  | _ => exact h
theorem seqL_put {p : Addr} {m : MO} (h : seqL S d = some xs) (hp : S p = none) : seqL (put S p m) d = some xs := by
  cases d with
  | fro ys => exact h
  | ref a => exact seqM_put (d := .ref a) h hp
  | lst ys => exact h
  | _ => cases h
theorem seqA_put {p : Addr} {m : MO} (h : seqA S d = some xs) (hp : S p = none) : seqA (put S p m) d = some xs := by
  cases d with
  | tup ys => exact h
  | fro ys => exact h
  | ref a => exact seqM_put (d := .ref a) h hp
  | lst ys => exact h
  | _ => cases h
/-- a change at p, which is not this list -/
theorem seqA_chg {p : Addr} {m : MO} (h : seqA S d = some xs) (hp : ∀ a, d = .ref a → a ≠ p) : seqA (put S p m) d = some xs := by
  cases d with
  | ref a =>
    have h' : (match S a with | some (.lst xs) => some xs | _ => none) = some xs := h
    show (match put S p m a with | some (.lst xs) => some xs | _ => none) = some xs
    rw [put_ne (hp a rfl)]; exact h'
  | _ => exact h
theorem vals_le {P : Program} {w : World} {h : Heap} {a : Addr} {vs : List V} (hok : HOk P w H h) (e : H a = some (.lst vs)) : vs.length ≤ sizeLine := (hok a _ e).1
end

/-! ### ints in data -/
def toInts : List D → Option (List Int)
  | [] => some []
  | .int i :: r => (toInts r).map (i :: ·)
  | _ :: _ => none
theorem toInts_map : ∀ ns : List Int, toInts (ns.map D.int) = some ns
  | [] => rfl
  | i :: r => by
    show (toInts (r.map D.int)).map (i :: ·) = some (i :: r)
    rw [toInts_map r]; rfl
theorem toInts_rep {K : PySem.W.Frag} {W : Hp} : ∀ {xs : List D} {ns : List Int} {vs : List V}, toInts xs = some ns → Reps K W xs vs → vs = ns.map V.int
  | [], ns, vs, h, r => by
    cases h
    exact r
  | .int i :: xs, ns, vs, h, ⟨v, q, e1, e2, e3⟩ => by
    have h' : (toInts xs).map (i :: ·) = some ns := h
    cases z : toInts xs with
    | none => rw [z] at h'; cases h'
    | some ms =>
      rw [z] at h'
      cases h'
      subst e1
      have e2' : v = .int i := e2
      rw [toInts_rep z e3, e2']; rfl
  | .non :: _, _, _, h, _ => by cases h
  | .bl _ :: _, _, _, h, _ => by cases h
  | .str _ :: _, _, _, h, _ => by cases h
  | .ref _ :: _, _, _, h, _ => by cases h
  | .lst _ :: _, _, _, h, _ => by cases h
  | .tup _ :: _, _, _, h, _ => by cases h
  | .fro _ :: _, _, _, h, _ => by cases h
  | .obj _ _ _ :: _, _, _, h, _ => by cases h
  | .exc _ _ _ _ _ :: _, _, _, h, _ => by cases h
def toBls : List D → Option (List Bool)
  | [] => some []
  | .bl i :: r => (toBls r).map (i :: ·)
  | _ :: _ => none
theorem toBls_map : ∀ ns : List Bool, toBls (ns.map D.bl) = some ns
  | [] => rfl
  | i :: r => by
    show (toBls (r.map D.bl)).map (i :: ·) = some (i :: r)
    rw [toBls_map r]; rfl
theorem toBls_rep {K : PySem.W.Frag} {W : Hp} : ∀ {xs : List D} {ns : List Bool} {vs : List V}, toBls xs = some ns → Reps K W xs vs → vs = ns.map V.bl
  | [], ns, vs, h, r => by
    cases h
    exact r
  | .bl i :: xs, ns, vs, h, ⟨v, q, e1, e2, e3⟩ => by
    have h' : (toBls xs).map (i :: ·) = some ns := h
    cases z : toBls xs with
    | none => rw [z] at h'; cases h'
    | some ms =>
      rw [z] at h'
      cases h'
      subst e1
      have e2' : v = .bl i := e2
      rw [toBls_rep z e3, e2']; rfl
  | .non :: _, _, _, h, _ => by cases h
  | .int _ :: _, _, _, h, _ => by cases h
  | .str _ :: _, _, _, h, _ => by cases h
  | .ref _ :: _, _, _, h, _ => by cases h
  | .lst _ :: _, _, _, h, _ => by cases h
  | .tup _ :: _, _, _, h, _ => by cases h
  | .fro _ :: _, _, _, h, _ => by cases h
  | .obj _ _ _ :: _, _, _, h, _ => by cases h
  | .exc _ _ _ _ _ :: _, _, _, h, _ => by cases h

/-! ### operators on ints -/
section
variable {X : Cx}
def oI (C : Int → Int → Prop) (g : Int → Int → D) : O2 := fun S x y Q => match x, y with
  | .int i, .int j => C i j ∧ Q (g i j) S
  | _, _ => False
def oI0 (g : Int → Int → D) : O2 := fun S x y Q => match x, y with
  | .int i, .int j => Q (g i j) S
  | _, _ => False
theorem OpR.imp {f : Value → Value → Sem Value} {r r' : R2} (h : OpR X f r) (i : ∀ x y H Q, r' x y H Q → r x y H Q) : OpR X f r' := fun pins s σ H x y v u Q I rx ry q => h pins s σ H x y v u Q I rx ry (i _ _ _ _ q)
theorem opI_of {f : Value → Value → Sem Value} {C : Int → Int → Prop} {g : Int → Int → D} {gv : Int → Int → V} (h : OpR X f (rI C gv)) (r : ∀ i j W, Rep X.K W (g i j) (gv i j)) : OpR X f (lOp X.K (oI C g)) :=
  OpR.imp h fun x y H Q ⟨W, S, a, b, Q0, ok, ra, rb, ho, cv⟩ => by
    cases a with
    | int i =>
      cases b with
      | int j => exact ⟨i, j, ra, rb, ho.1, cv _ S _ W H ho.2 Stp.refl ok (r i j W)⟩
      | _ => exact ho.elim
    | _ => exact ho.elim
theorem opI0_of {f : Value → Value → Sem Value} {g : Int → Int → D} {gv : Int → Int → V} (h : OpR X f (rI0 gv)) (r : ∀ i j W, Rep X.K W (g i j) (gv i j)) : OpR X f (lOp X.K (oI0 g)) :=
  OpR.imp h fun x y H Q ⟨W, S, a, b, Q0, ok, ra, rb, ho, cv⟩ => by
    cases a with
    | int i =>
      cases b with
      | int j => exact ⟨i, j, ra, rb, cv _ S _ W H ho Stp.refl ok (r i j W)⟩
      | _ => exact ho.elim
    | _ => exact ho.elim
abbrev oSub : O2 := oI0 fun i j => .int (i - j)
abbrev oMul : O2 := oI CMulW fun i j => .int (i * j)
abbrev oDiv : O2 := oI CDivW fun i j => .int (i / j)
abbrev oMod : O2 := oI (fun _ j => 0 < j) fun i j => .int (i % j)
abbrev oPow : O2 := oI CPow fun i j => .int (i ^ j.toNat)
abbrev oLt : O2 := oI0 fun i j => .bl (decide (i < j))
abbrev oLe : O2 := oI0 fun i j => .bl (decide (i ≤ j))
abbrev oGt : O2 := oI0 fun i j => .bl (decide (j < i))
abbrev oGe : O2 := oI0 fun i j => .bl (decide (j ≤ i))
theorem opd_sub : OpR X (binaryOp .Sub) (lOp X.K oSub) := opI0_of op_sub fun _ _ _ => rfl
theorem opd_mul : OpR X (binaryOp .Mult) (lOp X.K oMul) := opI_of op_mulW fun _ _ _ => rfl
theorem opd_div : OpR X (binaryOp .FloorDiv) (lOp X.K oDiv) := opI_of op_fdivW fun _ _ _ => rfl
theorem opd_mod : OpR X (binaryOp .Mod) (lOp X.K oMod) := opI_of op_mod fun _ _ _ => rfl
theorem opd_pow : OpR X (binaryOp .Pow) (lOp X.K oPow) := opI_of op_pow fun _ _ _ => rfl
theorem opd_lt : OpR X (compareOp .Lt) (lOp X.K oLt) := opI0_of op_lt fun _ _ _ => rfl
theorem opd_le : OpR X (compareOp .LtE) (lOp X.K oLe) := opI0_of op_le fun _ _ _ => rfl
theorem opd_gt : OpR X (compareOp .Gt) (lOp X.K oGt) := opI0_of op_gt fun _ _ _ => rfl
theorem opd_ge : OpR X (compareOp .GtE) (lOp X.K oGe) := opI0_of op_ge fun _ _ _ => rfl
theorem iopd_add : OpR X (inplaceOp .Add) (lOp X.K (oI0 fun i j => .int (i + j))) := opI0_of iop_add fun _ _ _ => rfl
theorem iopd_sub : OpR X (inplaceOp .Sub) (lOp X.K oSub) := opI0_of iop_sub fun _ _ _ => rfl
/-- -i -/
def oNeg : O1 := fun S x Q => match x with
  | .int i => Q (.int (-i)) S
  | _ => False
theorem und_neg : UnR X (unaryOp .USub) (lU X.K oNeg) := fun pins s σ H x v Q I rx h => by
  obtain ⟨W, S, a, Q0, ok, ra, ho, cv⟩ := h
  cases a with
  | int i => exact un_neg pins s σ H x v Q I rx ⟨i, ra, cv _ S _ W H ho Stp.refl ok rfl⟩
  | _ => exact ho.elim

/-! ### + of ints, texts, lists, tuples -/
def oCatL : O2 := fun S x y Q => some! (seqM S x) fun xs => some! (seqM S y) fun ys => xs.length + ys.length ≤ sizeLine ∧ Q (.lst (xs ++ ys)) S
def oAdd : O2 := fun S x y Q => match x, y with
  | .int i, .int j => Q (.int (i + j)) S
  | .str a, .str b => a.length + b.length ≤ sizeLine ∧ Q (.str (a ++ b)) S
  | .tup xs, .tup ys => xs.length + ys.length ≤ sizeLine ∧ Q (.tup (xs ++ ys)) S
  | x, y => oCatL S x y Q
theorem opd_add : OpR X (binaryOp .Add) (lOp X.K oAdd) := fun pins s σ H x y v u Q I rx ry h => by
  obtain ⟨W, S, a, b, Q0, ok, ra, rb, ho, cv⟩ := h
  have catL : oCatL S a b Q0 → wpAny (model X.prog X.w) X.A (binaryOp .Add v u) (EP X pins σ Q) X.xe s := fun z => by
    obtain ⟨xs, e1, z⟩ := some!_ex z
    obtain ⟨ys, e2, hz, z⟩ := some!_ex z
    obtain ⟨p, vs, rfl, hp, r1⟩ := seqM_rep ok ra e1
    obtain ⟨q, ws, rfl, hq, r2⟩ := seqM_rep ok rb e2
    refine op_cat pins s σ H _ _ v u Q I rx ry ⟨p, q, vs, ws, rfl, rfl, hp, hq, by rw [r1.length, r2.length]; exact hz, fun o no => ?_⟩
    have n := ok.fresh no
    exact cv _ S _ _ _ z (ok.stW no) (ok.newW no) ⟨o, _, rfl, upd_same, (r1.append r2).mono (same_new n.1)⟩
  cases a with
  | int i =>
    cases b with
    | int j => exact op_add pins s σ H _ _ v u Q I rx ry ⟨i, j, ra, rb, cv _ S _ W H ho Stp.refl ok rfl⟩
    | _ => exact catL ho
  | str i =>
    cases b with
    | str j => exact op_add_str pins s σ H _ _ v u Q I rx ry ⟨i, j, ra, rb, ho.1, cv _ S _ W H ho.2 Stp.refl ok rfl⟩
    | _ => exact catL ho
  | tup xs =>
    cases b with
    | tup ys =>
      obtain ⟨p, vs, rfl, hp, r1⟩ := id ra
      obtain ⟨q, ws, rfl, hq, r2⟩ := id rb
      have hp' := sqT_mono ok.vis hp
      have hq' := sqT_mono ok.vis hq
      refine op_catA pins s σ H _ _ v u Q I rx ry ⟨p, q, vs, ws, rfl, rfl, hp', hq', by rw [r1.length, r2.length]; exact ho.1, fun z => ?_, fun z1 z2 => ?_, fun z1 z2 o no => ?_⟩
      · subst z
        have e : xs = [] := List.eq_nil_of_length_eq_zero (by rw [← r1.length]; rfl)
        subst e
        exact cv _ S _ W H ho.2 Stp.refl ok ⟨q, ws, rfl, hq, r2⟩
      · subst z2
        have e : ys = [] := List.eq_nil_of_length_eq_zero (by rw [← r2.length]; rfl)
        subst e
        refine cv _ S _ W H ho.2 Stp.refl ok ⟨p, vs, rfl, hp, ?_⟩
        rw [List.append_nil]; exact r1
      · have n := ok.fresh no
        exact cv _ S _ _ _ ho.2 (ok.stW no) (ok.newW no) ⟨o, _, rfl, SqT.of upd_same, (r1.append r2).mono (same_new n.1)⟩
    | _ => exact catL ho
  | _ => exact catL ho

/-! ### == and != of data -/
mutual
def toP : D → PyData
  | .non => .none
  | .bl b => .bool b
  | .int i => .int i
  | .str x => .str x
  | .lst xs => .list (toPs xs)
  | .fro xs => .list (toPs xs)
  | .tup xs => .tuple (toPs xs)
  | .ref _ => .dict []
  | .obj _ _ _ => .dict []
  | .exc _ _ _ _ _ => .dict []
def toPs : List D → List PyData
  | [] => []
  | d :: r => toP d :: toPs r
end
mutual
theorem dp_of {K : PySem.W.Frag} {W H : Hp} (e : Same W H) : ∀ {d : D} {v : V}, Rep K W d v → (toP d).canLay0 = true → Dp K H v (toP d)
  | .non, _, h, _ => by rw [show _ = V.non from h]; exact .non
  | .bl b, _, h, _ => by rw [show _ = V.bl b from h]; exact .bl b
  | .int i, _, h, _ => by rw [show _ = V.int i from h]; exact .int i
  | .str x, _, h, _ => by rw [show _ = V.str x from h]; exact .str x
  | .lst xs, _, ⟨a, vs, e1, e2, e3⟩, c => by subst e1; exact .lst (SqL.of (e _ _ e2)) (dps_of e e3 c)
  | .fro xs, _, ⟨a, vs, e1, e2, e3⟩, c => by subst e1; exact .lst (sqL_mono e e2) (dps_of e e3 c)
  | .tup xs, _, ⟨a, vs, e1, e2, e3⟩, c => by subst e1; exact .tup (sqT_mono e e2) (dps_of e e3 c)
  | .ref _, _, _, c => by cases c
  | .obj _ _ _, _, _, c => by cases c
  | .exc _ _ _ _ _, _, _, c => by cases c
theorem dps_of {K : PySem.W.Frag} {W H : Hp} (e : Same W H) : ∀ {d : List D} {v : List V}, Reps K W d v → PyData.canLayAll0 (toPs d) = true → DpAll K H v (toPs d)
  | [], _, h, _ => by rw [show _ = ([] : List V) from h]; exact .nil
  | d :: ds, _, ⟨v, r, e1, e2, e3⟩, c => by
    subst e1
    have c' : ((toP d).canLay0 && PyData.canLayAll0 (toPs ds)) = true := c
    rw [Bool.and_eq_true] at c'
    exact .cons (dp_of e e2 c'.1) (dps_of e e3 c'.2)
end
/-- a mutable list by what it holds -/
def resD (S : Sto) (d : D) : D := match d with
  | .ref a => match S a with
    | some (.lst xs) => .lst xs
    | _ => .ref a
  | _ => d
theorem dp_res {K : PySem.W.Frag} {W H : Hp} {S : Sto} (ok : Ok K W S H) {d : D} {v : V} (r : Rep K W d v) (c : SeqAt.shaped (toP (resD S d)) = true) : Dp K H v (toP (resD S d)) := by
  have c0 := SeqAt.canLay_of_shaped c
  cases d with
  | ref a =>
    have e : resD S (.ref a) = (match S a with | some (.lst xs) => .lst xs | _ => .ref a) := rfl
    cases q : S a with
    | none => rw [e, q] at c0; cases c0
    | some m =>
      cases m with
      | lst xs =>
        rw [e, q] at c0 ⊢
        obtain ⟨o, e1, vs, e2, e3⟩ := ok.sto _ _ q
        subst e2
        have r' : v = .ref a := r
        subst r'
        exact .lst (SqL.of e1) (dps_of ok.vis e3 c0)
      | _ => rw [e, q] at c0; cases c0
  | _ => exact dp_of ok.vis r c0
def eqD (S : Sto) (x y : D) : Bool := PyData.eqv (toP (resD S x)) (toP (resD S y))
def shD (S : Sto) (x : D) : Bool := SeqAt.shaped (toP (resD S x))
def oEq : O2 := fun S x y Q => shD S x = true ∧ shD S y = true ∧ Q (.bl (eqD S x y)) S
def oNe : O2 := fun S x y Q => shD S x = true ∧ shD S y = true ∧ Q (.bl (!eqD S x y)) S
theorem opd_eq (hu : X.A.units + 64 < cLine) : OpR X (compareOp .Eq) (lOp X.K oEq) := OpR.imp (op_eqD hu) fun x y H Q ⟨W, S, a, b, Q0, ok, ra, rb, ho, cv⟩ =>
  ⟨_, _, dp_res ok ra ho.1, dp_res ok rb ho.2.1, ho.1, ho.2.1, cv _ S _ W H ho.2.2 Stp.refl ok rfl⟩
theorem opd_ne (hu : X.A.units + 64 < cLine) : OpR X (compareOp .NotEq) (lOp X.K oNe) := OpR.imp (op_neD hu) fun x y H Q ⟨W, S, a, b, Q0, ok, ra, rb, ho, cv⟩ =>
  ⟨_, _, dp_res ok ra ho.1, dp_res ok rb ho.2.1, ho.1, ho.2.1, cv _ S _ W H ho.2.2 Stp.refl ok rfl⟩
/-- x is None, x is not None -/
def isNon : D → Bool
  | .non => true
  | _ => false
def oIsN : O2 := fun S x y Q => match y with
  | .non => Q (.bl (isNon x)) S
  | _ => False
def oNotN : O2 := fun S x y Q => match y with
  | .non => Q (.bl (!isNon x)) S
  | _ => False
theorem isNon_rep {K : PySem.W.Frag} {W : Hp} {d : D} {v : V} (r : Rep K W d v) : decide (v = .non) = isNon d := by
  cases d with
  | non => rw [show v = V.non from r]; rfl
  | bl b => rw [show v = V.bl b from r]; rfl
  | int b => rw [show v = V.int b from r]; rfl
  | str b => rw [show v = V.str b from r]; rfl
  | ref b => rw [show v = V.ref b from r]; rfl
  | lst xs => obtain ⟨a, vs, e1, _⟩ := r; rw [e1]; rfl
  | fro xs => obtain ⟨a, vs, e1, _⟩ := r; rw [e1]; rfl
  | tup xs => obtain ⟨a, vs, e1, _⟩ := r; rw [e1]; rfl
  | obj C N xs => obtain ⟨a, dx, gs, vs, e1, _⟩ := r; rw [e1]; rfl
  | exc a dd C f x => rw [show v = V.ref a from r.1]; rfl
theorem opd_isN : OpR X (compareOp .Is) (lOp X.K oIsN) := OpR.imp op_isN fun x y H Q ⟨W, S, a, b, Q0, ok, ra, rb, ho, cv⟩ => by
  cases b with
  | non => exact ⟨rb, by rw [isNon_rep ra]; exact cv _ S _ W H ho Stp.refl ok rfl⟩
  | _ => exact ho.elim
theorem opd_notN : OpR X (compareOp .IsNot) (lOp X.K oNotN) := OpR.imp op_notN fun x y H Q ⟨W, S, a, b, Q0, ok, ra, rb, ho, cv⟩ => by
  cases b with
  | non => exact ⟨rb, by rw [isNon_rep ra]; exact cv _ S _ W H ho Stp.refl ok rfl⟩
  | _ => exact ho.elim

/-! ### items, slices -/
def oIx : O2 := fun S x y Q => match y with
  | .int i => some! (seqA S x) fun xs => some! (atI xs i) fun d => Q d S
  | _ => False
theorem reps_at {K : PySem.W.Frag} {W : Hp} {xs : List D} {vs : List V} {i : Int} {d : D} (r : Reps K W xs vs) (h : atI xs i = some d) : ∃ v, atI vs i = some v ∧ Rep K W d v := by
  unfold atI at h ⊢
  rw [r.length]
  cases q : ixN xs.length i with
  | none => rw [q] at h; cases h
  | some j =>
    rw [q] at h
    obtain ⟨v, e, rv⟩ := r.get (i := j) (d := d) h
    exact ⟨v, e, rv⟩
theorem IxR.imp {r r' : R2} (h : IxR X r) (i : ∀ x y H Q, r' x y H Q → r x y H Q) : IxR X r' := fun va sl pins s σ H x y v u Q I rx ry q hs => h va sl pins s σ H x y v u Q I rx ry (i _ _ _ _ q) hs
theorem ixd : IxR X (lOp X.K oIx) := IxR.imp (ix_list.or ix_tup) fun x y H Q ⟨W, S, a, b, Q0, ok, ra, rb, ho, cv⟩ => by
  cases b with
  | int i =>
    obtain ⟨xs, e1, ho⟩ := some!_ex ho
    obtain ⟨d, e2, ho⟩ := some!_ex ho
    obtain ⟨p, vs, rfl, hq, r1⟩ := seqA_rep ok ra e1
    obtain ⟨v, e3, rv⟩ := reps_at r1 e2
    rcases hq with hq | hq
    · exact .inl ⟨p, vs, i, v, rfl, rb, hq, e3, cv d S v W H ho Stp.refl ok rv⟩
    · exact .inr ⟨p, vs, i, v, rfl, rb, hq, e3, cv d S v W H ho Stp.refl ok rv⟩
  | _ => exact ho.elim
def cutD (xs : List D) (lo hi : Option Int) : List D := (xs.drop (HT.sIx xs.length 0 lo)).take (HT.sIx xs.length xs.length hi - HT.sIx xs.length 0 lo)
theorem reps_cut {K : PySem.W.Frag} {W : Hp} {xs : List D} {vs : List V} {lo hi : Option Int} (r : Reps K W xs vs) : Reps K W (cutD xs lo hi) (cutV vs lo hi) := by
  unfold cutD cutV
  rw [r.length]
  exact (r.drop _).take _
/-- a slice: of a list a new list, of a tuple a tuple -/
def oSl (S : Sto) (x : D) (lo hi : Option Int) (Q : Qd) : Prop := match x with
  | .tup xs => Q (.tup (cutD xs lo hi)) S
  | x => some! (seqL S x) fun xs => Q (.lst (cutD xs lo hi)) S
def lSl (K : PySem.W.Frag) : V → Option Int → Option Int → Hp → VK → Prop := fun x lo hi H Q => ∃ W S a Q0, Ok K W S H ∧ Rep K W a x ∧ oSl S a lo hi Q0 ∧ CV K W S H Q0 Q
theorem sld : SlR X (lSl X.K) := by
  intro pins s σ H x v vl vu lo hi sl Q I rx hs pl pu h
  obtain ⟨W, S, a, Q0, ok, ra, ho, cv⟩ := h
  have onL : some! (seqL S a) (fun xs => Q0 (.lst (cutD xs lo hi)) S) → ∃ T id, typeLookup (.type T) "__getitem__" = pure (some (.builtin id)) ∧ s.TypeIs v T ∧ wpAny (model X.prog X.w) X.A (getItem v (.ref sl)) (EP X pins σ Q) X.xe s := fun z => by
    obtain ⟨xs, e1, z⟩ := some!_ex z
    obtain ⟨p, vs, rfl, hp, r1⟩ := seqL_rep ok ra e1
    refine sl_list pins s σ H _ v vl vu lo hi sl Q I rx hs pl pu ⟨p, vs, rfl, hp, fun o no => ?_⟩
    have n := ok.fresh no
    exact cv _ S _ _ _ z (ok.stW no) (ok.newW no) ⟨o, _, rfl, upd_same, (reps_cut r1).mono (same_new n.1)⟩
  cases a with
  | tup xs =>
    obtain ⟨p, vs, rfl, hp, r1⟩ := id ra
    have hp' := sqT_mono ok.vis hp
    refine sl_tupA pins s σ H _ v vl vu lo hi sl Q I rx hs pl pu ⟨p, vs, rfl, hp', fun z => ?_, fun z o no => ?_⟩
    · refine cv _ S _ W H ho Stp.refl ok ⟨p, vs, rfl, hp, ?_⟩
      have e : cutD xs lo hi = xs := by
        unfold cutD
        rw [r1.length] at z
        rw [z.1, z.2, Nat.sub_zero, List.drop_zero, List.take_length]
      rw [e]; exact r1
    · have n := ok.fresh no
      exact cv _ S _ _ _ ho (ok.stW no) (ok.newW no) ⟨o, _, rfl, SqT.of upd_same, (reps_cut r1).mono (same_new n.1)⟩
  | _ => exact onL ho
end
end DL
set_option Elab.async false
set_option linter.all false
set_option maxRecDepth 100000
set_option maxHeartbeats 400000
/-! The data layer, part e: slices' parts, built-in functions. -/
namespace DL
open PySem PySem.Spec PyProof.Rows L2
section
variable {X : Cx}
/-- the parts of a slice -/
abbrev WPo := DE → Sto → (Option Int → Sto → Prop) → XQ → Prop
def lO (K : PySem.W.Frag) (Wx : WX) (w : WPo) : TO := fun σ H Q => ∃ W env S Q0 X0, Ok K W S H ∧ Sl K W env σ ∧ w env S Q0 X0 ∧ (∀ o S' W' H', Q0 o S' → Stp W S H W' S' H' → Ok K W' S' H' → Q o H') ∧ CXc K W S H X0 (fun c d H' => Wx c d σ H')
structure PDo (X : Cx) (e : Option Expr) (w : WPo) : Prop where
  run : ∀ Wx, Takes X Wx → PO X e (lO X.K Wx w)
def wNoP : WPo := fun _ S Q _ => Q none S
def wP (w : WPe) : WPo := fun env S Q X => w env S (fun d S1 => match d with | .int i => Q (some i) S1 | _ => False) X
theorem PO.imp {e : Option Expr} {t t' : TO} (h : PO X e t) (i : ∀ σ H Q, t' σ H Q → t σ H Q) : PO X e t' := ⟨fun pins s σ H Q I q => h.run pins s σ H Q I (i σ H Q q)⟩
theorem pdo_none : PDo X none wNoP := ⟨fun Wx tk => PO.imp po_none fun σ H Q ⟨W, env, S, Q0, X1, ok, sl, hw, cv, cx⟩ => cv none S W H hw Stp.refl ok⟩
variable {e : Expr} {w : WPe} {wl wu : WPo} {lo hi : Option Expr} {pos p2 : Pos}
theorem pdo_some (h : PD X e w) : PDo X (some e) (wP w) := ⟨fun Wx tk => PO.imp (po_some (h.run Wx tk)) fun σ H Q ⟨W, env, S, Q0, X1, ok, sl, hw, cv, cx⟩ => ⟨W, env, S, _, X1, ok, sl, hw, fun d S1 v W1 H1 h1 s1 ok1 r1 => by
  cases d with
  | int i => exact ⟨i, r1, cv (some i) S1 W1 H1 h1 s1 ok1⟩
  | _ => exact h1.elim, cx⟩⟩
def wSl (we : WPe) (wl wu : WPo) : WPe := fun env S Q X => we env S (fun x S1 => wl env S1 (fun lo S2 => wu env S2 (fun hi S3 => oSl S3 x lo hi Q) X) X) X
theorem pd_slice (he : PD X e w) (hl : PDo X lo wl) (hu : PDo X hi wu) : PD X (.Subscript e (.Slice lo hi none p2) pos) (wSl w wl wu) :=
  ⟨fun Wx tk => PE.imp (pe_slice sld (he.run Wx tk) (hl.run Wx tk) (hu.run Wx tk)) fun σ H Q ⟨W, env, S, Q0, X1, ok, sl, hw, cv, cx⟩ => ⟨W, env, S, _, X1, ok, sl, hw, fun d S1 v W1 H1 h1 s1 ok1 r1 =>
    ⟨W1, env, S1, _, X1, ok1, sl.mono s1.vis, h1, fun o S2 W2 H2 h2 s2 ok2 => ⟨W2, env, S2, _, X1, ok2, sl.mono (s1.trans s2).vis, h2, fun o2 S3 W3 H3 h3 s3 ok3 =>
      ⟨W3, S3, d, Q0, ok3, r1.mono (s2.trans s3).vis, h3, cv.mono (s1.trans (s2.trans s3))⟩, cx.mono (s1.trans s2)⟩, cx.mono s1⟩, cx⟩⟩

/-! ### built-in functions -/
def wCB (o : OC) (wa : WPa) : WPe := fun env S Q X => wa env S (fun ds S1 => o S1 ds Q) X
variable {x : Str} {p : Pos} {es : List Expr} {wa : WPa} {fid T : String} {o : OC}
theorem cb_go {K : PySem.W.Frag} {Wx : WX} {σ : L2.St} {H : Hp} {Q : VK} (h : lE K Wx (wCB o wa) σ H Q) : tCB (lC K o) (lA K Wx wa) σ H Q := by
  obtain ⟨W, env, S, Q0, X1, ok, sl, hw, cv, cx⟩ := h
  exact ⟨W, env, S, _, X1, ok, sl, hw, fun ds S1 vs W1 H1 h1 s1 ok1 r1 => ⟨W1, S1, ds, Q0, ok1, r1, h1, cv.mono s1⟩, cx⟩
theorem pd_callB (hc : CallR X (.builtin fid) (lC X.K o)) (hm : X.mg x = none) (hv : bootBuiltins x = some (.builtin fid)) (ha : PDa X (e :: es) wa) (hg : Gl X x := by rfl) (hn : x ≠ "__name__" := by decide) (hdb : (x == ("__debug__" : Str)) = false := by decide)
    (he : starEach (e :: es) X.env = (false, eval e X.env) :: starEach es X.env := by rfl) (hpl : (backTo pos (starEach es X.env)).any (·.1) = false := by rfl) : PD X (.Call (.Name x p) (e :: es) [] pos) (wCB o wa) :=
  ⟨fun Wx tk => PE.imp (pe_callB hc hg hm hv (ha.run Wx tk) hn hdb he hpl) fun _ _ _ h => cb_go h⟩
theorem pd_callTy (hc : CallR X (.type T) (lC X.K o)) (hm : X.mg x = none) (hv : bootBuiltins x = some (.type T)) (ha : PDa X (e :: es) wa) (hg : Gl X x := by rfl) (hn : x ≠ "__name__" := by decide) (hdb : (x == ("__debug__" : Str)) = false := by decide)
    (he : starEach (e :: es) X.env = (false, eval e X.env) :: starEach es X.env := by rfl) (hpl : (backTo pos (starEach es X.env)).any (·.1) = false := by rfl) : PD X (.Call (.Name x p) (e :: es) [] pos) (wCB o wa) :=
  ⟨fun Wx tk => PE.imp (pe_callTy hc hg hm hv (ha.run Wx tk) hn hdb he hpl) fun _ _ _ h => cb_go h⟩
theorem CallR.imp {f : Value} {r r' : List V → Hp → VK → Prop} (h : CallR X f r) (i : ∀ xs H Q, r' xs H Q → r xs H Q) : CallR X f r' := fun pins s σ H xs us Q I rv q => h pins s σ H xs us Q I rv (i _ _ _ q)
theorem reps1 {K : PySem.W.Frag} {W : Hp} {d : D} {vs : List V} (r : Reps K W [d] vs) : ∃ v, vs = [v] ∧ Rep K W d v := by
  obtain ⟨v, q, e1, e2, e3⟩ := r
  have e3' : q = [] := e3
  subst e1 e3'
  exact ⟨v, rfl, e2⟩
theorem reps2 {K : PySem.W.Frag} {W : Hp} {d e : D} {vs : List V} (r : Reps K W [d, e] vs) : ∃ v u, vs = [v, u] ∧ Rep K W d v ∧ Rep K W e u := by
  obtain ⟨v, q, e1, e2, e3⟩ := r
  obtain ⟨u, rfl, e4⟩ := reps1 e3
  exact ⟨v, u, e1, e2, e4⟩
def one (ds : List D) (k : D → Prop) : Prop := match ds with
  | [d] => k d
  | _ => False
def two (ds : List D) (k : D → D → Prop) : Prop := match ds with
  | [d, e] => k d e
  | _ => False
def asI (d : D) (k : Int → Prop) : Prop := match d with
  | .int i => k i
  | _ => False
theorem one_ex {ds : List D} {k : D → Prop} (h : one ds k) : ∃ d, ds = [d] ∧ k d := by
  cases ds with
  | nil => exact h.elim
  | cons d r =>
    cases r with
    | nil => exact ⟨d, rfl, h⟩
    | cons e r => exact h.elim
theorem two_ex {ds : List D} {k : D → D → Prop} (h : two ds k) : ∃ d e, ds = [d, e] ∧ k d e := by
  cases ds with
  | nil => exact h.elim
  | cons d r =>
    cases r with
    | nil => exact h.elim
    | cons e r =>
      cases r with
      | nil => exact ⟨d, e, rfl, h⟩
      | cons f r => exact h.elim
theorem asI_ex {d : D} {k : Int → Prop} (h : asI d k) : ∃ i, d = .int i ∧ k i := by
  cases d with
  | int i => exact ⟨i, rfl, h⟩
  | _ => exact h.elim
/-- len of a list, a tuple, a text -/
def oLen : OC := fun S ds Q => one ds fun d => match d with
  | .str x => x.length ≤ sizeLine ∧ Q (.int (x.length : Nat)) S
  | d => some! (seqA S d) fun xs => Q (.int (xs.length : Nat)) S
theorem cd_len : CallR X (.builtin "len") (lC X.K oLen) := CallR.imp (call_len_seq.or call_len_str) fun vs H Q ⟨W, S, ds, Q0, ok, r, ho, cv⟩ => by
  obtain ⟨d, rfl, ho⟩ := one_ex ho
  obtain ⟨v, rfl, rv⟩ := reps1 r
  have key : some! (seqA S d) (fun xs => Q0 (.int (xs.length : Nat)) S) → (∃ p ys, [v] = [.ref p] ∧ (SqL X.K H p ys ∨ SqT X.K H p ys) ∧ Q (.int ys.length) H) := fun z => by
    obtain ⟨xs, e1, z⟩ := some!_ex z
    obtain ⟨q, ws, rfl, hq, r1⟩ := seqA_rep ok rv e1
    refine ⟨q, ws, rfl, hq, ?_⟩
    rw [r1.length]
    exact cv _ S _ W H z Stp.refl ok rfl
  cases d with
  | str x => exact .inr ⟨x, by rw [show v = .str x from rv], ho.1, cv _ S _ W H ho.2 Stp.refl ok rfl⟩
  | _ => exact .inl (key ho)
/-- int(n) -/
def oInt : OC := fun S ds Q => one ds fun d => match d with
  | .int i => Q (.int i) S
  | .bl k => Q (.int (if k = true then 1 else 0)) S
  | _ => False
theorem cd_int : CallR X (.type "int") (lC X.K oInt) := CallR.imp call_int1 fun vs H Q ⟨W, S, ds, Q0, ok, r, ho, cv⟩ => by
  obtain ⟨d, rfl, ho⟩ := one_ex ho
  obtain ⟨v, rfl, rv⟩ := reps1 r
  cases d with
  | int i => exact .inl ⟨i, by rw [show v = .int i from rv], cv _ S _ W H ho Stp.refl ok rfl⟩
  | bl k =>
    refine .inr ⟨k, by rw [show v = .bl k from rv], cv _ S _ W H ho Stp.refl ok ?_⟩
    cases k <;> rfl
  | _ => exact ho.elim
/-- max, min of two ints -/
def oMax2 : OC := fun S ds Q => two ds fun a b => asI a fun i => asI b fun j => Q (.int (max i j)) S
def oMin2 : OC := fun S ds Q => two ds fun a b => asI a fun i => asI b fun j => Q (.int (min i j)) S
theorem cd_max2 (hc : X.calm = true) : CallR X (.builtin "max") (lC X.K oMax2) := CallR.imp (call_max2 hc) fun vs H Q ⟨W, S, ds, Q0, ok, r, ho, cv⟩ => by
  obtain ⟨a, b, rfl, ho⟩ := two_ex ho
  obtain ⟨i, rfl, ho⟩ := asI_ex ho
  obtain ⟨j, rfl, ho⟩ := asI_ex ho
  obtain ⟨v, u, rfl, rv, ru⟩ := reps2 r
  have e : (if j > i then j else i) = max i j := by
    by_cases h : j > i
    · rw [if_pos h]; omega
    · rw [if_neg h]; omega
  exact ⟨i, j, by rw [show v = .int i from rv, show u = .int j from ru], by rw [e]; exact cv _ S _ W H ho Stp.refl ok rfl⟩
theorem cd_min2 (hc : X.calm = true) : CallR X (.builtin "min") (lC X.K oMin2) := CallR.imp (call_min2 hc) fun vs H Q ⟨W, S, ds, Q0, ok, r, ho, cv⟩ => by
  obtain ⟨a, b, rfl, ho⟩ := two_ex ho
  obtain ⟨i, rfl, ho⟩ := asI_ex ho
  obtain ⟨j, rfl, ho⟩ := asI_ex ho
  obtain ⟨v, u, rfl, rv, ru⟩ := reps2 r
  have e : (if j < i then j else i) = min i j := by
    by_cases h : j < i
    · rw [if_pos h]; omega
    · rw [if_neg h]; omega
  exact ⟨i, j, by rw [show v = .int i from rv, show u = .int j from ru], by rw [e]; exact cv _ S _ W H ho Stp.refl ok rfl⟩
/-- list(xs), tuple(xs) -/
def oList : OC := fun S ds Q => one ds fun d => some! (seqA S d) fun xs => Q (.lst xs) S
def oListM : OC := fun S ds Q => one ds fun d => some! (seqA S d) fun xs => ∀ p, S p = none → Q (.ref p) (put S p (.lst xs))
def oTuple : OC := fun S ds Q => one ds fun d => some! (seqA S d) fun xs => Q (.tup xs) S
theorem cd_list : CallR X (.type "list") (lC X.K oList) := CallR.imp call_list_of fun vs H Q ⟨W, S, ds, Q0, ok, r, ho, cv⟩ => by
  obtain ⟨d, rfl, ho⟩ := one_ex ho
  obtain ⟨v, rfl, rv⟩ := reps1 r
  obtain ⟨xs, e1, z⟩ := some!_ex ho
  obtain ⟨q, ws, rfl, hq, r1⟩ := seqA_rep ok rv e1
  refine ⟨q, ws, rfl, hq, fun l hl => ?_⟩
  have n := ok.fresh hl
  exact cv _ S _ _ _ z (ok.stW hl) (ok.newW hl) ⟨l, ws, rfl, upd_same, r1.mono (same_new n.1)⟩
theorem cd_listM : CallR X (.type "list") (lC X.K oListM) := CallR.imp call_list_of fun vs H Q ⟨W, S, ds, Q0, ok, r, ho, cv⟩ => by
  obtain ⟨d, rfl, ho⟩ := one_ex ho
  obtain ⟨v, rfl, rv⟩ := reps1 r
  obtain ⟨xs, e1, z⟩ := some!_ex ho
  obtain ⟨q, ws, rfl, hq, r1⟩ := seqA_rep ok rv e1
  refine ⟨q, ws, rfl, hq, fun l hl => ?_⟩
  exact cv _ _ _ _ _ (z l (ok.fresh hl).2) (ok.stS hl) (ok.newS hl ⟨ws, rfl, r1⟩) rfl
theorem cd_tuple : CallR X (.type "tuple") (lC X.K oTuple) := CallR.imp call_tuple_of fun vs H Q ⟨W, S, ds, Q0, ok, r, ho, cv⟩ => by
  obtain ⟨d, rfl, ho⟩ := one_ex ho
  obtain ⟨v, rfl, rv⟩ := reps1 r
  obtain ⟨xs, e1, z⟩ := some!_ex ho
  have onL : seqL S d = some xs → ∃ p ys, [v] = [.ref p] ∧ ((SqL X.K H p ys ∧ ∀ l, H l = none → Q (.ref l) (upd H l (.tup ys))) ∨ (SqT X.K H p ys ∧ Q (.ref p) H)) := fun e2 => by
    obtain ⟨q, ws, rfl, hq, r1⟩ := seqL_rep ok rv e2
    refine ⟨q, ws, rfl, .inl ⟨hq, fun l hl => ?_⟩⟩
    have n := ok.fresh hl
    exact cv _ S _ _ _ z (ok.stW hl) (ok.newW hl) ⟨l, ws, rfl, SqT.of upd_same, r1.mono (same_new n.1)⟩
  cases d with
  | tup ys =>
    cases e1
    obtain ⟨q, ws, rfl, hq, r1⟩ := id rv
    exact ⟨q, ws, rfl, .inr ⟨sqT_mono ok.vis hq, cv _ S _ W H z Stp.refl ok rv⟩⟩
  | _ => exact onL e1
/-- all, any of a list of bools; sum, max, min, sorted of a list of ints -/
def oAll : OC := fun S ds Q => one ds fun d => some! (seqL S d) fun xs => some! (toBls xs) fun bs => Q (.bl (bs.all id)) S
def oAny : OC := fun S ds Q => one ds fun d => some! (seqL S d) fun xs => some! (toBls xs) fun bs => Q (.bl (bs.any id)) S
def oSum : OC := fun S ds Q => one ds fun d => some! (seqL S d) fun xs => some! (toInts xs) fun bs => Q (.int bs.sum) S
def oMaxL : OC := fun S ds Q => one ds fun d => some! (seqL S d) fun xs => some! (toInts xs) fun bs => 0 < bs.length ∧ ∀ m, m ∈ bs → (∀ y, y ∈ bs → y ≤ m) → Q (.int m) S
def oMinL : OC := fun S ds Q => one ds fun d => some! (seqL S d) fun xs => some! (toInts xs) fun bs => 0 < bs.length ∧ ∀ m, m ∈ bs → (∀ y, y ∈ bs → m ≤ y) → Q (.int m) S
def oSorted : OC := fun S ds Q => one ds fun d => some! (seqL S d) fun xs => some! (toInts xs) fun bs => ∀ ms : List Int, ms.Perm bs → ms.Pairwise (· ≤ ·) → Q (.lst (ms.map D.int)) S
theorem reps_ints {K : PySem.W.Frag} {W : Hp} : ∀ {ns : List Int}, Reps K W (ns.map D.int) (ns.map V.int)
  | [] => rfl
  | i :: r => ⟨_, _, rfl, rfl, reps_ints⟩
theorem listI {K : PySem.W.Frag} {W : Hp} {S : Sto} {H : Hp} {d : D} {v : V} {k : List Int → Prop} (ok : Ok K W S H) (r : Rep K W d v) (h : some! (seqL S d) fun xs => some! (toInts xs) k) : ∃ a ns, v = .ref a ∧ SqL K H a (ns.map V.int) ∧ k ns := by
  obtain ⟨xs, e1, h⟩ := some!_ex h
  obtain ⟨ns, e2, h⟩ := some!_ex h
  obtain ⟨q, ws, rfl, hq, r1⟩ := seqL_rep ok r e1
  rw [toInts_rep e2 r1] at hq
  exact ⟨q, ns, rfl, hq, h⟩
theorem listB {K : PySem.W.Frag} {W : Hp} {S : Sto} {H : Hp} {d : D} {v : V} {k : List Bool → Prop} (ok : Ok K W S H) (r : Rep K W d v) (h : some! (seqL S d) fun xs => some! (toBls xs) k) : ∃ a ns, v = .ref a ∧ SqL K H a (ns.map V.bl) ∧ k ns := by
  obtain ⟨xs, e1, h⟩ := some!_ex h
  obtain ⟨ns, e2, h⟩ := some!_ex h
  obtain ⟨q, ws, rfl, hq, r1⟩ := seqL_rep ok r e1
  rw [toBls_rep e2 r1] at hq
  exact ⟨q, ns, rfl, hq, h⟩
theorem cd_all (hc : X.calm = true) : CallR X (.builtin "all") (lC X.K oAll) := CallR.imp (cr_all hc) fun vs H Q ⟨W, S, ds, Q0, ok, r, ho, cv⟩ => by
  obtain ⟨d, rfl, ho⟩ := one_ex ho
  obtain ⟨v, rfl, rv⟩ := reps1 r
  obtain ⟨a, bs, rfl, h1, h2⟩ := listB ok rv ho
  exact ⟨a, bs, rfl, h1, cv _ S _ W H h2 Stp.refl ok rfl⟩
theorem cd_any (hc : X.calm = true) : CallR X (.builtin "any") (lC X.K oAny) := CallR.imp (cr_any hc) fun vs H Q ⟨W, S, ds, Q0, ok, r, ho, cv⟩ => by
  obtain ⟨d, rfl, ho⟩ := one_ex ho
  obtain ⟨v, rfl, rv⟩ := reps1 r
  obtain ⟨a, bs, rfl, h1, h2⟩ := listB ok rv ho
  exact ⟨a, bs, rfl, h1, cv _ S _ W H h2 Stp.refl ok rfl⟩
theorem cd_sum (hc : X.calm = true) : CallR X (.builtin "sum") (lC X.K oSum) := CallR.imp (cr_sum hc) fun vs H Q ⟨W, S, ds, Q0, ok, r, ho, cv⟩ => by
  obtain ⟨d, rfl, ho⟩ := one_ex ho
  obtain ⟨v, rfl, rv⟩ := reps1 r
  obtain ⟨a, bs, rfl, h1, h2⟩ := listI ok rv ho
  exact ⟨a, bs, rfl, h1, cv _ S _ W H h2 Stp.refl ok rfl⟩
theorem cd_maxL (hc : X.calm = true) : CallR X (.builtin "max") (lC X.K oMaxL) := CallR.imp (cr_max hc) fun vs H Q ⟨W, S, ds, Q0, ok, r, ho, cv⟩ => by
  obtain ⟨d, rfl, ho⟩ := one_ex ho
  obtain ⟨v, rfl, rv⟩ := reps1 r
  obtain ⟨a, bs, rfl, h1, h2, h3⟩ := listI ok rv ho
  exact ⟨a, bs, rfl, h1, h2, fun m q1 q2 => cv _ S _ W H (h3 m q1 q2) Stp.refl ok rfl⟩
theorem cd_minL (hc : X.calm = true) : CallR X (.builtin "min") (lC X.K oMinL) := CallR.imp (cr_min hc) fun vs H Q ⟨W, S, ds, Q0, ok, r, ho, cv⟩ => by
  obtain ⟨d, rfl, ho⟩ := one_ex ho
  obtain ⟨v, rfl, rv⟩ := reps1 r
  obtain ⟨a, bs, rfl, h1, h2, h3⟩ := listI ok rv ho
  exact ⟨a, bs, rfl, h1, h2, fun m q1 q2 => cv _ S _ W H (h3 m q1 q2) Stp.refl ok rfl⟩
theorem cd_sorted : CallR X (.builtin "sorted") (lC X.K oSorted) := CallR.imp cr_sortedI fun vs H Q ⟨W, S, ds, Q0, ok, r, ho, cv⟩ => by
  obtain ⟨d, rfl, ho⟩ := one_ex ho
  obtain ⟨v, rfl, rv⟩ := reps1 r
  obtain ⟨a, bs, rfl, h1, h2⟩ := listI ok rv ho
  refine ⟨a, bs, rfl, h1, fun ms p q1 q2 hp => ?_⟩
  have n := ok.fresh hp
  exact cv _ S _ _ _ (h2 ms q1 q2) (ok.stW hp) (ok.newW hp) ⟨p, _, rfl, upd_same, reps_ints⟩

/-! ### isinstance of a built-in class -/
/-- the name of a value's type -/
def tyN (S : Sto) (d : D) : Option String := match d with
  | .non => some "NoneType"
  | .bl _ => some "bool"
  | .int _ => some "int"
  | .str _ => some "str"
  | .tup _ => some "tuple"
  | d => (seqL S d).map fun _ => "list"
theorem tyN_rep {K : PySem.W.Frag} {W : Hp} {S : Sto} {H : Hp} {d : D} {v : V} {n : String} (ok : Ok K W S H) (r : Rep K W d v) (h : tyN S d = some n) : TyX K H v (.type n) := by
  have onL : (seqL S d).map (fun _ => "list") = some n → TyX K H v (.type n) := fun z => by
    cases q : seqL S d with
    | none => rw [q] at z; cases z
    | some xs =>
      rw [q] at z
      cases z
      obtain ⟨a, vs, rfl, hq, _⟩ := seqL_rep ok r q
      rcases hq with (hq | ⟨o, hq⟩) | ⟨o, its, m, hk, hc, _⟩
      · exact .base (.lst hq)
      · exact .base (.frz hq)
      · exact .kList hk hc
  cases d with
  | non => cases h; rw [show v = V.non from r]; exact .base .non
  | bl b => cases h; rw [show v = V.bl b from r]; exact .base (.bl b)
  | int b => cases h; rw [show v = V.int b from r]; exact .base (.int b)
  | str b => cases h; rw [show v = V.str b from r]; exact .base (.str b)
  | tup xs =>
    cases h
    obtain ⟨a, vs, rfl, hq, _⟩ := r
    have hq' := sqT_mono ok.vis hq
    rcases hq' with (hq | ⟨o, hq⟩) | ⟨o, its, m, hk, hc, _⟩
    · exact .base (.tup hq)
    · exact .fTuple hq
    · exact .kTuple hk hc
  | _ => exact onL h
/-- isinstance(e, T) -/
def wIsi (T : String) (w : WPe) : WPe := fun env S Q X => w env S (fun d S1 => some! (tyN S1 d) fun n => some! (kitB n T) fun b => Q (.bl b) S1) X
theorem pd_isi {e2 : Expr} (he : PD X e w) (hc : PE X e2 (tC (.ty T))) (hm : X.mg "isinstance" = none) (hg : Gl X "isinstance" := by rfl)
    (hs : starEach [e, e2] X.env = (false, eval e X.env) :: starEach [e2] X.env := by rfl) (hs2 : starEach [e2] X.env = [(false, eval e2 X.env)] := by rfl) (hpl : (backTo pos (starEach [e2] X.env)).any (·.1) = false := by rfl) :
    PD X (.Call (.Name "isinstance" p) [e, e2] [] pos) (wIsi T w) :=
  ⟨fun Wx tk => PE.imp (pe_callB call_isi hg hm (by decide +kernel) (pa_cons (he.run Wx tk) (pa_cons hc pa_nil hs2) hs) (by decide) (by decide) hs hpl) fun σ H Q ⟨W, env, S, Q0, X1, ok, sl, hw, cv, cx⟩ => ⟨W, env, S, _, X1, ok, sl, hw, fun d S1 v W1 H1 h1 s1 ok1 r1 => by
    obtain ⟨n, e1, h1⟩ := some!_ex h1
    obtain ⟨b, e2, h1⟩ := some!_ex h1
    exact ⟨v, .ty T, _, _, b, rfl, .ty T, tyN_rep ok1 r1 e1, kit_ty e2, cv _ S1 _ W1 H1 h1 s1 ok1 rfl⟩, cx⟩⟩
end
end DL
set_option Elab.async false
set_option linter.all false
set_option maxRecDepth 100000
set_option maxHeartbeats 1000000
/-! The data layer, part f: fields, methods of lists, statements, defs. -/
namespace DL
open PySem PySem.Spec PyProof.Rows L2

/-! ### chains -/
section
variable {X : Cx} {a b c : Expr} {pos : Pos} {wa wb wc : WPe} {o o' : O2} {op op' : CmpOp}
theorem chain_go {K : PySem.W.Frag} {Wx : WX} {σ : L2.St} {H : Hp} {Q : VK} (h : lE K Wx (wChain o o' wa wb wc) σ H Q) : tChain (lOp K o) (lOp K o') (lE K Wx wa) (lE K Wx wb) (lE K Wx wc) σ H Q := by
  obtain ⟨W, env, S, Q0, X1, ok, sl, hw, cv, cx⟩ := h
  refine ⟨W, env, S, _, X1, ok, sl, hw, fun x S1 v W1 H1 h1 s1 ok1 r1 => ?_, cx⟩
  refine ⟨W1, env, S1, _, X1, ok1, sl.mono s1.vis, h1, fun y S2 u W2 H2 h2 s2 ok2 r2 => ?_, cx.mono s1⟩
  refine ⟨W2, S2, x, y, _, ok2, r1.mono s2.vis, r2, h2, fun k S3 t W3 H3 h3 s3 ok3 r3 => ?_⟩
  cases k with
  | bl k =>
    refine ⟨k, r3, ?_⟩
    cases k with
    | true =>
      refine iteT ⟨W3, env, S3, _, X1, ok3, sl.mono (s1.trans (s2.trans s3)).vis, (if_pos rfl).mp h3, fun z S4 v4 W4 H4 h4 s4 ok4 r4 => ?_, cx.mono (s1.trans (s2.trans s3))⟩
      exact ⟨W4, S4, y, z, Q0, ok4, r2.mono (s3.trans s4).vis, r4, h4, cv.mono (s1.trans (s2.trans (s3.trans s4)))⟩
    | false => exact iteF (cv _ S3 _ W3 H3 ((if_neg Bool.false_ne_true).mp h3) (s1.trans (s2.trans s3)) ok3 rfl)
  | _ => exact h3.elim
theorem pd_chain (ho : OpR X (compareOp op) (lOp X.K o)) (ho' : OpR X (compareOp op') (lOp X.K o')) (ha : PD X a wa) (hb : PD X b wb) (hc : PD X c wc) (hm : lastMarks [op, op'] [b, c] = false := by with_unfolding_all rfl) :
    PD X (.Compare a [op, op'] [b, c] pos) (wChain o o' wa wb wc) := ⟨fun Wx tk => PE.imp (pe_chain ho ho' (ha.run Wx tk) (hb.run Wx tk) (hc.run Wx tk) hm) fun _ _ _ h => chain_go h⟩
theorem pdt_chain (ho : OpR X (compareOp op) (lOp X.K o)) (ho' : OpR X (compareOp op') (lOp X.K o')) (ha : PD X a wa) (hb : PD X b wb) (hc : PD X c wc) (hm : lastMarks [op, op'] [b, c] = false := by with_unfolding_all rfl) :
    PDt X (.Compare a [op, op'] [b, c] pos) (wTest (wChain o o' wa wb wc)) := ⟨fun Wx tk => PT.imp (pt_chain ho ho' (ha.run Wx tk) (hb.run Wx tk) (hc.run Wx tk) hm) fun σ H Q ⟨W, env, S, Q0, X1, ok, sl, hw, cv, cx⟩ => chain_go ⟨W, env, S, _, X1, ok, sl, hw, fun d S1 v W1 H1 h1 s1 ok1 r1 => by
    cases d with
    | bl k =>
      have e : v = .bl k := r1
      exact ⟨k, e, cv k S1 W1 H1 h1 s1 ok1⟩
    | _ => exact h1.elim, cx⟩⟩
end

/-! ### fields -/
/-- field i of an instance of C with the fields N -/
def fldD (C : Addr) (N : List Str) (i : Nat) (S : Sto) (d : D) (k : D → Prop) : Prop := match d with
  | .ref a => match S a with
    | some (.ins C' N' xs) => (C' = C ∧ N' = N) ∧ some! (getV xs i) k
    | _ => False
  | .obj C' N' xs => (C' = C ∧ N' = N) ∧ some! xs[i]? k
  | _ => False
theorem fldD_rep {K : PySem.W.Frag} {W : Hp} {S : Sto} {H : Hp} {C : Addr} {N : List Str} {i : Nat} {f : Str} {d : D} {v : V} {k : D → Prop} (ok : Ok K W S H) (r : Rep K W d v) (hi : N[i]? = some f) (h : fldD C N i S d k) :
    ∃ a dx gs x u, v = .ref a ∧ H a = some (.ins C dx gs) ∧ gs.lookup f = some u ∧ Rep K W x u ∧ k x := by
  cases d with
  | ref a =>
    have h' : (match S a with | some (.ins C' N' xs) => (C' = C ∧ N' = N) ∧ some! (getV xs i) k | _ => False) := h
    cases q : S a with
    | none => rw [q] at h'; exact h'.elim
    | some mo =>
      rw [q] at h'
      cases mo with
      | ins C' N' xs =>
        obtain ⟨⟨rfl, rfl⟩, h'⟩ := h'
        obtain ⟨x, e, h'⟩ := some!_ex h'
        obtain ⟨o, e3, dx, gs, rfl, fr⟩ := ok.sto _ _ q
        obtain ⟨u, e5, ru⟩ := fr.is i f x hi e
        exact ⟨a, dx, gs, x, u, r, e3, e5, ru, h'⟩
      | _ => exact h'.elim
  | obj C' N' xs =>
    obtain ⟨⟨rfl, rfl⟩, h'⟩ := h
    obtain ⟨x, e, h'⟩ := some!_ex h'
    obtain ⟨a, dx, gs, vs, rfl, e2, e3, _, rr⟩ := r
    obtain ⟨u, e5, ru⟩ := rr.get e
    exact ⟨a, dx, gs, x, u, rfl, ok.vis _ _ e2, (e3 i f hi).trans e5, ru, h'⟩
  | _ => exact h.elim
def wFld (C : Addr) (N : List Str) (i : Nat) (w : WPe) : WPe := fun env S Q X => w env S (fun o S1 => fldD C N i S1 o fun d => Q d S1) X
/-- o.f = e -/
def setD (C : Addr) (N : List Str) (i : Nat) (S : Sto) (o : D) (d : D) (k : Sto → Prop) : Prop := match o with
  | .ref a => match S a with
    | some (.ins C' N' xs) => (C' = C ∧ N' = N) ∧ k (put S a (.ins C N (setV xs i d)))
    | _ => False
  | _ => False
theorem setD_rep {K : PySem.W.Frag} {W : Hp} {S : Sto} {H : Hp} {C : Addr} {N : List Str} {i : Nat} {f : Str} {o d : D} {v u : V} {k : Sto → Prop} (ok : Ok K W S H) (r : Rep K W o v) (rd : Rep K W d u) (hi : N[i]? = some f) (h : setD C N i S o d k) :
    ∃ a dx gs S', v = .ref a ∧ H a = some (.ins C dx gs) ∧ gs.length < 1000 ∧ Stp W S H W S' (upd H a (.ins C dx (putF f u gs))) ∧ Ok K W S' (upd H a (.ins C dx (putF f u gs))) ∧ k S' := by
  cases o with
  | ref a =>
    have h' : (match S a with | some (.ins C' N' xs) => (C' = C ∧ N' = N) ∧ k (put S a (.ins C N (setV xs i d))) | _ => False) := h
    cases q : S a with
    | none => rw [q] at h'; exact h'.elim
    | some mo =>
      rw [q] at h'
      cases mo with
      | ins C' N' xs =>
        obtain ⟨⟨rfl, rfl⟩, h'⟩ := h'
        obtain ⟨o, e3, dx, gs, rfl, fr⟩ := ok.sto _ _ q
        exact ⟨a, dx, gs, _, r, e3, fr.lt, ok.stC (m := .ins C' N' (setV xs i d)) q, ok.chg (m := .ins C' N' (setV xs i d)) q ⟨dx, _, rfl, fr.put hi rd⟩, h'⟩
      | _ => exact h'.elim
  | _ => exact h.elim

/-! ### statements -/
def wSeq (w u : WPs) : WPs := fun env S q => w env S { q with nx := fun e s => u e s q }
def wNext : WPs := fun env S q => q.nx env S
def xcQ (q : QS) (env : DE) : XQ := fun C fs S => q.xc C fs env S
def wSet (i : Nat) (w : WPe) : WPs := fun env S q => w env S (fun d S1 => q.nx (setV env i d) S1) (xcQ q env)
def wDrop (w : WPe) : WPs := fun env S q => w env S (fun _ S1 => q.nx env S1) (xcQ q env)
def wRet (w : WPe) : WPs := fun env S q => w env S q.rt (xcQ q env)
def wRetN : WPs := fun _ S q => q.rt .non S
def wIf (t : WPt) (u v : WPs) : WPs := fun env S q => t env S (fun k S1 => if k = true then u env S1 q else v env S1 q) (xcQ q env)
def wBreak : WPs := fun env S q => q.bk env S
def wCont : WPs := fun env S q => q.ct env S
def wAug (i : Nat) (o : O2) (w : WPe) : WPs := fun env S q => some! (getV env i) fun x => w env S (fun y S1 => o S1 x y fun z S2 => q.nx (setV env i z) S2) (xcQ q env)
def wSetF (C : Addr) (N : List Str) (i : Nat) (wo we : WPe) : WPs := fun env S q => we env S (fun d S1 => wo env S1 (fun o S2 => setD C N i S2 o d fun S3 => q.nx env S3) (xcQ q env)) (xcQ q env)
def wAugF (C : Addr) (N : List Str) (i : Nat) (op : O2) (wo we : WPe) : WPs := fun env S q => wo env S (fun o S1 => fldD C N i S1 o fun x => we env S1 (fun y S2 => op S2 x y fun z S3 => setD C N i S3 o z fun S4 => q.nx env S4) (xcQ q env)) (xcQ q env)
/-- o[i] = e for a list -/
def setIx (S : Sto) (o i d : D) (k : Sto → Prop) : Prop := match o, i with
  | .ref a, .int j => match S a with
    | some (.lst xs) => some! (ixN xs.length j) fun n => k (put S a (.lst (xs.set n d)))
    | _ => False
  | _, _ => False
def wSetI (wo wi we : WPe) : WPs := fun env S q => we env S (fun d S1 => wo env S1 (fun o S2 => wi env S2 (fun i S3 => setIx S3 o i d fun S4 => q.nx env S4) (xcQ q env)) (xcQ q env)) (xcQ q env)
section
variable {X : Cx} {e o i' : Expr} {st : Stmt} {rest : List Stmt} {pos pos' tpos : Pos} {w we wo wi : WPe} {ws u v : WPs} {t : WPt} {i : Nat} {x f : Str} {C : Addr} {N : List Str}
theorem CXc.of {K : PySem.W.Frag} {W : Hp} {S : Sto} {H : Hp} {Wx : WX} {q : QS} {D : Ends} {env : DE} {σ : L2.St} (h : CS K Wx W S H q D) (sl : Sl K W env σ) : CXc K W S H (xcQ q env) (fun c d H' => Wx c d σ H') :=
  fun C fs S' dd gs W' H' q1 s1 ok1 e1 r1 => h.xc C fs env S' dd gs σ W' H' q1 s1 ok1 (sl.mono s1.vis) e1 r1
theorem pss_nilD : PDss X [] wNext := ⟨fun Wx tk => PSs.imp pss_nil fun D σ H ⟨W, env, S, q, ok, sl, hl, hw, cs⟩ => cs.nx env S σ W H hw Stp.refl ok sl hl⟩
theorem pss_consD (h1 : PDs X st ws) (h2 : PDss X rest u) : PDss X (st :: rest) (wSeq ws u) :=
  ⟨fun Wx tk => PSs.imp (pss_cons (h1.run Wx tk) (h2.run Wx tk)) fun D σ H ⟨W, env, S, q, ok, sl, hl, hw, cs⟩ =>
    ⟨W, env, S, _, ok, sl, hl, hw, fun e S1 σ1 W1 H1 h1 s1 ok1 sl1 hl1 => ⟨W1, e, S1, q, ok1, sl1, hl1, h1, cs.mono s1⟩, cs.rt, cs.bk, cs.ct, cs.xc⟩⟩
theorem pss_oneD (h1 : PDs X st ws) : PDss X [st] ws := ⟨fun Wx tk => pss_one (h1.run Wx tk)⟩
theorem pds_set (hN : X.N.Nodup) (hi : X.N[i]? = some x) (hx : Loc X.env.scope x) (he : PD X e w) (hs : swapsWith e (some (.Name x pos')) pos.line X.env = pure false := by rfl) (hf : X.fn x = true ∨ X.env.scope.names.lookup x = some .local := by first | exact .inl rfl | exact .inr rfl | assumption) :
    PDs X (.Assign [.Name x pos'] e pos) (wSet i w) :=
  ⟨fun Wx tk => PS.imp (ps_set hN hi hx (he.run Wx tk) hs hf) fun D σ H ⟨W, env, S, q, ok, sl, hl, hw, cs⟩ => ⟨W, env, S, _, _, ok, sl, hw, fun d S1 v W1 H1 h1 s1 ok1 r1 =>
    cs.nx _ S1 _ W1 H1 h1 s1 ok1 ((sl.mono s1.vis).set (by rw [hl]; exact lt_of_some hi) r1) (by rw [List.length_set]; exact hl), CXc.of cs sl⟩⟩
theorem pds_drop (he : PD X e w) (hs : swapsWith e none pos.line X.env = pure false := by rfl) : PDs X (.Expr e pos) (wDrop w) :=
  ⟨fun Wx tk => PS.imp (ps_expr (he.run Wx tk) hs) fun D σ H ⟨W, env, S, q, ok, sl, hl, hw, cs⟩ => ⟨W, env, S, _, _, ok, sl, hw, fun d S1 v W1 H1 h1 s1 ok1 r1 => cs.nx _ S1 _ W1 H1 h1 s1 ok1 (sl.mono s1.vis) hl, CXc.of cs sl⟩⟩
theorem pds_ret (he : PD X e w) : PDs X (.Return (some e) pos) (wRet w) :=
  ⟨fun Wx tk => PS.imp (ps_ret (he.run Wx tk)) fun D σ H ⟨W, env, S, q, ok, sl, hl, hw, cs⟩ => ⟨W, env, S, _, _, ok, sl, hw, fun d S1 v W1 H1 h1 s1 ok1 r1 => cs.rt d S1 v W1 H1 h1 s1 ok1 r1, CXc.of cs sl⟩⟩
theorem pds_retN : PDs X (.Return none pos) wRetN := ⟨fun Wx tk => PS.imp ps_retN fun D σ H ⟨W, env, S, q, ok, sl, hl, hw, cs⟩ => cs.rt .non S .non W H hw Stp.refl ok rfl⟩
theorem pds_pass : PDs X (.Pass pos) wNext := ⟨fun Wx tk => PS.imp ps_pass fun D σ H ⟨W, env, S, q, ok, sl, hl, hw, cs⟩ => cs.nx env S σ W H hw Stp.refl ok sl hl⟩
theorem pds_doc {y : Str} {j : Nat} : PDs X (.Expr (.Constant (.str y) j pos) pos') wNext := ⟨fun Wx tk => PS.imp ps_doc fun D σ H ⟨W, env, S, q, ok, sl, hl, hw, cs⟩ => cs.nx env S σ W H hw Stp.refl ok sl hl⟩
theorem pds_break : PDs X (.Break pos) wBreak := ⟨fun Wx tk => PS.imp ps_break fun D σ H ⟨W, env, S, q, ok, sl, hl, hw, cs⟩ => cs.bk env S σ W H hw Stp.refl ok sl hl⟩
theorem pds_cont : PDs X (.Continue pos) wCont := ⟨fun Wx tk => PS.imp ps_continue fun D σ H ⟨W, env, S, q, ok, sl, hl, hw, cs⟩ => cs.ct env S σ W H hw Stp.refl ok sl hl⟩
theorem pds_if {a b : List Stmt} (hc : PDt X e t) (ha : PDss X a u) (hb : PDss X b v) : PDs X (.If e a b pos) (wIf t u v) :=
  ⟨fun Wx tk => PS.imp (ps_if (hc.run Wx tk) (ha.run Wx tk) (hb.run Wx tk)) fun D σ H ⟨W, env, S, q, ok, sl, hl, hw, cs⟩ => ⟨W, env, S, _, _, ok, sl, hw, fun k S1 W1 H1 h1 s1 ok1 => by
    cases k with
    | true => exact iteT ⟨W1, env, S1, q, ok1, sl.mono s1.vis, hl, (if_pos rfl).mp h1, cs.mono s1⟩
    | false => exact iteF ⟨W1, env, S1, q, ok1, sl.mono s1.vis, hl, (if_neg Bool.false_ne_true).mp h1, cs.mono s1⟩, CXc.of cs sl⟩⟩
theorem pds_aug {op : Operator} {ob : O2} (hN : X.N.Nodup) (hi : X.N[i]? = some x) (hx : Loc X.env.scope x) (he : PD X e w) (ho : OpR X (inplaceOp op) (lOp X.K ob)) (hf : X.fn x = true ∨ X.env.scope.names.lookup x = some .local := by first | exact .inl rfl | exact .inr rfl | assumption) :
    PDs X (.AugAssign (.Name x pos') op e pos) (wAug i ob w) :=
  ⟨fun Wx tk => PS.imp (ps_aug hN hi hx (he.run Wx tk) ho hf) fun D σ H ⟨W, env, S, q, ok, sl, hl, hw, cs⟩ => by
    obtain ⟨d, e1, hw⟩ := some!_ex hw
    obtain ⟨v, e2, rv⟩ := sl i d e1
    refine ⟨v, e2, W, env, S, _, _, ok, sl, hw, fun y S1 u W1 H1 h1 s1 ok1 r1 => ?_, CXc.of cs sl⟩
    refine ⟨W1, S1, d, y, _, ok1, rv.mono s1.vis, r1, h1, fun z S2 t W2 H2 h2 s2 ok2 r2 => ?_⟩
    exact cs.nx _ S2 _ W2 H2 h2 (s1.trans s2) ok2 ((sl.mono (s1.trans s2).vis).set (by rw [hl]; exact lt_of_some hi) r2) (by rw [List.length_set]; exact hl)⟩
theorem pd_fld (c : Cls X.K C) (n : NoAttr X.K C f) (hi : N[i]? = some f) (he : PD X e w) (hb : attributeBase e f X.env (eval e X.env) = eval e X.env := by rfl) : PD X (.Attribute e f pos) (wFld C N i w) :=
  ⟨fun Wx tk => PE.imp (pe_fld (he.run Wx tk) hb) fun σ H Q ⟨W, env, S, Q0, X1, ok, sl, hw, cv, cx⟩ => ⟨W, env, S, _, X1, ok, sl, hw, fun d S1 v W1 H1 h1 s1 ok1 r1 => by
    obtain ⟨a, dx, gs, y, u, rfl, e1, e2, ru, h2⟩ := fldD_rep ok1 r1 hi h1
    exact ⟨a, C, dx, gs, u, rfl, e1, c, n, e2, cv y S1 u W1 H1 h2 s1 ok1 ru⟩, cx⟩⟩
theorem pds_setF (c : Cls X.K C) (n : NoAttr X.K C f) (hi : N[i]? = some f) (ho : PD X o wo) (he : PD X e we) (hs : swapsWith e (some (.Attribute o f pos')) pos.line X.env = pure false := by rfl) : PDs X (.Assign [.Attribute o f pos'] e pos) (wSetF C N i wo we) :=
  ⟨fun Wx tk => PS.imp (ps_fld (ho.run Wx tk) (he.run Wx tk) hs) fun D σ H ⟨W, env, S, q, ok, sl, hl, hw, cs⟩ => ⟨W, env, S, _, _, ok, sl, hw, fun d S1 v W1 H1 h1 s1 ok1 r1 =>
    ⟨W1, env, S1, _, _, ok1, sl.mono s1.vis, h1, fun y S2 u W2 H2 h2 s2 ok2 r2 => by
      obtain ⟨a, dx, gs, S3, rfl, e1, e2, st3, ok3, h3⟩ := setD_rep ok2 r2 (r1.mono s2.vis) hi h2
      exact ⟨a, C, dx, gs, rfl, e1, c, n, e2, cs.nx _ S3 _ W2 _ h3 (s1.trans (s2.trans st3)) ok3 (sl.mono (s1.trans s2).vis) hl⟩, CXc.of (cs.mono s1) (sl.mono s1.vis)⟩, CXc.of cs sl⟩⟩
theorem inop_of {op : Operator} {rd : V → V → Hp → VK → Prop} (h : OpR X (inplaceOp op) rd) : InOp X op rd := fun pins s σ H x y u v Q I rx ry q => h pins s σ H x y u v Q I rx ry q
theorem pds_augF {op : Operator} {ob : O2} (c : Cls X.K C) (n : NoAttr X.K C f) (hi : N[i]? = some f) (ho : PD X o wo) (he : PD X e we) (hop : OpR X (inplaceOp op) (lOp X.K ob)) : PDs X (.AugAssign (.Attribute o f tpos) op e pos) (wAugF C N i ob wo we) :=
  ⟨fun Wx tk => PS.imp (ps_fldaug (ho.run Wx tk) (he.run Wx tk) (inop_of hop)) fun D σ H ⟨W, env, S, q, ok, sl, hl, hw, cs⟩ => ⟨W, env, S, _, _, ok, sl, hw, fun d S1 v W1 H1 h1 s1 ok1 r1 => by
    obtain ⟨a, dx, gs, y, u, rfl, e1, e2, ru, h2⟩ := fldD_rep ok1 r1 hi h1
    refine ⟨a, C, dx, gs, u, rfl, e1, c, n, e2, W1, env, S1, _, _, ok1, sl.mono s1.vis, h2, fun z S2 t W2 H2 h3 s2 ok2 r2 => ?_, CXc.of (cs.mono s1) (sl.mono s1.vis)⟩
    refine ⟨W2, S2, y, z, _, ok2, ru.mono s2.vis, r2, h3, fun z2 S3 t2 W3 H3 h4 s3 ok3 r3 => ?_⟩
    obtain ⟨a2, dx2, gs2, S4, e3, e4, e5, st4, ok4, h5⟩ := setD_rep ok3 (r1.mono (s2.trans s3).vis) r3 hi h4
    cases e3
    exact ⟨dx2, gs2, e4, e5, cs.nx _ S4 _ W3 _ h5 (s1.trans (s2.trans (s3.trans st4))) ok4 (sl.mono (s1.trans (s2.trans s3)).vis) hl⟩, CXc.of cs sl⟩⟩
theorem setIx_rep {K : PySem.W.Frag} {W : Hp} {S : Sto} {H : Hp} {o i d : D} {v vi u : V} {k : Sto → Prop} (ok : Ok K W S H) (r : Rep K W o v) (ri : Rep K W i vi) (rd : Rep K W d u) (h : setIx S o i d k) :
    ∃ a xs n j S', v = .ref a ∧ vi = .int j ∧ H a = some (.lst xs) ∧ ixN xs.length j = some n ∧ Stp W S H W S' (upd H a (.lst (xs.set n u))) ∧ Ok K W S' (upd H a (.lst (xs.set n u))) ∧ k S' := by
  cases o with
  | ref a =>
    cases i with
    | int j =>
      have h' : (match S a with | some (.lst xs) => some! (ixN xs.length j) fun n => k (put S a (.lst (xs.set n d))) | _ => False) := h
      cases q : S a with
      | none => rw [q] at h'; exact h'.elim
      | some mo =>
        rw [q] at h'
        cases mo with
        | lst xs =>
          obtain ⟨n, e1, h'⟩ := some!_ex h'
          obtain ⟨o, e3, vs, rfl, rv⟩ := ok.sto _ _ q
          exact ⟨a, vs, n, j, _, r, ri, e3, by rw [rv.length]; exact e1, ok.stC (m := .lst (xs.set n d)) q, ok.chg (m := .lst (xs.set n d)) q ⟨_, rfl, rv.set rd n⟩, h'⟩
        | _ => exact h'.elim
    | _ => exact h.elim
  | _ => exact h.elim
theorem pds_setI {ip : Expr} {p2 : Pos} (ho : PD X o wo) (hi : PD X ip wi) (he : PD X e we) (hs : swapsWithSole [.Subscript o ip p2] e pos.line X.env = pure false := by rfl) (hw : swappedStores [.Subscript o ip p2] e X.env = pure none := by rfl)
    (h1 : (assignEach [.Subscript o ip p2] X.env).map (·.2) = [assign (.Subscript o ip p2) X.env] := by rfl)
    (ha : ∀ v, assign (.Subscript o ip p2) X.env v = (do
      let ov ← holding [v] (eval o X.env)
      let iv ← holding [v, ov] (eval ip X.env)
      standAt p2
      holding [v, ov, iv] (setItem ov iv v)
      release [v, ov, iv] []) := by intro _; rfl) : PDs X (.Assign [.Subscript o ip p2] e pos) (wSetI wo wi we) :=
  ⟨fun Wx tk => PS.imp (ps_asg (he.run Wx tk) (pg_sub (ho.run Wx tk) (hi.run Wx tk) set_list ha) hs hw h1) fun D σ H ⟨W, env, S, q, ok, sl, hl, hw, cs⟩ => ⟨W, env, S, _, _, ok, sl, hw, fun d S1 v W1 H1 h1 s1 ok1 r1 =>
    ⟨W1, env, S1, _, _, ok1, sl.mono s1.vis, h1, fun o1 S2 u W2 H2 h2 s2 ok2 r2 => ⟨W2, env, S2, _, _, ok2, sl.mono (s1.trans s2).vis, h2, fun i1 S3 t W3 H3 h3 s3 ok3 r3 => by
      obtain ⟨a, xs, n, j, S4, rfl, rfl, e1, e2, st4, ok4, h4⟩ := setIx_rep ok3 (r2.mono s3.vis) r3 (r1.mono (s2.trans s3).vis) h3
      exact ⟨a, xs, j, n, rfl, rfl, e1, e2, cs.nx _ S4 _ W3 _ h4 (s1.trans (s2.trans (s3.trans st4))) ok4 (sl.mono (s1.trans (s2.trans s3)).vis) hl⟩, CXc.of (cs.mono (s1.trans s2)) (sl.mono (s1.trans s2).vis)⟩, CXc.of (cs.mono s1) (sl.mono s1.vis)⟩, CXc.of cs sl⟩⟩
end

/-! ### methods of a mutable list -/
def mutL (S : Sto) (d : D) (k : Addr → List D → Prop) : Prop := match d with
  | .ref a => match S a with
    | some (.lst xs) => k a xs
    | _ => False
  | _ => False
theorem mutL_rep {K : PySem.W.Frag} {W : Hp} {S : Sto} {H : Hp} {d : D} {v : V} {k : Addr → List D → Prop} (ok : Ok K W S H) (r : Rep K W d v) (h : mutL S d k) : ∃ a xs vs, d = .ref a ∧ v = .ref a ∧ S a = some (.lst xs) ∧ H a = some (.lst vs) ∧ Reps K W xs vs ∧ k a xs := by
  cases d with
  | ref a =>
    have h' : (match S a with | some (.lst xs) => k a xs | _ => False) := h
    cases q : S a with
    | none => rw [q] at h'; exact h'.elim
    | some mo =>
      rw [q] at h'
      cases mo with
      | lst xs =>
        obtain ⟨o, e3, vs, rfl, rv⟩ := ok.sto _ _ q
        exact ⟨a, xs, vs, rfl, r, q, e3, rv, h'⟩
      | _ => exact h'.elim
  | _ => exact h.elim
def lM (K : PySem.W.Frag) (o : OM) : V → List V → Hp → VK → Prop := fun x xs H Q => ∃ W S d ds Q0, Ok K W S H ∧ Rep K W d x ∧ Reps K W ds xs ∧ o S d ds Q0 ∧ CV K W S H Q0 Q
def wMt (o : OM) (wo : WPe) (wa : WPa) : WPe := fun env S Q X => wo env S (fun x S1 => mutL S1 x fun _ _ => wa env S1 (fun ds S2 => o S2 x ds Q) X) X
theorem MtR.imp {X : Cx} {id : String} {r r' : V → List V → Hp → VK → Prop} (h : MtR X id r) (i : ∀ x xs H Q, r' x xs H Q → r x xs H Q) : MtR X id r' := fun pins s σ H x xs v us Q I rx rs q => h pins s σ H x xs v us Q I rx rs (i _ _ _ _ q)
section
variable {X : Cx} {o e : Expr} {es : List Expr} {name : Str} {apos cpos : Pos} {mid : String} {om : OM} {wo : WPe} {wa : WPa}
theorem pd_lm (slot : Slot "list" name mid) (hty : typeOf (.builtin mid) = pure (.type "method_descriptor")) (hm : MtR X mid (lM X.K om)) (ho : PD X o wo) (ha : PDa X (e :: es) wa)
    (hbase : attributeBase o name X.env (eval o X.env) = eval o X.env := by rfl)
    (hfew : ((backTo cpos (starEach (e :: es) X.env)).all (fun x => !x.1) && (backToKw cpos (keywordEach [] X.env)).all (fun x => x.1.isSome)
      && decide ((e :: es).length + ([] : List Keyword).length + (if ([] : List Keyword).isEmpty then 0 else 1) < 30)) = true := by rfl)
    (hline : (apos.endLine == cpos.line) = true := by rfl) (hs : starEach (e :: es) X.env = (false, eval e X.env) :: starEach es X.env := by rfl) (hplain : (backTo cpos (starEach es X.env)).any (·.1) = false := by rfl) :
    PD X (.Call (.Attribute o name apos) (e :: es) [] cpos) (wMt om wo wa) :=
  ⟨fun Wx tk => PE.imp (pe_bm PySem.F.plainAttrs_list slot hty hm (ho.run Wx tk) (ha.run Wx tk) hbase hfew hline hs hplain) fun σ H Q ⟨W, env, S, Q0, X1, ok, sl, hw, cv, cx⟩ => ⟨W, env, S, _, X1, ok, sl, hw, fun d S1 v W1 H1 h1 s1 ok1 r1 => by
    obtain ⟨a, xs, vs, rfl, rfl, e1, e2, rv, h2⟩ := mutL_rep ok1 r1 h1
    exact ⟨.inl ⟨rfl, vs, SqL.of e2⟩, W1, env, S1, _, X1, ok1, sl.mono s1.vis, h2, fun ds S2 us W2 H2 h3 s2 ok2 r2 => ⟨W2, S2, _, ds, Q0, ok2, r1.mono s2.vis, r2, h3, cv.mono (s1.trans s2)⟩, cx.mono s1⟩, cx⟩⟩
theorem pd_lm0 (slot : Slot "list" name mid) (hty : typeOf (.builtin mid) = pure (.type "method_descriptor")) (hm : MtR X mid (lM X.K om)) (ho : PD X o wo)
    (hbase : attributeBase o name X.env (eval o X.env) = eval o X.env := by rfl) (hline : (apos.endLine == cpos.line) = true := by rfl) :
    PD X (.Call (.Attribute o name apos) [] [] cpos) (wMt om wo wNil) :=
  ⟨fun Wx tk => PE.imp (pe_bm0 PySem.F.plainAttrs_list slot hty hm (ho.run Wx tk) hbase hline) fun σ H Q ⟨W, env, S, Q0, X1, ok, sl, hw, cv, cx⟩ => ⟨W, env, S, _, X1, ok, sl, hw, fun d S1 v W1 H1 h1 s1 ok1 r1 => by
    obtain ⟨a, xs, vs, rfl, rfl, e1, e2, rv, h2⟩ := mutL_rep ok1 r1 h1
    exact ⟨.inl ⟨rfl, vs, SqL.of e2⟩, W1, S1, _, [], Q0, ok1, r1, rfl, h2, cv.mono s1⟩, cx⟩⟩
def oAppend : OM := fun S d ds Q => mutL S d fun a xs => one ds fun e => xs.length < sizeLine ∧ Q .non (put S a (.lst (xs ++ [e])))
theorem md_append : MtR X "list.append" (lM X.K oAppend) := MtR.imp mt_append fun x vs H Q ⟨W, S, d, ds, Q0, ok, r, rs, ho, cv⟩ => by
  obtain ⟨a, xs, us, rfl, rfl, e1, e2, rv, h⟩ := mutL_rep ok r ho
  obtain ⟨y, rfl, hz, h⟩ := one_ex h
  obtain ⟨t, rfl, rt⟩ := reps1 rs
  exact ⟨a, us, t, rfl, rfl, e2, by rw [rv.length]; exact hz, cv _ _ _ _ _ h (ok.stC e1) (ok.chg e1 ⟨_, rfl, rv.append (Reps.one rt)⟩) rfl⟩
def oExtend : OM := fun S d ds Q => mutL S d fun a xs => one ds fun e => some! (seqM S e) fun ys => xs.length + ys.length ≤ sizeLine ∧ Q .non (put S a (.lst (xs ++ ys)))
theorem md_extend : MtR X "list.extend" (lM X.K oExtend) := MtR.imp mt_extend fun x vs H Q ⟨W, S, d, ds, Q0, ok, r, rs, ho, cv⟩ => by
  obtain ⟨a, xs, us, rfl, rfl, e1, e2, rv, h⟩ := mutL_rep ok r ho
  obtain ⟨y, rfl, h⟩ := one_ex h
  obtain ⟨ys, e3, hz, h⟩ := some!_ex h
  obtain ⟨t, rfl, rt⟩ := reps1 rs
  obtain ⟨b, zs, rfl, e4, rz⟩ := seqM_rep ok rt e3
  exact ⟨a, b, us, zs, rfl, rfl, e2, e4, by rw [rv.length, rz.length]; exact hz, cv _ _ _ _ _ h (ok.stC e1) (ok.chg e1 ⟨_, rfl, rv.append rz⟩) rfl⟩
theorem reps_dropLast {K : PySem.W.Frag} {W : Hp} {xs : List D} {vs : List V} (r : Reps K W xs vs) : Reps K W xs.dropLast vs.dropLast := by
  rw [List.dropLast_eq_take, List.dropLast_eq_take, r.length]
  exact r.take _
def oPop : OM := fun S d ds Q => mutL S d fun a xs => ds = [] ∧ some! xs[xs.length - 1]? fun y => Q y (put S a (.lst xs.dropLast))
theorem md_pop : MtR X "list.pop" (lM X.K oPop) := MtR.imp mt_pop fun x vs H Q ⟨W, S, d, ds, Q0, ok, r, rs, ho, cv⟩ => by
  obtain ⟨a, xs, us, rfl, rfl, e1, e2, rv, rfl, h⟩ := mutL_rep ok r ho
  obtain ⟨y, e3, h⟩ := some!_ex h
  obtain ⟨t, e4, rt⟩ := rv.get e3
  have e5 : vs = [] := rs
  exact ⟨a, us, t, rfl, e5, e2, by rw [rv.length]; exact e4, cv _ _ _ _ _ h (ok.stC e1) (ok.chg e1 ⟨_, rfl, reps_dropLast rv⟩) rt⟩
end

/-! ### defs -/
section
variable {P : Program} {w : World} {K : PySem.W.Frag} {mg : Str → Option Value} {base : Heap}
def startD (N : List Str) (ds : List D) : DE := ds.map some ++ List.replicate (N.length - ds.length) none
theorem getV_map : ∀ {ds : List D} {m : Nat} {i : Nat} {d : D}, getV (ds.map some ++ List.replicate m none) i = some d → ds[i]? = some d
  | [], 0, i, d, h => by cases h
  | [], m + 1, 0, d, h => by cases h
  | [], m + 1, i + 1, d, h => by
    have h' := getV_map (ds := []) (m := m) (i := i) h
    simp at h'
  | x :: r, m, 0, d, h => h
  | x :: r, m, i + 1, d, h => getV_map (ds := r) (m := m) (i := i) h
theorem sl_start {W : Hp} {N : List Str} {ds : List D} {vs : List V} (r : Reps K W ds vs) : Sl K W (startD N ds) (L2.start N vs) := fun i d h => by
  obtain ⟨v, e, rv⟩ := r.get (getV_map h)
  refine ⟨v, ?_, rv⟩
  unfold L2.start
  rw [List.getElem?_append_left (by rw [List.length_map]; exact lt_of_some e), List.getElem?_map, e]
  rfl
/-- THE RULE for a def: its body as a derivation, and its reading over data -/
theorem Fun.okD {x qual : Str} {st : Stmt} {f : Addr} {fd : FuncData} {N ps : List Str} {k : Nat} {spec : Ctr} (F : Fun K x qual st f fd) (S : FnScope N ps (defScope st)) (hle : ps.length ≤ N.length)
    (len : ∀ ds S Q E, spec ds S Q E → ds.length = ps.length)
    (hbody : ∀ (cdv : Value) (A : Around) (outer : List Env) (s : Shared) (H : Hp) (E : XK), Room k (A.deeper (envOfC qual (defScope st) s.heap.objs.size f cdv)) →
      ∃ ws, PDss (cxOf (L2.CX P w) P w K mg base N qual (defScope st) f cdv A outer s H E) (defBody st) ws ∧ ∀ ds S Q X1, spec ds S Q X1 → ws (startD N ds) S { nx := fun _ S' => Q .non S', rt := Q, bk := fun _ _ => False, ct := fun _ _ => False, xc := fun C fs _ S' => X1 C fs S' }) :
    FnD P w K mg base (k + 1) f fd ps spec := by
  refine F.okX S (fun vs H Q E ⟨W, S', ds, Q0, X1, ok, r, h, _⟩ => ?_) (fun cdv A outer s H vs Q E hr ⟨W, S', ds, Q0, X1, ok, r, h, cv, cx⟩ => ?_)
  · rw [r.length]; exact len ds S' Q0 X1 h
  · obtain ⟨ws, hp, hq⟩ := hbody cdv A outer s H E hr
    refine ⟨_, hp.run (fun c d σ H' => E c d H') (takes_of rfl rfl rfl rfl), W, _, S', _, ok, sl_start r, ?_, hq ds S' Q0 X1 h, ?_, ?_, ?_, ?_, ?_⟩
    · have e := r.length
      have e2 := len ds S' Q0 X1 h
      show (L2.start N vs).length = N.length
      unfold L2.start
      rw [List.length_append, List.length_map, List.length_replicate]
      omega
    · exact fun _ S1 σ1 W1 H1 h1 s1 ok1 _ _ => cv .non S1 .non W1 H1 h1 s1 ok1 rfl
    · exact fun d S1 v W1 H1 h1 s1 ok1 r1 => cv d S1 v W1 H1 h1 s1 ok1 r1
    · exact fun _ _ _ _ _ h1 _ _ _ => h1.elim
    · exact fun _ _ _ _ _ h1 _ _ _ => h1.elim
    · exact fun C fs _ S1 dd gs _ W1 H1 h1 s1 ok1 _ e1 r1 => cx C fs S1 dd gs W1 H1 h1 s1 ok1 e1 r1
end
end DL
set_option Elab.async false
set_option linter.all false
set_option maxRecDepth 100000
set_option maxHeartbeats 1000000
/-! The data layer, part g: targets, loops, comprehensions. -/
namespace DL
open PySem PySem.Spec PyProof.Rows L2

/-! ### targets: names and tuples of names -/
abbrev WPg := D → DE → (DE → Prop) → Prop
def gN (i : Nat) : WPg := fun d env k => k (setV env i d)
def gAll : List WPg → List D → DE → (DE → Prop) → Prop
  | [], [], env, k => k env
  | g :: gs, d :: ds, env, k => g d env fun e => gAll gs ds e k
  | _, _, _, _ => False
def gT (gs : List WPg) : WPg := fun d env k => match d with
  | .tup xs => xs.length = gs.length ∧ gAll gs xs env k
  | _ => False
def lG (K : PySem.W.Frag) (n : Nat) (vs : List Nat) (t : WPg) : TG := fun v σ H Q => ∃ W S env d k, Ok K W S H ∧ Sl K W env σ ∧ σ.length = n ∧ Rep K W d v ∧ t d env k ∧
  ∀ e σ', k e → Sl K W e σ' → σ'.length = n → wipe σ' vs = wipe σ vs → Q σ' H
def lGs (K : PySem.W.Frag) (n : Nat) (vs : List Nat) (ts : List WPg) : TGs := fun v σ H Q => ∃ W S env d k, Ok K W S H ∧ Sl K W env σ ∧ σ.length = n ∧ Reps K W d v ∧ gAll ts d env k ∧
  ∀ e σ', k e → Sl K W e σ' → σ'.length = n → wipe σ' vs = wipe σ vs → Q σ' H
structure PDg (X : Cx) (tg : Expr) (vs : List Nat) (t : WPg) : Prop where
  run : PG X tg (lG X.K X.N.length vs t)
structure PDgs (X : Cx) (tg : List Expr) (vs : List Nat) (t : List WPg) : Prop where
  run : PGs X tg (lGs X.K X.N.length vs t)
theorem wipe_set : ∀ {vs : List Nat} {σ : L2.St} {i : Nat} {o : Option V}, i ∈ vs → wipe (σ.set i o) vs = wipe σ vs
  | [], _, _, _, h => by cases h
  | v :: vs, σ, i, o, h => by
    show (wipe (σ.set i o) vs).set v none = (wipe σ vs).set v none
    by_cases hi : i ∈ vs
    · rw [wipe_set hi]
    · have e : i = v := by
        cases h with
        | head => rfl
        | tail _ h => exact absurd h hi
      subst e
      have key : ∀ {us : List Nat} {τ : L2.St}, i ∉ us → wipe (τ.set i o) us = (wipe τ us).set i o := fun {us τ} => by
        induction us with
        | nil => intro _; rfl
        | cons u us ih =>
          intro hu
          have h1 : i ≠ u := fun z => hu (by rw [z]; exact List.mem_cons_self)
          show (wipe (τ.set i o) us).set u none = ((wipe τ us).set u none).set i o
          rw [ih (fun z => hu (List.mem_cons_of_mem _ z)), List.set_comm _ _ h1]
      rw [key hi, List.set_set]
theorem PG.imp {X : Cx} {tg : Expr} {g g' : TG} (h : PG X tg g) (i : ∀ v σ H Q, g' v σ H Q → g v σ H Q) : PG X tg g' := ⟨fun pins s σ H v u Q I r q => h.run pins s σ H v u Q I r (i _ _ _ _ q)⟩
theorem PGs.imp {X : Cx} {tg : List Expr} {g g' : TGs} (h : PGs X tg g) (i : ∀ v σ H Q, g' v σ H Q → g v σ H Q) : PGs X tg g' := ⟨fun pins s σ H v u Q I r q => h.run pins s σ H v u Q I r (i _ _ _ _ q)⟩
section
variable {X : Cx} {pos : Pos} {vs : List Nat} {x : Str} {i : Nat} {e : Expr} {es : List Expr} {t : WPg} {ts : List WPg}
theorem pdg_name (hN : X.N.Nodup) (hi : X.N[i]? = some x) (hx : Loc X.env.scope x) (hv : i ∈ vs) (hf : X.fn x = true ∨ X.env.scope.names.lookup x = some .local := by first | exact .inl rfl | exact .inr rfl | assumption) : PDg X (.Name x pos) vs (gN i) :=
  ⟨PG.imp (pg_name hN hi hx hf) fun v σ H Q ⟨W, S, env, d, k, ok, sl, hl, r, ht, hq⟩ => hq _ _ ht (sl.set (by rw [hl]; exact lt_of_some hi) r) (by rw [List.length_set]; exact hl) (wipe_set hv)⟩
theorem pdgs_nil : PDgs X [] vs [] := ⟨PGs.imp pgs_nil fun v σ H Q ⟨W, S, env, d, k, ok, sl, hl, r, ht, hq⟩ => by
  cases d with
  | nil => exact ⟨r, hq _ _ ht sl hl rfl⟩
  | cons _ _ => exact ht.elim⟩
theorem pdgs_cons (h1 : PDg X e vs t) (h2 : PDgs X es vs ts) (hs : (assignEach (e :: es) X.env).map (·.2) = assign e X.env :: (assignEach es X.env).map (·.2) := by rfl) : PDgs X (e :: es) vs (t :: ts) :=
  ⟨PGs.imp (pgs_cons h1.run h2.run hs) fun v σ H Q ⟨W, S, env, d, k, ok, sl, hl, r, ht, hq⟩ => by
    cases d with
    | nil => exact ht.elim
    | cons d ds =>
      obtain ⟨u, us, e1, r1, r2⟩ := r
      refine ⟨u, us, e1, W, S, env, d, _, ok, sl, hl, r1, ht, fun e σ1 h1 sl1 hl1 hw1 => ⟨W, S, e, ds, k, ok, sl1, hl1, r2, h1, fun e2 σ2 h2 sl2 hl2 hw2 => hq e2 σ2 h2 sl2 hl2 (hw2.trans hw1)⟩⟩⟩
theorem pdg_tup {z : Nat} (hc : X.calm = true) (h : PDgs X es vs ts) (hn : (assignEach es X.env).length = ts.length := by rfl) (hst : (assignEach es X.env).findIdx? (·.1) = none := by rfl) : PDg X (.Tuple es z pos) vs (gT ts) :=
  ⟨PG.imp (pg_tup hc h.run hn hst) fun v σ H Q ⟨W, S, env, d, k, ok, sl, hl, r, ht, hq⟩ => by
    cases d with
    | tup xs =>
      obtain ⟨a, us, e1, e2, e3⟩ := r
      exact ⟨a, us, e1, sqT_mono ok.vis e2, by rw [e3.length]; exact ht.1, W, S, env, xs, k, ok, sl, hl, e3, ht.2, hq⟩
    | _ => exact ht.elim⟩
end

/-! ### what is walked -/
abbrev WPi := DE → Sto → (List D → (Sto → Prop) → Sto → Prop) → XQ → Prop
structure JOk (K : PySem.W.Frag) (J : It) (W0 : Hp) (items : List D) (g : Sto → Prop) : Prop where
  step : ∀ (i : Nat) W S H d, items[i]? = some d → Same W0 W → Ok K W S H → g S → J.go i H ∧ ∀ x H', J.yld i H x H' → ∃ W', Stp W S H W' S H' ∧ Ok K W' S H' ∧ Rep K W' d x
  stop : ∀ W S H, Same W0 W → Ok K W S H → g S → J.stop items.length H
def lI (K : PySem.W.Frag) (Wx : WX) (w : WPi) : TI := fun σ H R => ∃ W env S Q0 X0, Ok K W S H ∧ Sl K W env σ ∧ w env S Q0 X0 ∧
  (∀ items g S' W' H' J, Q0 items g S' → Stp W S H W' S' H' → Ok K W' S' H' → JOk K J W' items g → R J H') ∧ CXc K W S H X0 (fun c d H' => Wx c d σ H')
structure PDi (X : Cx) (tg e : Expr) (w : WPi) : Prop where
  run : ∀ Wx, Takes X Wx → PI X tg e (lI X.K Wx w)
theorem PI.imp {X : Cx} {tg e : Expr} {t t' : TI} (h : PI X tg e t) (i : ∀ σ H R, t' σ H R → t σ H R) : PI X tg e t' := ⟨fun pins s σ H R I q => h.run pins s σ H R I (i _ _ _ q)⟩
/-- a list or a tuple -/
def iSeq (K : PySem.W.Frag) (tl : TE) : TI := fun σ H R => tl σ H fun x H1 => ∃ a, x = .ref a ∧ (((∃ xs, SqL K H1 a xs) ∧ R (Itl K a) H1) ∨ ((∃ xs, SqT K H1 a xs) ∧ R (Itt K a) H1))
theorem pi_seq {X : Cx} {tg l : Expr} {tl : TE} (hl : PE X l tl) : PI X tg l (iSeq X.K tl) := by
  refine ⟨fun pins s σ H R I h => ?_⟩
  refine thn (hl.run pins s σ H _ I h) fun v s1 ⟨x, H1, I1, r1, q1⟩ => ?_
  obtain ⟨a, e, ⟨⟨xs, hq⟩, q⟩ | ⟨⟨xs, hq⟩, q⟩⟩ := q1
  · subst e
    cases r1
    obtain ⟨its, rv, p, hz⟩ := I1.list hq
    refine wpAny_pyIter_list p.isList ?_
    refine ⟨s1.heap.objs.size, [s1.heap.objs.size], _, _, H1, rfl, I1.kept (t' := s1.toks) fun b o e => Heap.get?_push_of_some _ e, turn_list a _, ⟨_, Heap.get?_push_size _ rfl, rfl, rfl⟩, fun b hb => ?_, q⟩
    have e : b = s1.heap.objs.size := by simpa using hb
    subst e
    exact I1.fpOk (Nat.le_refl _) (I1.hok.fresh (Nat.le_refl _))
  · subst e
    cases r1
    obtain ⟨its, rv, p, hz⟩ := I1.tuple hq
    refine wpAny_pyIter_tuple (show s1.heap.IsTuple a its.toArray from p) ?_
    refine ⟨s1.heap.objs.size, [s1.heap.objs.size], _, _, H1, rfl, I1.kept (t' := s1.toks) fun b o e => Heap.get?_push_of_some _ e, turn_tuple a _, ⟨_, Heap.get?_push_size _ rfl, rfl, rfl⟩, fun b hb => ?_, q⟩
    have e : b = s1.heap.objs.size := by simpa using hb
    subst e
    exact I1.fpOk (Nat.le_refl _) (I1.hok.fresh (Nat.le_refl _))
def wIt (w : WPe) : WPi := fun env S Q X => w env S (fun d S1 => some! (seqA S1 d) fun xs => Q xs (fun S' => seqA S' d = some xs) S1) X
section
variable {K : PySem.W.Frag}
theorem jok_list {W0 : Hp} {S0 : Sto} {H0 : Hp} {d : D} {a : Addr} {xs : List D} (ok : Ok K W0 S0 H0) (r : Rep K W0 d (.ref a)) (hL : seqL S0 d = some xs) (hA : ∀ {S}, seqA S d = seqL S d) :
    (∃ vs, SqL K H0 a vs) ∧ JOk K (Itl K a) W0 xs (fun S' => seqA S' d = some xs) := by
  obtain ⟨b, ws, e1, e2, e3⟩ := seqL_rep ok r hL
  cases e1
  refine ⟨⟨ws, e2⟩, ⟨fun i W S H d hd s1 ok1 g => ?_, fun W S H s1 ok1 g => ?_⟩⟩
  · rw [hA] at g
    obtain ⟨c, zs, e7, e8, e9⟩ := seqL_rep ok1 (r.mono s1) g
    cases e7
    obtain ⟨u, hu, ru⟩ := e9.get hd
    refine ⟨⟨zs, u, e8, hu⟩, fun x H' ⟨e4, e5⟩ => ?_⟩
    subst e4
    have e6 := e5 zs e8
    rw [hu] at e6
    cases e6
    exact ⟨W, Stp.refl, ok1, ru⟩
  · rw [hA] at g
    obtain ⟨c, zs, e7, e8, e9⟩ := seqL_rep ok1 (r.mono s1) g
    cases e7
    exact ⟨zs, e8, Nat.le_of_eq e9.length⟩
theorem jok_seq {W0 : Hp} {S0 : Sto} {H0 : Hp} {d : D} {v : V} {xs : List D} (ok : Ok K W0 S0 H0) (r : Rep K W0 d v) (h : seqA S0 d = some xs) :
    ∃ a, v = .ref a ∧ (((∃ vs, SqL K H0 a vs) ∧ JOk K (Itl K a) W0 xs (fun S' => seqA S' d = some xs)) ∨ ((∃ vs, SqT K H0 a vs) ∧ JOk K (Itt K a) W0 xs (fun S' => seqA S' d = some xs))) := by
  obtain ⟨a, vs, rfl, hq, rv⟩ := seqA_rep ok r h
  refine ⟨a, rfl, ?_⟩
  cases d with
  | tup ys =>
    cases h
    obtain ⟨b, ws, e1, e2, e3⟩ := r
    cases e1
    refine .inr ⟨⟨ws, sqT_mono ok.vis e2⟩, ⟨fun i W S H d hd s1 ok1 _ => ?_, fun W S H s1 ok1 _ => ?_⟩⟩
    · obtain ⟨u, hu, ru⟩ := e3.get hd
      have hT := sqT_mono (s1.trans ok1.vis) e2
      refine ⟨⟨ws, u, hT, hu⟩, fun x H' ⟨e4, e5⟩ => ?_⟩
      subst e4
      have e6 := e5 ws hT
      rw [hu] at e6
      cases e6
      exact ⟨W, Stp.refl, ok1, ru.mono s1⟩
    · exact ⟨ws, sqT_mono (s1.trans ok1.vis) e2, Nat.le_of_eq e3.length⟩
  | lst ys => exact .inl (jok_list ok r h rfl)
  | fro ys => exact .inl (jok_list ok r h rfl)
  | ref b => exact .inl (jok_list ok r h rfl)
  | _ => cases h
end
section
variable {X : Cx} {tg e a b : Expr} {w wa wb : WPe} {p pos : Pos}
theorem pdi_seq (h : PD X e w) : PDi X tg e (wIt w) :=
  ⟨fun Wx tk => PI.imp (pi_seq (h.run Wx tk)) fun σ H R ⟨W, env, S, Q0, X1, ok, sl, hw, cv, cx⟩ => ⟨W, env, S, _, X1, ok, sl, hw, fun d S1 v W1 H1 h1 s1 ok1 r1 => by
    obtain ⟨xs, e1, h1⟩ := some!_ex h1
    obtain ⟨a, rfl, ⟨q, j⟩ | ⟨q, j⟩⟩ := jok_seq ok1 r1 e1
    · exact ⟨a, rfl, .inl ⟨q, cv _ _ S1 W1 H1 _ h1 s1 ok1 j⟩⟩
    · exact ⟨a, rfl, .inr ⟨q, cv _ _ S1 W1 H1 _ h1 s1 ok1 j⟩⟩, cx⟩⟩
def rngD (lo : Int) (n : Nat) : List D := (List.range n).map fun (i : Nat) => D.int (lo + (i : Int))
theorem rngD_get {lo : Int} {n i : Nat} {d : D} (h : (rngD lo n)[i]? = some d) : i < n ∧ d = .int (lo + (i : Int)) := by
  unfold rngD at h
  rw [List.getElem?_map] at h
  by_cases hi : i < n
  · rw [List.getElem?_range hi] at h
    exact ⟨hi, (Option.some.inj h).symm⟩
  · rw [List.getElem?_eq_none (by rw [List.length_range]; omega)] at h
    cases h
theorem rngD_length {lo : Int} {n : Nat} : (rngD lo n).length = n := by
  unfold rngD
  rw [List.length_map, List.length_range]
theorem jok_rng {K : PySem.W.Frag} {W0 : Hp} {lo : Int} {n : Nat} : JOk K (Itr lo n) W0 (rngD lo n) (fun _ => True) :=
  ⟨fun i W S H d hd s1 ok1 _ => by
    obtain ⟨hi, rfl⟩ := rngD_get hd
    exact ⟨hi, fun x H' ⟨e1, e2⟩ => by subst e1; exact ⟨W, Stp.refl, ok1, e2⟩⟩, fun W S H _ _ _ => by rw [rngD_length]; exact Nat.le_refl _⟩
def wRg1 (wa : WPe) : WPi := fun env S Q X => wa env S (fun a S1 => asI a fun j => (-(2 ^ 62) ≤ j ∧ j < 2 ^ 62) ∧ Q (rngD 0 j.toNat) (fun _ => True) S1) X
def wRg2 (wa wb : WPe) : WPi := fun env S Q X => wa env S (fun a S1 => asI a fun i => wb env S1 (fun b S2 => asI b fun j => (-(2 ^ 62) ≤ i ∧ i < 2 ^ 62 ∧ -(2 ^ 62) ≤ j ∧ j < 2 ^ 62) ∧ Q (rngD i (j - i).toNat) (fun _ => True) S2) X) X
theorem pdi_rg1 (hm : X.mg "range" = none) (ha : PD X a wa) (hg : Gl X "range" := by rfl) (hs : starEach [a] X.env = [(false, eval a X.env)] := by rfl) : PDi X tg (.Call (.Name "range" p) [a] [] pos) (wRg1 wa) :=
  ⟨fun Wx tk => PI.imp (pi_range1 hg hm (pa_cons (ha.run Wx tk) pa_nil hs) hs) fun σ H R ⟨W, env, S, Q0, X1, ok, sl, hw, cv, cx⟩ => ⟨W, env, S, _, X1, ok, sl, hw, fun d S1 v W1 H1 h1 s1 ok1 r1 => by
    obtain ⟨j, rfl, ⟨h2, h3⟩, h4⟩ := asI_ex h1
    exact ⟨j, by rw [show v = .int j from r1], h2, h3, cv _ _ S1 W1 H1 _ h4 s1 ok1 jok_rng⟩, cx⟩⟩
theorem pdi_rg2 (hm : X.mg "range" = none) (ha : PD X a wa) (hb : PD X b wb) (hg : Gl X "range" := by rfl) (hs : starEach [a, b] X.env = [(false, eval a X.env), (false, eval b X.env)] := by rfl) (hs2 : starEach [b] X.env = [(false, eval b X.env)] := by rfl) :
    PDi X tg (.Call (.Name "range" p) [a, b] [] pos) (wRg2 wa wb) :=
  ⟨fun Wx tk => PI.imp (pi_range2 hg hm (pa_cons (ha.run Wx tk) (pa_cons (hb.run Wx tk) pa_nil hs2) (by rw [hs, hs2])) hs hs2) fun σ H R ⟨W, env, S, Q0, X1, ok, sl, hw, cv, cx⟩ => ⟨W, env, S, _, X1, ok, sl, hw, fun d S1 v W1 H1 h1 s1 ok1 r1 => by
    obtain ⟨i, rfl, h1⟩ := asI_ex h1
    refine ⟨W1, env, S1, _, X1, ok1, sl.mono s1.vis, h1, fun d2 S2 u W2 H2 h2 s2 ok2 r2 => ?_, cx.mono s1⟩
    obtain ⟨j, rfl, h3, h4⟩ := asI_ex h2
    exact ⟨i, j, by rw [show v = .int i from r1, show u = .int j from r2], h3, cv _ _ S2 W2 H2 _ h4 (s1.trans s2) ok2 jok_rng⟩, cx⟩⟩
end

/-! ### for -/
/-- by an invariant over (turn, slots, store) -/
def forI (t : WPg) (body : WPs) (g : Sto → Prop) (items : List D) (env : DE) (S : Sto) (q : QS) : Prop := ∃ P : Nat → DE → Sto → Prop, P 0 env S ∧ (∀ i e S, i ≤ items.length → P i e S → g S) ∧
  (∀ i d e S, items[i]? = some d → P i e S → t d e fun e1 => body e1 S { q with nx := P (i + 1), ct := P (i + 1), bk := q.nx }) ∧ ∀ e S, P items.length e S → q.nx e S
/-- turn by turn -/
def forL (t : WPg) (body : WPs) (g : Sto → Prop) : List D → WPs
  | [], env, S, q => g S ∧ q.nx env S
  | d :: r, env, S, q => g S ∧ t d env fun e => body e S { q with nx := fun e2 S2 => forL t body g r e2 S2 q, ct := fun e2 S2 => forL t body g r e2 S2 q, bk := q.nx }
theorem forI_of {t : WPg} {body : WPs} {g : Sto → Prop} {items : List D} {env : DE} {S : Sto} {q : QS} (h : forL t body g items env S q) : forI t body g items env S q := by
  refine ⟨fun i e S => forL t body g (items.drop i) e S q, h, fun i e S hi h => ?_, fun i d e S hd h => ?_, fun e S h => ?_⟩
  · dsimp only at h
    by_cases hlt : i < items.length
    · rw [List.drop_eq_getElem_cons hlt] at h
      exact h.1
    · rw [List.drop_eq_nil_of_le (by omega)] at h
      exact h.1
  · dsimp only at h
    obtain ⟨hlt, e1⟩ := List.getElem?_eq_some_iff.mp hd
    subst e1
    rw [List.drop_eq_getElem_cons hlt] at h
    exact h.2
  · dsimp only at h
    rw [List.drop_length] at h
    exact h.2
/-- a fold -/
theorem forI_fold {α : Type} {t : WPg} {body : WPs} {g : Sto → Prop} {items : List D} {env : DE} {S : Sto} {q : QS} (st : α → DE → Sto → Prop) (step : α → D → α) (init : α) (h0 : st init env S) (hg : ∀ a e S, st a e S → g S)
    (hs : ∀ i d a e S, items[i]? = some d → a = (items.take i).foldl step init → st a e S → t d e fun e1 => body e1 S { q with nx := st (step a d), ct := st (step a d), bk := q.nx }) (hd : ∀ e S, st (items.foldl step init) e S → q.nx e S) : forI t body g items env S q := by
  refine ⟨fun i e S => st ((items.take i).foldl step init) e S, by simpa using h0, fun i e S _ h => hg _ e S h, fun i d e S hi h => ?_, fun e S h => hd e S (by simpa using h)⟩
  have key : (items.take (i + 1)).foldl step init = step ((items.take i).foldl step init) d := by
    rw [List.take_add_one, hi]
    simp
  dsimp only
  rw [key]
  exact hs i d _ e S hi rfl h
/-- .. what follows the body told by what it wants -/
theorem forI_foldq {α : Type} {t : WPg} {body : WPs} {g : Sto → Prop} {items : List D} {env : DE} {S : Sto} {q : QS} (st : α → DE → Sto → Prop) (step : α → D → α) (init : α) (h0 : st init env S) (hg : ∀ a e S, st a e S → g S)
    (hs : ∀ i d a e S, items[i]? = some d → a = (items.take i).foldl step init → st a e S → ∀ q' : QS, (∀ e S, st (step a d) e S → q'.nx e S) → q'.rt = q.rt → q'.bk = q.nx → q'.ct = q'.nx → q'.xc = q.xc → t d e fun e1 => body e1 S q') (hd : ∀ e S, st (items.foldl step init) e S → q.nx e S) : forI t body g items env S q :=
  forI_fold st step init h0 hg (fun i d a e S hi ha h => hs i d a e S hi ha h _ (fun _ _ z => z) rfl rfl rfl rfl) hd
/-- .. by an invariant -/
theorem forI_invq {t : WPg} {body : WPs} {g : Sto → Prop} {items : List D} {env : DE} {S : Sto} {q : QS} (P : Nat → DE → Sto → Prop) (h0 : P 0 env S) (hg : ∀ i e S, P i e S → g S)
    (hs : ∀ i d e S, items[i]? = some d → P i e S → ∀ q' : QS, (∀ e S, P (i + 1) e S → q'.nx e S) → q'.rt = q.rt → q'.bk = q.nx → q'.ct = q'.nx → q'.xc = q.xc → t d e fun e1 => body e1 S q') (hd : ∀ e S, P items.length e S → q.nx e S) : forI t body g items env S q :=
  ⟨P, h0, fun i e S _ h => hg i e S h, fun i d e S hi h => hs i d e S hi h _ (fun _ _ z => z) rfl rfl rfl rfl, hd⟩
def wFor (wi : WPi) (t : WPg) (body : WPs) : WPs := fun env S q => wi env S (fun items g S1 => forI t body g items env S1 q) (xcQ q env)
section
variable {X : Cx} {tg iter : Expr} {body : List Stmt} {wi : WPi} {t : WPg} {ws : WPs} {pos : Pos} {vs : List Nat}
theorem pds_for (hc : X.calm = true) (hp : PassesOwn (model X.prog X.w) X.A X.env X.xe) (hi : PDi X tg iter wi) (hg : PDg X tg vs t) (hb : PDss X body ws) (hs : ∀ x, foldedSetIterable iter X.env x = pure x := by intro _; rfl) : PDs X (.For tg iter body [] pos) (wFor wi t ws) :=
  ⟨fun Wx tk => PS.imp (ps_for hp hc (hi.run Wx tk) hg.run (hb.run Wx tk) hs) fun D σ H ⟨W, env, S, q, ok, sl, hl, hw, cs⟩ => by
    refine ⟨W, env, S, _, _, ok, sl, hw, fun items g S1 W1 H1 J ⟨P, h0, hg0, hs0, hd0⟩ s1 ok1 jok => ?_, CXc.of cs sl⟩
    refine ⟨fun i m σ' H' => m = items.length - i ∧ i ≤ items.length ∧ σ'.length = X.N.length ∧ ∃ W' env' S', Stp W1 S1 H1 W' S' H' ∧ Ok X.K W' S' H' ∧ Sl X.K W' env' σ' ∧ P i env' S',
      ⟨items.length, rfl, Nat.zero_le _, hl, W1, env, S1, Stp.refl, ok1, sl.mono s1.vis, h0⟩, ?_⟩
    rintro i m σ' H' ⟨rfl, hi2, hl', W', env', S', s2, ok2, sl2, h2⟩
    have hgS := hg0 i env' S' hi2 h2
    by_cases hlt : i < items.length
    · have hd := List.getElem?_eq_getElem hlt
      obtain ⟨go, yl⟩ := jok.step i W' S' H' _ hd s2.vis ok2 hgS
      refine .inr ⟨go, fun σ2 H2 => σ2.length = X.N.length ∧ ∃ W2 env2 S2, Stp W1 S1 H1 W2 S2 H2 ∧ Ok X.K W2 S2 H2 ∧ Sl X.K W2 env2 σ2 ∧ P (i + 1) env2 S2,
        fun σ2 H2 ⟨hl2, h3⟩ => ⟨items.length - (i + 1), by omega, rfl, hlt, hl2, h3⟩, fun x H2 y => ?_⟩
      obtain ⟨W2, s3, ok3, rx⟩ := yl x H2 y
      refine ⟨W2, S', env', items[i], _, ok3, sl2.mono s3.vis, hl', rx, hs0 i _ env' S' hd h2, fun e2 σ3 h3 sl3 hl3 _ => ?_⟩
      have st := s1.trans (s2.trans s3)
      refine ⟨W2, e2, S', _, ok3, sl3, hl3, h3, ?_⟩
      have fin : ∀ {e4 : DE} {S4 : Sto} {σ4 : L2.St} {W4 H4 : Hp}, P (i + 1) e4 S4 → Stp W2 S' H2 W4 S4 H4 → Ok X.K W4 S4 H4 → Sl X.K W4 e4 σ4 → σ4.length = X.N.length →
          (σ4.length = X.N.length ∧ ∃ W2 env2 S2, Stp W1 S1 H1 W2 S2 H4 ∧ Ok X.K W2 S2 H4 ∧ Sl X.K W2 env2 σ4 ∧ P (i + 1) env2 S2) :=
        fun h4 s4 ok4 sl4 hl4 => ⟨hl4, _, _, _, s2.trans (s3.trans s4), ok4, sl4, h4⟩
      exact ⟨fun e4 S4 σ4 W4 H4 h4 s4 ok4 sl4 hl4 => fin h4 s4 ok4 sl4 hl4, (cs.mono st).rt, (cs.mono st).nx, fun e4 S4 σ4 W4 H4 h4 s4 ok4 sl4 hl4 => fin h4 s4 ok4 sl4 hl4, (cs.mono st).xc⟩
    · have e : i = items.length := by omega
      subst e
      exact .inl ⟨jok.stop W' S' H' s2.vis ok2 hgS, cs.nx env' S' σ' W' H' (hd0 _ _ h2) (s1.trans s2) ok2 sl2 hl'⟩⟩
end

/-! ### while -/
def wWhile (t : WPt) (body : WPs) : WPs := fun env S q => ∃ P : Nat → DE → Sto → Prop, (∃ m, P m env S) ∧ ∀ m e S, P m e S →
  t e S (fun b S1 => if b = true then body e S1 { q with nx := fun e2 S2 => ∃ m', m' < m ∧ P m' e2 S2, ct := fun e2 S2 => ∃ m', m' < m ∧ P m' e2 S2, bk := q.nx } else q.nx e S1) (xcQ q e)
theorem pds_while {X : Cx} {c : Expr} {body : List Stmt} {t : WPt} {ws : WPs} {pos : Pos} (hp : PassesOwn (model X.prog X.w) X.A X.env X.xe) (hc : PDt X c t) (hb : PDss X body ws) : PDs X (.While c body [] pos) (wWhile t ws) :=
  ⟨fun Wx tk => PS.imp (ps_while hp (hc.run Wx tk) (hb.run Wx tk)) fun D σ H ⟨W, env, S, q, ok, sl, hl, ⟨P, ⟨m0, h0⟩, hs⟩, cs⟩ => by
    refine ⟨fun m σ' H' => σ'.length = X.N.length ∧ ∃ W' env' S', Stp W S H W' S' H' ∧ Ok X.K W' S' H' ∧ Sl X.K W' env' σ' ∧ P m env' S', ⟨m0, hl, W, env, S, Stp.refl, ok, sl, h0⟩, ?_⟩
    rintro m σ' H' ⟨hl', W', env', S', s1, ok1, sl1, h1⟩
    refine ⟨W', env', S', _, _, ok1, sl1, hs m env' S' h1, fun b S2 W2 H2 h2 s2 ok2 => ?_, CXc.of (cs.mono s1) sl1⟩
    cases b with
    | true =>
      refine iteT ⟨fun σ3 H3 => ∃ m', m' < m ∧ σ3.length = X.N.length ∧ ∃ W' env' S', Stp W S H W' S' H3 ∧ Ok X.K W' S' H3 ∧ Sl X.K W' env' σ3 ∧ P m' env' S', fun σ3 H3 ⟨m', hm, h3⟩ => ⟨m', hm, h3⟩, W2, env', S2, _, ok2, sl1.mono s2.vis, hl', (if_pos rfl).mp h2, ?_⟩
      have st := s1.trans s2
      exact ⟨fun e4 S4 σ4 W4 H4 ⟨m', hm, h4⟩ s4 ok4 sl4 hl4 => ⟨m', hm, hl4, W4, e4, S4, st.trans s4, ok4, sl4, h4⟩, (cs.mono st).rt, (cs.mono st).nx, fun e4 S4 σ4 W4 H4 ⟨m', hm, h4⟩ s4 ok4 sl4 hl4 => ⟨m', hm, hl4, W4, e4, S4, st.trans s4, ok4, sl4, h4⟩, (cs.mono st).xc⟩
    | false => exact iteF (cs.nx env' S2 σ' W2 H2 ((if_neg Bool.false_ne_true).mp h2) (s1.trans s2) ok2 (sl1.mono s2.vis) hl')⟩

/-! ### list comprehensions -/
def wYes : WPt := fun _ S Q _ => Q true S
structure PDts (X : Cx) (ifs : List Expr) (w : WPt) : Prop where
  run : ∀ Wx, Takes X Wx → PTs X ifs (lT X.K Wx w)
theorem pdts_nil {X : Cx} : PDts X [] wYes := ⟨fun Wx tk => ⟨fun pins s σ H Q I ⟨W, env, S, Q0, X1, ok, sl, hw, cv, cx⟩ => pts_nil.run pins s σ H Q I (cv true S W H hw Stp.refl ok)⟩⟩
theorem pdts_one {X : Cx} {c : Expr} {w : WPt} (h : PDt X c w) : PDts X [c] w := ⟨fun Wx tk => pts_one (h.run Wx tk)⟩
def delVs (env : DE) : List Nat → DE
  | [] => env
  | v :: vs => delV (delVs env vs) v
theorem sl_wipe {K : PySem.W.Frag} {W : Hp} {env : DE} {σ : L2.St} (h : Sl K W env σ) : ∀ vs : List Nat, Sl K W (delVs env vs) (wipe σ vs)
  | [] => h
  | v :: vs => fun i d q => by
    obtain ⟨a, b⟩ := getV_delV q
    obtain ⟨u, c, r⟩ := sl_wipe h vs i d b
    refine ⟨u, ?_, r⟩
    show ((wipe σ vs).set v none)[i]? = _
    rw [List.getElem?_set_ne (Ne.symm a)]; exact c
theorem delVs_len {σ : L2.St} {vs : List Nat} {n : Nat} (h : σ.length = n) : (wipe σ vs).length = n := by rw [wipe_length]; exact h
theorem wipe_wipe {σ : L2.St} {vs : List Nat} : wipe (wipe σ vs) vs = wipe σ vs := by
  apply List.ext_getElem?
  intro i
  have key : ∀ {τ : L2.St} {us : List Nat}, (i ∈ us → i < τ.length → (wipe τ us)[i]? = some none) ∧ (i ∉ us → (wipe τ us)[i]? = τ[i]?) := fun {τ us} => by
    induction us with
    | nil => exact ⟨(fun h => by cases h), (fun _ => rfl)⟩
    | cons u us ih =>
      refine ⟨fun h hl => ?_, fun h => ?_⟩
      · show ((wipe τ us).set u none)[i]? = some none
        by_cases e : u = i
        · subst e
          exact List.getElem?_set_self (by rw [wipe_length]; exact hl)
        · rw [List.getElem?_set_ne e]
          exact ih.1 (by cases h with | head => exact absurd rfl e | tail _ h => exact h) hl
      · show ((wipe τ us).set u none)[i]? = _
        rw [List.getElem?_set_ne (fun e => h (by rw [e]; exact List.mem_cons_self))]
        exact ih.2 fun z => h (List.mem_cons_of_mem _ z)
  by_cases h : i ∈ vs
  · by_cases hl : i < σ.length
    · rw [(key (τ := wipe σ vs)).1 h (by rw [wipe_length]; exact hl), (key (τ := σ)).1 h hl]
    · rw [List.getElem?_eq_none (by rw [wipe_length, wipe_length]; omega), List.getElem?_eq_none (by rw [wipe_length]; omega)]
  · rw [(key (τ := wipe σ vs)).2 h]
def compI (t : WPg) (tt : WPt) (te : WPe) (g : Sto → Prop) (env : DE) (items : List D) (S : Sto) (Q : List D → Sto → Prop) : Prop := ∃ P : Nat → List D → Sto → Prop, P 0 [] S ∧ (∀ i acc S, i ≤ items.length → P i acc S → g S) ∧
  (∀ i d acc S, items[i]? = some d → P i acc S → t d env fun e => tt e S (fun b S1 => if b = true then te e S1 (fun y S2 => P (i + 1) (acc ++ [y]) S2) X0 else P (i + 1) acc S1) X0) ∧ ∀ acc S, P items.length acc S → Q acc S
/-- item by item -/
def compL (t : WPg) (tt : WPt) (te : WPe) (g : Sto → Prop) (env : DE) : List D → List D → Sto → (List D → Sto → Prop) → Prop
  | [], acc, S, Q => g S ∧ Q acc S
  | d :: r, acc, S, Q => g S ∧ t d env fun e => tt e S (fun b S1 => if b = true then te e S1 (fun y S2 => compL t tt te g env r (acc ++ [y]) S2 Q) X0 else compL t tt te g env r acc S1 Q) X0
theorem compI_of {t : WPg} {tt : WPt} {te : WPe} {g : Sto → Prop} {env : DE} {items : List D} {S : Sto} {Q : List D → Sto → Prop} (h : compL t tt te g env items [] S Q) : compI t tt te g env items S Q := by
  refine ⟨fun i acc S => compL t tt te g env (items.drop i) acc S Q, h, fun i acc S hi h => ?_, fun i d acc S hd h => ?_, fun acc S h => ?_⟩
  · dsimp only at h
    by_cases hlt : i < items.length
    · rw [List.drop_eq_getElem_cons hlt] at h
      exact h.1
    · rw [List.drop_eq_nil_of_le (by omega)] at h
      exact h.1
  · dsimp only at h
    obtain ⟨hlt, e1⟩ := List.getElem?_eq_some_iff.mp hd
    subst e1
    rw [List.drop_eq_getElem_cons hlt] at h
    exact h.2
  · dsimp only at h
    rw [List.drop_length] at h
    exact h.2
/-- each item's value told by a function -/
theorem compI_map {t : WPg} {tt : WPt} {te : WPe} {g : Sto → Prop} {env : DE} {items : List D} {S : Sto} {Q : List D → Sto → Prop} (f : D → Option D) (hg : g S)
    (h : ∀ d, d ∈ items → ∀ R : Option D → Sto → Prop, R (f d) S → t d env fun e => tt e S (fun b S1 => if b = true then te e S1 (fun y S2 => R (some y) S2) X0 else R none S1) X0) (hq : Q (items.filterMap f) S) : compI t tt te g env items S Q := by
  refine ⟨fun i acc S' => S' = S ∧ acc = (items.take i).filterMap f, ⟨rfl, by simp⟩, fun i acc S' _ h => by rw [h.1]; exact hg, fun i d acc S' hd ⟨e1, e2⟩ => ?_, fun acc S' ⟨e1, e2⟩ => ?_⟩
  · subst e1 e2
    refine h d (List.mem_of_getElem? hd) (fun o S2 => match o with
      | some y => S2 = S' ∧ (items.take i).filterMap f ++ [y] = (items.take (i + 1)).filterMap f
      | none => S2 = S' ∧ (items.take i).filterMap f = (items.take (i + 1)).filterMap f) ?_
    have key : (items.take (i + 1)).filterMap f = (items.take i).filterMap f ++ [d].filterMap f := by
      rw [List.take_add_one, hd]
      simp
    cases e : f d with
    | none =>
      refine ⟨rfl, ?_⟩
      rw [key]
      simp [e]
    | some y =>
      refine ⟨rfl, ?_⟩
      rw [key]
      simp [e]
  · subst e1 e2
    simpa using hq
/-- by an invariant of what is made so far -/
theorem compI_inv {t : WPg} {tt : WPt} {te : WPe} {g : Sto → Prop} {env : DE} {items : List D} {S : Sto} {Q : List D → Sto → Prop} (P : Nat → List D → Sto → Prop) (h0 : P 0 [] S) (hg : ∀ i acc S, P i acc S → g S)
    (hs : ∀ i d acc S, items[i]? = some d → P i acc S → t d env fun e => tt e S (fun b S1 => if b = true then te e S1 (fun y S2 => P (i + 1) (acc ++ [y]) S2) X0 else P (i + 1) acc S1) X0) (hd : ∀ acc S, P items.length acc S → Q acc S) : compI t tt te g env items S Q :=
  ⟨P, h0, fun i acc S _ h => hg i acc S h, hs, hd⟩
def wLc (wi : WPi) (t : WPg) (tt : WPt) (te : WPe) (vs : List Nat) : WPe := fun env S Q X => wi env S (fun items g S1 => items.length ≤ sizeLine ∧ compI t tt te g (delVs env vs) items S1 fun ds S2 => Q (.lst ds) S2) X
/-- .. a new mutable list -/
def wLcM (wi : WPi) (t : WPg) (tt : WPt) (te : WPe) (vs : List Nat) : WPe := fun env S Q X => wi env S (fun items g S1 => items.length ≤ sizeLine ∧ compI t tt te g (delVs env vs) items S1 fun ds S2 => ∀ p, S2 p = none → Q (.ref p) (put S2 p (.lst ds))) X
theorem takesF {X : Cx} {s : Shared} {H : Hp} {scope : Scope} {cenv : Env} {fp : List Addr} : Takes (X.blk s H scope cenv fp) (fun _ _ _ _ => False) := takes0
theorem Stp.see {W W' : Hp} {S S' : Sto} {H H' : Hp} {p : Addr} {o : HO} (st : Stp W S H W' S' H') (h : H p = none) (hW : W' p = none) : Stp W S H (upd W' p o) S' H' :=
  ⟨st.vis.trans (same_new hW), fun a x h1 h2 h3 => by
    have ne : a ≠ p := ne_of_none h1 h
    obtain ⟨y1, y2, y3⟩ := st.frm a x h1 h2 h3
    exact ⟨y1, by rw [upd_ne ne]; exact y2, y3⟩⟩
theorem Stp.see' {W W1 W' : Hp} {S S1 S' : Sto} {H H1 H' : Hp} {p : Addr} {o : HO} (st : Stp W S H W' S' H') (h : H1 p = none) (hW : W' p = none) (s1 : Stp W S H W1 S1 H1) : Stp W S H (upd W' p o) S' H' :=
  ⟨st.vis.trans (same_new hW), fun a x h1 h2 h3 => by
    have ne : a ≠ p := fun e => by
      subst e
      have := (s1.frm a x h1 h2 h3).1
      rw [h] at this; cases this
    obtain ⟨y1, y2, y3⟩ := st.frm a x h1 h2 h3
    exact ⟨y1, by rw [upd_ne ne]; exact y2, y3⟩⟩
theorem Stp.own {W W' : Hp} {S S' : Sto} {H H' : Hp} {p : Addr} {m : MO} (st : Stp W S H W' S' H') (h : H p = none) : Stp W S H W' (put S' p m) H' :=
  ⟨st.vis, fun a x h1 h2 h3 => by
    have ne : a ≠ p := ne_of_none h1 h
    obtain ⟨y1, y2, y3⟩ := st.frm a x h1 h2 h3
    exact ⟨y1, y2, by rw [put_ne ne]; exact y3⟩⟩
theorem Stp.out {W W' : Hp} {S S' : Sto} {H H' : Hp} {p : Addr} {o : HO} (st : Stp W S H W' S' H') (h : H p = none) : Stp W S H W' S' (upd H' p o) :=
  ⟨st.vis, fun a x h1 h2 h3 => by
    have ne : a ≠ p := ne_of_none h1 h
    obtain ⟨y1, y2, y3⟩ := st.frm a x h1 h2 h3
    exact ⟨by rw [upd_ne ne]; exact y1, y2, y3⟩⟩
theorem Ok.out {K : PySem.W.Frag} {W : Hp} {S : Sto} {H : Hp} {p : Addr} {o : HO} (ok : Ok K W S H) (hW : W p = none) (hS : S p = none) : Ok K W S (upd H p o) :=
  ⟨fun b x e => by rw [upd_ne (ne_of_none e hW)]; exact ok.vis _ _ e, fun a m e => by
    obtain ⟨x, e1, e2⟩ := ok.sto _ _ e
    exact ⟨x, by rw [upd_ne (ne_of_S e hS)]; exact e1, e2⟩, ok.sep⟩
theorem Ok.see {K : PySem.W.Frag} {W : Hp} {S : Sto} {H : Hp} {p : Addr} {o : HO} (ok : Ok K W S H) (hW : W p = none) (hS : S p = none) (hH : H p = some o) : Ok K (upd W p o) S H :=
  ⟨fun b x e => by
    by_cases q : b = p
    · subst q; rw [upd_same] at e; cases e; exact hH
    · rw [upd_ne q] at e; exact ok.vis _ _ e, fun a m e => by
    obtain ⟨x, e1, e2⟩ := ok.sto _ _ e
    exact ⟨x, e1, e2.mono (same_new hW)⟩, fun a m e => by
    rw [upd_ne (ne_of_S e hS)]; exact ok.sep _ _ e⟩
theorem Ok.own {K : PySem.W.Frag} {W : Hp} {S : Sto} {H : Hp} {p : Addr} {o : HO} {m : MO} (ok : Ok K W S H) (hW : W p = none) (hH : H p = some o) (r : MRep K W m o) : Ok K W (put S p m) H :=
  ⟨ok.vis, fun a n e => by
    by_cases q : a = p
    · subst q; rw [put_same] at e; cases e; exact ⟨o, hH, r⟩
    · rw [put_ne q] at e; exact ok.sto _ _ e, fun a n e => by
    by_cases q : a = p
    · subst q; exact hW
    · rw [put_ne q] at e; exact ok.sep _ _ e⟩
section
variable {X : Cx} {elt tg iter : Expr} {ifs : List Expr} {scope : Scope} {own : List (Str × Nat)} {pos : Pos} {wi : WPi} {t : WPg} {tt : WPt} {te : WPe}
/-- the made list stands at p, nobody else's -/
theorem lc_go {Wx : WX} {vs : List Nat} {σ : L2.St} {H : Hp} {Q : VK} {K : PySem.W.Frag} {n : Nat} {items : List D} {g : Sto → Prop} {env : DE} {W1 : Hp} {S1 : Sto} {H1 : Hp} {J : It} {Q1 : List D → Sto → Prop} (hl : σ.length = n) (hz : items.length ≤ sizeLine)
    (h : compI t tt te g (delVs env vs) items S1 Q1) (ok1 : Ok K W1 S1 H1) (sl : Sl K W1 env σ) (jok : JOk K J W1 items g)
    (fin : ∀ (p : Addr) acc ws W2 S2 H2, H1 p = none → Q1 acc S2 → Stp W1 S1 H1 W2 S2 H2 → Ok K W2 S2 H2 → W2 p = none → S2 p = none → H2 p = some (.lst ws) → Reps K W2 acc ws → Q (.ref p) H2) :
    ∀ p, H1 p = none → ∃ Wt : Nat → Nat → Hp → Prop, (∃ m, Wt 0 m (upd H1 p (.lst []))) ∧ ∀ i m H, Wt i m H →
      (J.stop i H ∧ Q (.ref p) H) ∨ (J.go i H ∧ ∃ Nx : Hp → Prop, (∀ H', Nx H' → ∃ m', m' < m ∧ Wt (i + 1) m' H') ∧ ∀ x H', J.yld i H x H' → lG K n vs t x (wipe σ vs) H' fun σ2 H2 => wipe σ2 vs = wipe σ vs ∧ lT K (fun _ _ _ _ => False) tt σ2 H2 fun b H3 =>
        if b = true then lE K (fun _ _ _ _ => False) te σ2 H3 fun y H4 => ∃ acc, H4 p = some (.lst acc) ∧ acc.length < sizeLine ∧ Nx (upd H4 p (.lst (acc ++ [y]))) else Nx H3) := by
  intro p hp
  obtain ⟨P, h0, hg, hs, hd⟩ := h
  have hf := ok1.fresh hp
  refine ⟨fun i m H' => m = items.length - i ∧ i ≤ items.length ∧ ∃ W' S' acc ws, Stp W1 S1 H1 W' S' H' ∧ Ok K W' S' H' ∧ W' p = none ∧ S' p = none ∧ H' p = some (.lst ws) ∧ Reps K W' acc ws ∧ acc.length ≤ i ∧ P i acc S',
    ⟨items.length, rfl, Nat.zero_le _, W1, S1, [], [], ok1.stJ hp, ok1.junk hp, hf.1, hf.2, upd_same, rfl, Nat.le_refl _, h0⟩, ?_⟩
  rintro i m H' ⟨rfl, hi, W', S', acc, ws, s2, ok2, hW', hS', hH', rw', hle, h2⟩
  have hgS := hg i acc S' hi h2
  by_cases hlt : i < items.length
  · have hdd := List.getElem?_eq_getElem hlt
    obtain ⟨go, yl⟩ := jok.step i W' S' H' _ hdd s2.vis ok2 hgS
    refine .inr ⟨go, fun H3 => ∃ W' S' acc ws, Stp W1 S1 H1 W' S' H3 ∧ Ok K W' S' H3 ∧ W' p = none ∧ S' p = none ∧ H3 p = some (.lst ws) ∧ Reps K W' acc ws ∧ acc.length ≤ i + 1 ∧ P (i + 1) acc S',
      fun H3 h3 => ⟨items.length - (i + 1), by omega, rfl, hlt, h3⟩, fun x H2 y => ?_⟩
    obtain ⟨W2, s3, ok3, rx⟩ := yl x H2 y
    obtain ⟨k1, k2, k3⟩ := s3.frm p _ hH' hW' hS'
    refine ⟨W2, S', delVs env vs, items[i], _, ok3, sl_wipe (sl.mono (s2.trans s3).vis) vs, delVs_len hl, rx, hs i _ acc S' hdd h2, fun e2 σ3 h3 sl3 hl3 hw3 => ⟨?_, ?_⟩⟩
    · rw [hw3]; exact wipe_wipe
    · refine ⟨W2, e2, S', _, _, ok3, sl3, h3, fun b S4 W4 H4 h4 s4 ok4 => ?_, CXc.no⟩
      obtain ⟨j1, j2, j3⟩ := s4.frm p _ k1 k2 k3
      cases b with
      | true =>
        refine iteT ⟨W4, e2, S4, _, _, ok4, sl3.mono s4.vis, (if_pos rfl).mp h4, fun d S5 v W5 H5 h5 s5 ok5 r5 => ?_, CXc.no⟩
        obtain ⟨l1, l2, l3⟩ := s5.frm p _ j1 j2 j3
        have st := s2.trans (s3.trans (s4.trans s5))
        have rlen := rw'.length
        refine ⟨ws, l1, by omega, W5, S5, acc ++ [d], ws ++ [v], st.out hp, ok5.out l2 l3, l2, l3, upd_same, (rw'.mono (s3.trans (s4.trans s5)).vis).append (Reps.one r5), ?_, h5⟩
        rw [List.length_append, List.length_singleton]; omega
      | false =>
        have st := s2.trans (s3.trans s4)
        exact iteF ⟨W4, S4, acc, ws, st, ok4, j2, j3, j1, rw'.mono (s3.trans s4).vis, by omega, (if_neg Bool.false_ne_true).mp h4⟩
  · have e : i = items.length := by omega
    subst e
    exact .inl ⟨jok.stop W' S' H' s2.vis ok2 hgS, fin p acc ws W' S' H' hp (hd _ _ h2) s2 ok2 hW' hS' hH' rw'⟩
theorem lc_lst {Wx : WX} {vs : List Nat} {σ : L2.St} {H : Hp} {Q : VK} {K : PySem.W.Frag} {n : Nat} (hl : σ.length = n) (h : lE K Wx (wLc wi t tt te vs) σ H Q) :
    tLc (lI K Wx wi) (lG K n vs t) (lT K (fun _ _ _ _ => False) tt) (lE K (fun _ _ _ _ => False) te) vs σ H Q := by
  obtain ⟨W, env, S, Q0, X1, ok, sl, hw, cv, cx⟩ := h
  refine ⟨W, env, S, _, X1, ok, sl, hw, fun items g S1 W1 H1 J ⟨hz, h1⟩ s1 ok1 jok => ?_, cx⟩
  exact lc_go (Wx := Wx) (H := H) hl hz h1 ok1 (sl.mono s1.vis) jok fun p acc ws W2 S2 H2 hp q s2 ok2 a b c r =>
    cv _ S2 _ _ H2 q ((s1.trans s2).see' hp a s1) (ok2.see a b c) ⟨p, ws, rfl, upd_same, r.mono (same_new a)⟩
theorem lc_lstM {Wx : WX} {vs : List Nat} {σ : L2.St} {H : Hp} {Q : VK} {K : PySem.W.Frag} {n : Nat} (hl : σ.length = n) (h : lE K Wx (wLcM wi t tt te vs) σ H Q) :
    tLc (lI K Wx wi) (lG K n vs t) (lT K (fun _ _ _ _ => False) tt) (lE K (fun _ _ _ _ => False) te) vs σ H Q := by
  obtain ⟨W, env, S, Q0, X1, ok, sl, hw, cv, cx⟩ := h
  refine ⟨W, env, S, _, X1, ok, sl, hw, fun items g S1 W1 H1 J ⟨hz, h1⟩ s1 ok1 jok => ?_, cx⟩
  exact lc_go (Wx := Wx) (H := H) hl hz h1 ok1 (sl.mono s1.vis) jok fun p acc ws W2 S2 H2 hp q s2 ok2 a b c r =>
    cv _ _ _ _ H2 (q p b) (s1.trans (s2.own hp)) (ok2.own (m := .lst acc) a c ⟨ws, rfl, r⟩) rfl
variable {pos2 : Pos} {i : Nat} {x : Str}
theorem pd_lcW {w : WPe} (hc : X.calm = true) (hN : X.N.Nodup) (hi : PDi X tg iter wi) (ok : BlkOk X.N X.env.scope scope own)
    (hg : ∀ (s : Shared) (H : Hp) (C : Addr) (cl : List (Str × Addr)) (fp : List Addr), PDg (X.blk s H scope (compEnvC scope cl C X.env) fp) tg (own.map (·.2)) t) (ht : ∀ (s : Shared) (H : Hp) (C : Addr) (cl : List (Str × Addr)) (fp : List Addr), PDts (X.blk s H scope (compEnvC scope cl C X.env) fp) ifs tt)
    (he : ∀ (s : Shared) (H : Hp) (C : Addr) (cl : List (Str × Addr)) (fp : List Addr), PD (X.blk s H scope (compEnvC scope cl C X.env) fp) elt te)
    (hw : ∀ Wx σ H Q, σ.length = X.N.length → lE X.K Wx w σ H Q → tLc (lI X.K Wx wi) (lG X.K X.N.length (own.map (·.2)) t) (lT X.K (fun _ _ _ _ => False) tt) (lE X.K (fun _ _ _ _ => False) te) (own.map (·.2)) σ H Q)
    (hs : ∀ x, foldedSetIterable iter X.env x = pure x := by intro _; rfl) : PD X (.ListComp elt [⟨tg, iter, ifs, 0⟩] scope pos) w :=
  ⟨fun Wx tk => ⟨fun pins s σ H Q I h => (pe_lc hc hN (hi.run Wx tk) ok (fun s H C cl fp => (hg s H C cl fp).run) (fun s H C cl fp => (ht s H C cl fp).run _ takesF) (fun s H C cl fp => (he s H C cl fp).run _ takesF) hs).run pins s σ H Q I (hw Wx σ H Q I.len h)⟩⟩
theorem pd_lc (hc : X.calm = true) (hN : X.N.Nodup) (hi : PDi X tg iter wi) (ok : BlkOk X.N X.env.scope scope own)
    (hg : ∀ (s : Shared) (H : Hp) (C : Addr) (cl : List (Str × Addr)) (fp : List Addr), PDg (X.blk s H scope (compEnvC scope cl C X.env) fp) tg (own.map (·.2)) t) (ht : ∀ (s : Shared) (H : Hp) (C : Addr) (cl : List (Str × Addr)) (fp : List Addr), PDts (X.blk s H scope (compEnvC scope cl C X.env) fp) ifs tt)
    (he : ∀ (s : Shared) (H : Hp) (C : Addr) (cl : List (Str × Addr)) (fp : List Addr), PD (X.blk s H scope (compEnvC scope cl C X.env) fp) elt te)
    (hs : ∀ x, foldedSetIterable iter X.env x = pure x := by intro _; rfl) : PD X (.ListComp elt [⟨tg, iter, ifs, 0⟩] scope pos) (wLc wi t tt te (own.map (·.2))) := pd_lcW hc hN hi ok hg ht he (fun _ _ _ _ hl h => lc_lst hl h) hs
theorem pd_lcM (hc : X.calm = true) (hN : X.N.Nodup) (hi : PDi X tg iter wi) (ok : BlkOk X.N X.env.scope scope own)
    (hg : ∀ (s : Shared) (H : Hp) (C : Addr) (cl : List (Str × Addr)) (fp : List Addr), PDg (X.blk s H scope (compEnvC scope cl C X.env) fp) tg (own.map (·.2)) t) (ht : ∀ (s : Shared) (H : Hp) (C : Addr) (cl : List (Str × Addr)) (fp : List Addr), PDts (X.blk s H scope (compEnvC scope cl C X.env) fp) ifs tt)
    (he : ∀ (s : Shared) (H : Hp) (C : Addr) (cl : List (Str × Addr)) (fp : List Addr), PD (X.blk s H scope (compEnvC scope cl C X.env) fp) elt te)
    (hs : ∀ x, foldedSetIterable iter X.env x = pure x := by intro _; rfl) : PD X (.ListComp elt [⟨tg, iter, ifs, 0⟩] scope pos) (wLcM wi t tt te (own.map (·.2))) := pd_lcW hc hN hi ok hg ht he (fun _ _ _ _ hl h => lc_lstM hl h) hs
/-- x = [..] on one line -/
theorem pds_setLcW {w : WPe} (hc : X.calm = true) (hN : X.N.Nodup) (hy : X.N[i]? = some x) (hyl : X.env.scope.names.lookup x = some .local) {px : Pos}
    (hsw : swapsWith (.ListComp elt [⟨tg, iter, ifs, 0⟩] scope pos) (some (.Name x px)) pos2.line X.env = pure true) (hi : PDi X tg iter wi) (ok : BlkOk X.N X.env.scope scope own)
    (hg : ∀ (s : Shared) (H : Hp) (C : Addr) (cl : List (Str × Addr)) (fp : List Addr), PDg (X.blk s H scope (compEnvC scope cl C X.env) fp) tg (own.map (·.2)) t) (ht : ∀ (s : Shared) (H : Hp) (C : Addr) (cl : List (Str × Addr)) (fp : List Addr), PDts (X.blk s H scope (compEnvC scope cl C X.env) fp) ifs tt)
    (he : ∀ (s : Shared) (H : Hp) (C : Addr) (cl : List (Str × Addr)) (fp : List Addr), PD (X.blk s H scope (compEnvC scope cl C X.env) fp) elt te)
    (hw : ∀ Wx σ H Q, σ.length = X.N.length → lE X.K Wx w σ H Q → tLc (lI X.K Wx wi) (lG X.K X.N.length (own.map (·.2)) t) (lT X.K (fun _ _ _ _ => False) tt) (lE X.K (fun _ _ _ _ => False) te) (own.map (·.2)) σ H Q)
    (hs : ∀ x, foldedSetIterable iter X.env x = pure x := by intro _; rfl) : PDs X (.Assign [.Name x px] (.ListComp elt [⟨tg, iter, ifs, 0⟩] scope pos) pos2) (wSet i w) :=
  ⟨fun Wx tk => PS.imp (ps_setLc hc hN hy hyl hsw (hi.run Wx tk) ok (fun s H C cl fp => (hg s H C cl fp).run) (fun s H C cl fp => (ht s H C cl fp).run _ takesF) (fun s H C cl fp => (he s H C cl fp).run _ takesF) hs) fun D σ H ⟨W, env, S, q, ok, sl, hl, hww, cs⟩ =>
    hw Wx σ H _ hl ⟨W, env, S, _, _, ok, sl, hww, fun d S1 v W1 H1 h1 s1 ok1 r1 => cs.nx _ S1 _ W1 H1 h1 s1 ok1 ((sl.mono s1.vis).set (by rw [hl]; exact lt_of_some hy) r1) (by rw [List.length_set]; exact hl), CXc.of cs sl⟩⟩
theorem pds_setLc (hc : X.calm = true) (hN : X.N.Nodup) (hy : X.N[i]? = some x) (hyl : X.env.scope.names.lookup x = some .local) {px : Pos}
    (hsw : swapsWith (.ListComp elt [⟨tg, iter, ifs, 0⟩] scope pos) (some (.Name x px)) pos2.line X.env = pure true) (hi : PDi X tg iter wi) (ok : BlkOk X.N X.env.scope scope own)
    (hg : ∀ (s : Shared) (H : Hp) (C : Addr) (cl : List (Str × Addr)) (fp : List Addr), PDg (X.blk s H scope (compEnvC scope cl C X.env) fp) tg (own.map (·.2)) t) (ht : ∀ (s : Shared) (H : Hp) (C : Addr) (cl : List (Str × Addr)) (fp : List Addr), PDts (X.blk s H scope (compEnvC scope cl C X.env) fp) ifs tt)
    (he : ∀ (s : Shared) (H : Hp) (C : Addr) (cl : List (Str × Addr)) (fp : List Addr), PD (X.blk s H scope (compEnvC scope cl C X.env) fp) elt te)
    (hs : ∀ x, foldedSetIterable iter X.env x = pure x := by intro _; rfl) : PDs X (.Assign [.Name x px] (.ListComp elt [⟨tg, iter, ifs, 0⟩] scope pos) pos2) (wSet i (wLc wi t tt te (own.map (·.2)))) :=
  pds_setLcW hc hN hy hyl hsw hi ok hg ht he (fun _ _ _ _ hl h => lc_lst hl h) hs
theorem pds_setLcM (hc : X.calm = true) (hN : X.N.Nodup) (hy : X.N[i]? = some x) (hyl : X.env.scope.names.lookup x = some .local) {px : Pos}
    (hsw : swapsWith (.ListComp elt [⟨tg, iter, ifs, 0⟩] scope pos) (some (.Name x px)) pos2.line X.env = pure true) (hi : PDi X tg iter wi) (ok : BlkOk X.N X.env.scope scope own)
    (hg : ∀ (s : Shared) (H : Hp) (C : Addr) (cl : List (Str × Addr)) (fp : List Addr), PDg (X.blk s H scope (compEnvC scope cl C X.env) fp) tg (own.map (·.2)) t) (ht : ∀ (s : Shared) (H : Hp) (C : Addr) (cl : List (Str × Addr)) (fp : List Addr), PDts (X.blk s H scope (compEnvC scope cl C X.env) fp) ifs tt)
    (he : ∀ (s : Shared) (H : Hp) (C : Addr) (cl : List (Str × Addr)) (fp : List Addr), PD (X.blk s H scope (compEnvC scope cl C X.env) fp) elt te)
    (hs : ∀ x, foldedSetIterable iter X.env x = pure x := by intro _; rfl) : PDs X (.Assign [.Name x px] (.ListComp elt [⟨tg, iter, ifs, 0⟩] scope pos) pos2) (wSet i (wLcM wi t tt te (own.map (·.2)))) :=
  pds_setLcW hc hN hy hyl hsw hi ok hg ht he (fun _ _ _ _ hl h => lc_lstM hl h) hs
end
end DL
set_option Elab.async false
set_option linter.all false
set_option maxRecDepth 100000
set_option maxHeartbeats 1000000
/-! The data layer, part h: contracts of defs by name. -/
namespace DL
open PySem PySem.Spec PyProof.Rows L2

def DefAt (K : PySem.W.Frag) (mg : Str → Option Value) (x qual : Str) (st : Stmt) (ps : List Str) : Prop := ∃ f fd, Fun K x qual st f fd ∧ mg x = some (.ref f) ∧ Binds K fd ps []
def MetAt (K : PySem.W.Frag) (C : Addr) (m qual : Str) (st : Stmt) (ps : List Str) : Prop := ∃ f fd, Fun K m qual st f fd ∧ Meth K C m f ∧ Binds K fd ps []
def MkAt (K : PySem.W.Frag) (C : Addr) (qual : Str) (st : Stmt) (ps : List Str) : Prop := ∃ f fd, Fun K "__init__" qual st f fd ∧ Mk K C f ∧ Binds K fd ps []
section
variable (P : Program) (w : World) (K : PySem.W.Frag) (mg : Str → Option Value) (base : Heap)
def FnC (k : Nat) (x : Str) (ps : List Str) (spec : Ctr) : Prop := ∃ f fd, FnD P w K mg base k f fd ps spec ∧ mg x = some (.ref f) ∧ PySem.W.keepIn K (.ref f) = true ∧ Binds K fd ps []
def MtC (C : Addr) (k : Nat) (m : Str) (ps : List Str) (spec : Ctr) : Prop := ∃ f fd, FnD P w K mg base k f fd ps spec ∧ Meth K C m f ∧ Binds K fd ps []
def MkC (C : Addr) (k : Nat) (ps : List Str) (spec : Ctr) : Prop := ∃ f fd, FnD P w K mg base k f fd ps spec ∧ Mk K C f ∧ Binds K fd ps []
end
/-- what a body is to end in -/
def endQ (Q : Qd) (X1 : XQ) : QS := { nx := fun _ S' => Q .non S', rt := Q, bk := fun _ _ => False, ct := fun _ _ => False, xc := fun C fs _ S' => X1 C fs S' }
section
variable {P : Program} {w : World} {K : PySem.W.Frag} {mg : Str → Option Value} {base : Heap} {x qual : Str} {st : Stmt} {N ps : List Str} {k : Nat} {spec : Ctr} {ws : WPs} {C : Addr}
theorem fnd_mk {f : Addr} {fd : FuncData} (F : Fun K x qual st f fd) (S : FnScope N ps (defScope st)) (hle : ps.length ≤ N.length) (len : ∀ ds S Q E, spec ds S Q E → ds.length = ps.length)
    (hd : ∀ (f : Addr) (cdv : Value) (A : Around) (outer : List Env) (s : Shared) (H : Hp) (E : XK), Room k (A.deeper (envOfC qual (defScope st) s.heap.objs.size f cdv)) → PDss (cxOf (L2.CX P w) P w K mg base N qual (defScope st) f cdv A outer s H E) (defBody st) ws)
    (hr : ∀ ds S Q X1, spec ds S Q X1 → ws (startD N ds) S (endQ Q X1)) : FnD P w K mg base (k + 1) f fd ps spec :=
  Fun.okD F S hle len fun cdv A outer s H E hrm => ⟨ws, hd f cdv A outer s H E hrm, hr⟩
theorem FnC.mk (D : DefAt K mg x qual st ps) (S : FnScope N ps (defScope st)) (hle : ps.length ≤ N.length) (len : ∀ ds S Q E, spec ds S Q E → ds.length = ps.length)
    (hd : ∀ (f : Addr) (cdv : Value) (A : Around) (outer : List Env) (s : Shared) (H : Hp) (E : XK), Room k (A.deeper (envOfC qual (defScope st) s.heap.objs.size f cdv)) → PDss (cxOf (L2.CX P w) P w K mg base N qual (defScope st) f cdv A outer s H E) (defBody st) ws)
    (hr : ∀ ds S Q X1, spec ds S Q X1 → ws (startD N ds) S (endQ Q X1)) : FnC P w K mg base (k + 1) x ps spec := by
  obtain ⟨f, fd, F, hm, hb⟩ := D
  exact ⟨f, fd, fnd_mk F S hle len hd hr, hm, F.kp, hb⟩
theorem MtC.mk {m : Str} (D : MetAt K C m qual st ps) (S : FnScope N ps (defScope st)) (hle : ps.length ≤ N.length) (len : ∀ ds S Q E, spec ds S Q E → ds.length = ps.length)
    (hd : ∀ (f : Addr) (cdv : Value) (A : Around) (outer : List Env) (s : Shared) (H : Hp) (E : XK), Room k (A.deeper (envOfC qual (defScope st) s.heap.objs.size f cdv)) → PDss (cxOf (L2.CX P w) P w K mg base N qual (defScope st) f cdv A outer s H E) (defBody st) ws)
    (hr : ∀ ds S Q X1, spec ds S Q X1 → ws (startD N ds) S (endQ Q X1)) : MtC P w K mg base C (k + 1) m ps spec := by
  obtain ⟨f, fd, F, hm, hb⟩ := D
  exact ⟨f, fd, fnd_mk F S hle len hd hr, hm, hb⟩
theorem MkC.mk (D : MkAt K C qual st ps) (S : FnScope N ps (defScope st)) (hle : ps.length ≤ N.length) (len : ∀ ds S Q E, spec ds S Q E → ds.length = ps.length)
    (hd : ∀ (f : Addr) (cdv : Value) (A : Around) (outer : List Env) (s : Shared) (H : Hp) (E : XK), Room k (A.deeper (envOfC qual (defScope st) s.heap.objs.size f cdv)) → PDss (cxOf (L2.CX P w) P w K mg base N qual (defScope st) f cdv A outer s H E) (defBody st) ws)
    (hr : ∀ ds S Q X1, spec ds S Q X1 → ws (startD N ds) S (endQ Q X1)) : MkC P w K mg base C (k + 1) ps spec := by
  obtain ⟨f, fd, F, hm, hb⟩ := D
  exact ⟨f, fd, fnd_mk F S hle len hd hr, hm, hb⟩
/-- a promise for no arguments at all: where a recursion begins -/
theorem FnC.zero (D : DefAt K mg x qual st ps) : FnC P w K mg base k x ps (fun _ _ _ _ => False) := by
  obtain ⟨f, fd, F, hm, hb⟩ := D
  exact ⟨f, fd, ⟨fun vs H Q E ⟨_, _, _, _, _, _, _, h, _⟩ => h.elim, fun A outer s H args us vs Q E _ _ _ _ ⟨_, _, _, _, _, _, _, h, _⟩ => h.elim⟩, hm, F.kp, hb⟩
theorem FnD.imp {f : Addr} {fd : FuncData} {spec' : Ctr} (F : FnD P w K mg base k f fd ps spec) (h : ∀ ds S Q X1, spec' ds S Q X1 → spec ds S Q X1) : FnD P w K mg base k f fd ps spec' :=
  FnOk.imp F fun vs H Q E ⟨W, S, ds, Q0, X1, ok, r, hs, cv, cx⟩ => ⟨W, S, ds, Q0, X1, ok, r, h _ _ _ _ hs, cv, cx⟩
theorem FnC.imp {spec' : Ctr} (F : FnC P w K mg base k x ps spec) (h : ∀ ds S Q X1, spec' ds S Q X1 → spec ds S Q X1) : FnC P w K mg base k x ps spec' := by
  obtain ⟨f, fd, F, a⟩ := F
  exact ⟨f, fd, FnD.imp F h, a⟩
theorem FnC.mono {k' : Nat} (F : FnC P w K mg base k x ps spec) (h : k ≤ k') : FnC P w K mg base k' x ps spec := by
  obtain ⟨f, fd, F, a⟩ := F
  exact ⟨f, fd, FnOk.mono F h, a⟩
end
section
variable {X : Cx} {k : Nat} {C : Addr} {ps : List Str} {spec : Ctr} {x m : Str} {p pos apos : Pos} {e o : Expr} {es : List Expr} {wo : WPe} {wa : WPa}
theorem pd_fn (G : FnC X.prog X.w X.K X.mg X.base k x ps spec) (hr : Room k X.A) (ha : PDa X (e :: es) wa) (hg : Gl X x := by rfl) (hdb : (x == ("__debug__" : Str)) = false := by decide)
    (he : starEach (e :: es) X.env = (false, eval e X.env) :: starEach es X.env := by rfl) (hpl : (backTo pos (starEach es X.env)).any (·.1) = false := by rfl) : PD X (.Call (.Name x p) (e :: es) [] pos) (wCall spec wa) := by
  obtain ⟨f, fd, F, hm, hk, hb⟩ := G
  exact pd_call F hr hm hk hb ha hg hdb he hpl
theorem pd_fn0 (G : FnC X.prog X.w X.K X.mg X.base k x ps spec) (hr : Room k X.A) (hg : Gl X x := by rfl) (hdb : (x == ("__debug__" : Str)) = false := by decide) : PD X (.Call (.Name x p) [] [] pos) (wCall spec wNil) := by
  obtain ⟨f, fd, F, hm, hk, hb⟩ := G
  exact pd_call0 F hr hm hk hb hg hdb
theorem pd_mt {N : List Str} {pl : Sem Bool} (c : Cls X.K C) (G : MtC X.prog X.w X.K X.mg X.base C k m ps spec) (hN : m ∉ N) (hr : Room k X.A) (ho : PD X o wo) (ha : PDa X (e :: es) wa)
    (hst : starEach (e :: es) X.env = (false, eval e X.env) :: starEach es X.env := by rfl) (hpl : (backTo pos (starEach es X.env)).any (·.1) = false := by rfl)
    (ht : eval (.Call (.Attribute o m apos) (e :: es) [] pos) X.env = (do
      let ov ← eval o X.env
      standAt apos.atName
      let (f, first) ← holding [ov] (getMethod ov m pl)
      callWith pos f first (backTo pos (starEach (e :: es) X.env)) (backToKw pos (keywordEach [] X.env))) := by rfl) : PD X (.Call (.Attribute o m apos) (e :: es) [] pos) (wMeth C N spec wo wa) := by
  obtain ⟨f, fd, F, hm, hb⟩ := G
  exact pd_meth c hm hN F hr hb ho ha hst hpl ht
theorem pd_mt0 {N : List Str} {pl : Sem Bool} (c : Cls X.K C) (G : MtC X.prog X.w X.K X.mg X.base C k m ps spec) (hN : m ∉ N) (hr : Room k X.A) (ho : PD X o wo)
    (ht : eval (.Call (.Attribute o m apos) [] [] pos) X.env = (do
      let ov ← eval o X.env
      standAt apos.atName
      let (f, first) ← holding [ov] (getMethod ov m pl)
      callWith pos f first (backTo pos (starEach [] X.env)) (backToKw pos (keywordEach [] X.env))) := by rfl) : PD X (.Call (.Attribute o m apos) [] [] pos) (wMeth C N spec wo wNil) := by
  obtain ⟨f, fd, F, hm, hb⟩ := G
  exact pd_meth0 c hm hN F hr hb ho ht
theorem pd_mk {N : List Str} (G : MkC X.prog X.w X.K X.mg X.base C k ps spec) (hm : X.mg x = some (.ref C)) (hN : N.Nodup) (hl : N.length ≤ 900) (hr : Room (k + 1) X.A) (ha : PDa X (e :: es) wa) (hg : Gl X x := by rfl) (hdb : (x == ("__debug__" : Str)) = false := by decide)
    (he : starEach (e :: es) X.env = (false, eval e X.env) :: starEach es X.env := by rfl) (hpl : (backTo pos (starEach es X.env)).any (·.1) = false := by rfl) : PD X (.Call (.Name x p) (e :: es) [] pos) (wMake C N spec wa) := by
  obtain ⟨f, fd, F, M, hb⟩ := G
  exact pd_make M hN hl F hr hm hb ha hg hdb he hpl
end
end DL
set_option Elab.async false
set_option linter.all false
set_option maxRecDepth 100000
set_option maxHeartbeats 1000000
/-! The data layer, part i: forms of data, their equality; words that reduce a reading. -/
namespace DL
open PySem PySem.Spec PyProof.Rows L2

/-! ### data of a depth -/
def okP (n : Nat) (p : PyData) : Prop := p.canLay0 = true ∧ p.depth ≤ n
theorem okP_int {n : Nat} {i : Int} : okP n (.int i) := ⟨rfl, Nat.zero_le _⟩
theorem okP_bool {n : Nat} {i : Bool} : okP n (.bool i) := ⟨rfl, Nat.zero_le _⟩
theorem okP_none {n : Nat} : okP n .none := ⟨rfl, Nat.zero_le _⟩
theorem okP_all {n : Nat} : ∀ {xs : List D}, (∀ x, x ∈ xs → okP n (toP x)) → PyData.canLayAll0 (toPs xs) = true ∧ PyData.depthAll (toPs xs) ≤ n
  | [], _ => ⟨rfl, Nat.zero_le _⟩
  | x :: r, h => by
    obtain ⟨a, b⟩ := h x List.mem_cons_self
    obtain ⟨c, d⟩ := okP_all (xs := r) fun y hy => h y (List.mem_cons_of_mem _ hy)
    refine ⟨?_, ?_⟩
    · show (PyData.canLay0 (toP x) && PyData.canLayAll0 (toPs r)) = true
      rw [a, c]; rfl
    · show max (PyData.depth (toP x)) (PyData.depthAll (toPs r)) ≤ n
      exact Nat.max_le.mpr ⟨b, d⟩
theorem okP_lst {n : Nat} {xs : List D} (h : ∀ x, x ∈ xs → okP n (toP x)) : okP (n + 1) (toP (.lst xs)) := ⟨(okP_all h).1, Nat.succ_le_succ (okP_all h).2⟩
theorem okP_tup {n : Nat} {xs : List D} (h : ∀ x, x ∈ xs → okP n (toP x)) : okP (n + 1) (toP (.tup xs)) := ⟨(okP_all h).1, Nat.succ_le_succ (okP_all h).2⟩
theorem okP_mono {n m : Nat} {p : PyData} (h : okP n p) (e : n ≤ m) : okP m p := ⟨h.1, Nat.le_trans h.2 e⟩
theorem shaped_of {n : Nat} {p : PyData} (h : okP n p) (e : n ≤ 64) : SeqAt.shaped p = true := by
  unfold SeqAt.shaped
  rw [h.1, decide_eq_true (Nat.le_trans h.2 e)]; rfl
theorem eqvAll_map {α : Type} [DecidableEq α] {f : α → D} (hf : ∀ a b, PyData.eqv (toP (f a)) (toP (f b)) = decide (a = b)) : ∀ xs ys : List α, PyData.eqvAll (toPs (xs.map f)) (toPs (ys.map f)) = decide (xs = ys)
  | [], [] => by simp [toPs, PyData.eqvAll]
  | [], _ :: _ => by simp [toPs, PyData.eqvAll]
  | _ :: _, [] => by simp [toPs, PyData.eqvAll]
  | a :: r, b :: s => by
    show (PyData.eqv (toP (f a)) (toP (f b)) && PyData.eqvAll (toPs (r.map f)) (toPs (s.map f))) = _
    rw [hf, eqvAll_map hf r s]
    by_cases h1 : a = b <;> by_cases h2 : r = s <;> simp [h1, h2]
/-! ### rows of ints -/
def dL (xs : List Int) : D := .lst (xs.map D.int)
def dT (xs : List Int) : D := .tup (xs.map D.int)
/-- a row of ints as a tuple (true) or a list -/
def dR (k : Bool) (xs : List Int) : D := if k = true then dT xs else dL xs
/-- rows as a tuple or a list of tuples or lists -/
def rows (k j : Bool) (xs : List (List Int)) : D := if k = true then .tup (xs.map (dR j)) else .lst (xs.map (dR j))
theorem eqv_int (a b : Int) : PyData.eqv (toP (.int a)) (toP (.int b)) = decide (a = b) := by
  show (a == b) = _
  rw [Bool.beq_eq_decide_eq]
theorem eqv_dL (a b : List Int) : PyData.eqv (toP (dL a)) (toP (dL b)) = decide (a = b) := eqvAll_map eqv_int a b
theorem eqv_dT (a b : List Int) : PyData.eqv (toP (dT a)) (toP (dT b)) = decide (a = b) := eqvAll_map eqv_int a b
theorem okP_ints {xs : List Int} : ∀ x, x ∈ xs.map D.int → okP 0 (toP x) := fun x h => by
  obtain ⟨i, _, rfl⟩ := List.mem_map.mp h
  exact okP_int
theorem okP_dL {xs : List Int} : okP 1 (toP (dL xs)) := okP_lst okP_ints
theorem okP_dT {xs : List Int} : okP 1 (toP (dT xs)) := okP_tup okP_ints
theorem seqA_dR {S : Sto} {k : Bool} {xs : List Int} : seqA S (dR k xs) = some (xs.map D.int) := by cases k <;> rfl
theorem seqA_rows {S : Sto} {k j : Bool} {xs : List (List Int)} : seqA S (rows k j xs) = some (xs.map (dR j)) := by cases k <;> rfl
section
variable {S : Sto} {a b : List Int} {i j : Int} {p q : Bool}
theorem shD_int : shD S (.int i) = true := rfl
theorem shD_bl : shD S (.bl p) = true := rfl
theorem shD_non : shD S .non = true := rfl
theorem shD_dL : shD S (dL a) = true := shaped_of okP_dL (by decide)
theorem shD_dT : shD S (dT a) = true := shaped_of okP_dT (by decide)
theorem shD_lst : shD S (.lst (a.map D.int)) = true := shaped_of okP_dL (by decide)
theorem shD_tup : shD S (.tup (a.map D.int)) = true := shaped_of okP_dT (by decide)
theorem eqD_int : eqD S (.int i) (.int j) = decide (i = j) := eqv_int i j
theorem eqD_bl : eqD S (.bl p) (.bl q) = (p == q) := rfl
theorem eqD_dL : eqD S (dL a) (dL b) = decide (a = b) := eqv_dL a b
theorem eqD_dT : eqD S (dT a) (dT b) = decide (a = b) := eqv_dT a b
theorem eqD_lst : eqD S (.lst (a.map D.int)) (.lst (b.map D.int)) = decide (a = b) := eqv_dL a b
theorem eqD_tup : eqD S (.tup (a.map D.int)) (.tup (b.map D.int)) = decide (a = b) := eqv_dT a b
end
/-! ### slices of rows of ints -/
def cutI (xs : List Int) (lo hi : Option Int) : List Int := (xs.drop (HT.sIx xs.length 0 lo)).take (HT.sIx xs.length xs.length hi - HT.sIx xs.length 0 lo)
theorem cutD_int {xs : List Int} {lo hi : Option Int} : cutD (xs.map D.int) lo hi = (cutI xs lo hi).map D.int := by
  unfold cutD cutI
  rw [List.length_map, List.map_take, List.map_drop]
theorem sIx_pos {n d : Nat} {i : Int} (h : 0 ≤ i) : HT.sIx n d (some i) = min i.toNat n := by
  obtain ⟨k, rfl⟩ := Int.eq_ofNat_of_zero_le h
  rw [HT.sIx_nat]
  simp
theorem cutI_from {xs : List Int} {i : Int} (h : 0 ≤ i) : cutI xs (some i) none = xs.drop i.toNat := by
  unfold cutI
  rw [sIx_pos h, HT.sIx_none]
  by_cases q : i.toNat ≤ xs.length
  · rw [Nat.min_eq_left q, List.take_of_length_le]
    rw [List.length_drop]; exact Nat.le_refl _
  · rw [Nat.min_eq_right (by omega), List.drop_length, List.drop_eq_nil_of_le (by omega), List.take_nil]
theorem cutI_to {xs : List Int} {i : Int} (h : 0 ≤ i) : cutI xs none (some i) = xs.take i.toNat := by
  unfold cutI
  rw [sIx_pos h, HT.sIx_none, List.drop_zero, Nat.sub_zero]
  by_cases q : i.toNat ≤ xs.length
  · rw [Nat.min_eq_left q]
  · rw [Nat.min_eq_right (by omega), List.take_length, List.take_of_length_le (by omega)]
theorem cutI_both {xs : List Int} {i j : Int} (h : 0 ≤ i) (h2 : 0 ≤ j) : cutI xs (some i) (some j) = (xs.drop i.toNat).take (j.toNat - i.toNat) := by
  unfold cutI
  rw [sIx_pos h, sIx_pos h2]
  generalize i.toNat = a
  generalize j.toNat = b
  by_cases q : a ≤ xs.length
  · rw [Nat.min_eq_left q]
    by_cases q2 : b ≤ xs.length
    · rw [Nat.min_eq_left q2]
    · rw [Nat.min_eq_right (Nat.le_of_not_le q2), List.take_of_length_le (by rw [List.length_drop]; exact Nat.le_refl _), List.take_of_length_le (by rw [List.length_drop]; omega)]
  · rw [Nat.min_eq_right (Nat.le_of_not_le q), List.drop_length, List.drop_eq_nil_of_le (by omega), List.take_nil, List.take_nil]
end DL
set_option Elab.async false
set_option linter.all false
set_option maxRecDepth 100000
set_option maxHeartbeats 1000000
/-! The data layer, part j: the law's own head. -/
namespace DL
open PySem PySem.Spec PyProof.Rows L2
theorem cx_no {P : Program} {w : World} {o : List Env} {H : Hp} {s s' : Shared} {e : Value} (h : L2.CX P w o H s (fun _ _ _ => False) e s') : False := by
  obtain ⟨_, _, _, _, _, _, _, _, _, _, _, _, h⟩ := h
  exact h
/-- what is asked of the law: true, whatever else it leaves -/
def spScript : Ctr := fun ds S Q _ => ∃ cells : List Int, ds = [.fro (cells.map D.int)] ∧ cells.length ≤ 63 ∧ ∀ S', Q (.bl true) S'
theorem spScript_at {K : PySem.W.Frag} {H : Hp} {a : Addr} {ns : List Int} {E : XK} (hl : ns.length ≤ 63) (hS : SqL K H a (ns.map V.int)) : lSp K spScript [.ref a] H (fun v _ => v = .bl true) E :=
  ⟨H, fun _ => none, [.fro (ns.map D.int)], fun d _ => d = .bl true, X0, ⟨Same.refl H, (fun _ _ h => nomatch h), (fun _ _ h => nomatch h)⟩, ⟨_, _, rfl, ⟨a, _, rfl, hS, reps_ints⟩, rfl⟩, ⟨ns, rfl, hl, fun _ => rfl⟩,
    fun d S' v W' H' h _ _ r => by subst h; exact r, CXc.no⟩
end DL
set_option Elab.async false
set_option linter.all false
set_option maxRecDepth 100000
set_option maxHeartbeats 2000000
/-! The data layer, part k: enumerate of tuples. -/
namespace DL
open PySem PySem.Spec PyProof.Rows L2
abbrev itObj (a : Addr) : Obj := { cls := .type "tuple_iterator", data := .fields #[.ref a, .int 0 0] }
abbrev enObj (i : Addr) : Obj := { cls := .type "enumerate", data := .fields #[.none, .bool false, .ref i, rawInt 0, .none, .none] }
theorem enumT_meets (a : Addr) (xs : Array Value) (m : Nat) (od : Option Addr) (sl : Array (Option Value)) :
    Meets (Builtin.«enumerate.__new__» ⟨[.type "enumerate", .ref a], []⟩) (fun _ R s => s.heap.get? a = some { cls := .type "tuple", dict := od, data := .seq xs m, slots := sl } ∧
      R (.ok (.ret (.ref (s.heap.push (itObj a)).objs.size))) { s with heap := (s.heap.push (itObj a)).push (enObj s.heap.objs.size) }) :=
  .of_wp fun prog w A R s q => by
    obtain ⟨hp, gg, dr, tk, os⟩ := s
    obtain ⟨ha, q⟩ := q
    have hsub := sub_enumerate
    have hT : Heap.IsTuple (Shared.heap ⟨hp, gg, dr, tk, os⟩) a xs := ⟨_, ha, rfl, m, rfl⟩
    wp_walk using wpAny_loadPart' ha
    refine wpAny_stack_any fun st => wpAny_pure ?_
    split
    · rename_i c _ _ _ _ _
      cases (c == Value.type "enumerate")
      all_goals
        wp_walk using wpAny_loadPart' ha, wpAny_pyIter_tuple hT
        exact ⟨_, rfl, q⟩
    · wp_walk using wpAny_loadPart' ha, wpAny_pyIter_tuple hT
      exact ⟨_, rfl, q⟩
theorem call_enumT {prog : Program} {w : World} {A : Around} {E : Value → Shared → Prop} {s : Shared} {a : Addr} {xs : Array Value} {Q : Value → Shared → Prop} (hT : s.heap.IsTuple a xs)
    (q : ∀ h', IsEnum h' (s.heap.objs.size + 1) s.heap.objs.size 0 .none → h'.IsTupleIter s.heap.objs.size a 0 → (∀ b o, s.heap.get? b = some o → h'.get? b = some o) → Q (.ref (s.heap.objs.size + 1)) { s with heap := h' }) :
    wpAny (model prog w) A (call (.type "enumerate") [.ref a]) Q E s := by
  obtain ⟨⟨c, od, dt, sl⟩, ha, hc, m, hd⟩ := hT
  replace hc : c = .type "tuple" := hc
  replace hd : dt = .seq xs m := hd
  subst hc hd
  refine callType_new F.called_enumerate (by decide) (F.typeCall_enumerate_1 _) (F.newCall_enumerate_1 _) (fun obj => F.args_object_init_2 obj _) F.entry_enumerate_new (enumT_meets a xs m od sl) ⟨ha, ?_⟩
  have hz : (s.heap.push (itObj a)).objs.size = s.heap.objs.size + 1 := Heap.size_push ..
  show _ ∧ _
  rw [hz]
  have he : IsEnum ((s.heap.push (itObj a)).push (enObj s.heap.objs.size)) (s.heap.objs.size + 1) s.heap.objs.size 0 .none := by
    have z := Heap.get?_push_size (s.heap.push (itObj a)) (o := enObj s.heap.objs.size) rfl
    rw [hz] at z
    exact z
  exact ⟨⟨_, he, rfl⟩, q _ he ⟨_, Heap.get?_push_of_some _ (Heap.get?_push_size _ rfl), rfl, rfl⟩ fun b o x => Heap.get?_push_of_some _ (Heap.get?_push_of_some _ x)⟩
/-- the tuple at a, each item in a new pair -/
def IteT (K : PySem.W.Frag) (a : Addr) : It :=
  ⟨fun i H => ∃ (xs : List V) (x : V), SqT K H a xs ∧ xs[i]? = some x, fun i H v H' => ∃ T x, v = .ref T ∧ H T = none ∧ H' = upd H T (.tup [.int (i : Nat), x]) ∧ ∀ xs, SqT K H a xs → xs[i]? = some x, fun i H => ∃ xs : List V, SqT K H a xs ∧ xs.length = i⟩
theorem turn_enumT {P : Program} {w : World} {K : PySem.W.Frag} {elts : List Expr} {kk : Nat} {tpos : Pos} (a e it : Addr) :
    Turn P w K (.Tuple elts kk tpos) (IteT K a) [e, it] e (fun i h => (∃ old, IsEnum h e it ((i : Nat) : Int) old) ∧ h.IsTupleIter it a i ∧ e ≠ it ∧ a ≠ it ∧ e ≠ a) where
  mem := by simp
  obj := fun i h st b hb => by
    obtain ⟨⟨old, he⟩, ⟨o, ho, hc, hd⟩, _⟩ := st
    rcases (show b = e ∨ b = it by simpa using hb) with z | z
    · rw [z]; exact ⟨_, he, fun v q => nomatch q⟩
    · rw [z]; exact ⟨o, ho, fun v q => by rw [hd] at q; cases q⟩
  keep := fun i h h' st k => let ⟨⟨old, he⟩, hi, hne⟩ := st; ⟨⟨old, k e (by simp) _ he⟩, hi.at fun o q => k it (by simp) o q, hne⟩
  item := by
    intro X hP hw hK hc i pins s σ H E I hf st hg
    subst hP hw hK
    obtain ⟨⟨old, he⟩, hit, n1, n2, n3⟩ := st
    obtain ⟨xs, x, hq, hx⟩ := hg
    obtain ⟨its, rv, p, hz⟩ := I.tuple hq
    obtain ⟨u, hu, ru⟩ := rv.get hx
    have hel : e < s.heap.objs.size := Heap.lt_size he
    have hil : it < s.heap.objs.size := by obtain ⟨_, q, _⟩ := hit; exact Heap.lt_size q
    have hil2 : i < its.toArray.size := by
      have := lt_of_some hu
      simpa using this
    have hh : X.A.in1.handled = Option.none := I.ok.hd hc
    refine wpAny_pyNext_enum_itemD (Draws.tuple hh it a n2 its.toArray) he ⟨hit, (show s.heap.IsTuple a its.toArray from p)⟩ hil2 n1 (by simp [n1, n3]) fun x' h' tk hPx ho hst hT hsz hk => ?_
    have ex : x' = u := by
      have h1 : its[i]? = some x' := by simpa using hPx
      rw [hu] at h1
      exact (Option.some.inj h1).symm
    subst ex
    refine ⟨_, rfl, wpAny_letOwnedTupleGo_enum (s := { s with heap := h', toks := tk + 1 }) ho fun h'' he' sb => ?_⟩
    have hT2 : h''.get? s.heap.objs.size = some { cls := .type "tuple", data := .seq #[.int i tk, x'] } := (sb.2 _ (Nat.ne_of_gt hel)).trans hT
    have new : ObjOk X.prog X.w (upd H s.heap.objs.size (.tup [.int (i : Nat), x])) h'' s.heap.objs.size (.tup [.int (i : Nat), x]) :=
      ⟨by show 2 ≤ sizeLine; decide, [.int i tk, x'], .cons ⟨_, rfl⟩ (.cons ru .nil), ⟨_, hT2, rfl, _, rfl⟩⟩
    have I1 : Inv X pins σ (upd H s.heap.objs.size (.tup [.int (i : Nat), x])) { s with heap := h'', toks := tk + 1 } :=
      I.turnedNew (ch := [e, it]) (fun b ob hb q => (sb.2 b (fun z => hb (by simp [z]))).trans (hk b ob (fun z => hb (by simp [z])) (fun z => hb (by simp [z])) q)) hf (Nat.le_refl _) new
    refine ⟨.ref s.heap.objs.size, _, I1, rfl, ⟨_, x, rfl, I.hok.fresh (Nat.le_refl _), rfl, fun ys hy => by rw [I.tuple_inj hy hq]; exact hx⟩, ⟨⟨x', ?_⟩, hst.1.at fun o q => (sb.2 it (Ne.symm n1)).trans q, n1, n2, n3⟩, fun b hb => ?_⟩
    · have e1 : ((i + 1 : Nat) : Int) = (i : Int) + 1 := by omega
      rw [e1]; exact he'
    · have hb' : b < s.heap.objs.size := by
        rcases (show b = e ∨ b = it by simpa using hb) with z | z
        · rw [z]; exact hel
        · rw [z]; exact hil
      rw [upd_ne (Nat.ne_of_lt hb')]
      exact (hf b hb).1
  done := by
    intro X hP hw hK hc i pins s σ H E I hf st hg
    subst hP hw hK
    obtain ⟨⟨old, he⟩, hit, n1, n2, n3⟩ := st
    obtain ⟨xs, hq, hx⟩ := hg
    obtain ⟨its, rv, p, hz⟩ := I.tuple hq
    obtain ⟨f0, f1, f2, f3, f4, f5⟩ := hf it (by simp)
    have hl := rv.length
    have hh : X.A.in1.handled = Option.none := I.ok.hd hc
    have ei : i = its.toArray.size := by simp; omega
    subst ei
    exact wpAny_pyNext_enum_endD (Draws.tuple hh it a n2 its.toArray) he ⟨hit, (show s.heap.IsTuple a its.toArray from p)⟩ fun h' eb => ⟨rfl, I.turned (t' := s.toks) (fun b o hb q => eb b o hb q) f0 f1 f3 f4 f5⟩
  self := fun A i s Q E st h => let ⟨⟨_, he⟩, _⟩ := st; wpAny_pyIter_enum he h
end DL
set_option Elab.async false
set_option linter.all false
set_option maxRecDepth 100000
set_option maxHeartbeats 1000000
/-! The data layer, part l: enumerate, constants, isinstance of several, pop at a place, a list repeated, calls by keyword. -/
namespace DL
open PySem PySem.Spec PyProof.Rows L2
section
/-- pairs of a place and an item -/
def enumD : Nat → List D → List D
  | _, [] => []
  | j, x :: r => .tup [.int (j : Int), x] :: enumD (j + 1) r
theorem enumD_get : ∀ {j : Nat} {xs : List D} {i : Nat} {d : D}, (enumD j xs)[i]? = some d → ∃ x, xs[i]? = some x ∧ d = .tup [.int ((j + i : Nat) : Int), x]
  | _, [], _, _, h => by simp [enumD] at h
  | j, x :: r, 0, d, h => ⟨x, rfl, (Option.some.inj h).symm⟩
  | j, x :: r, i + 1, d, h => by
    obtain ⟨y, h1, h2⟩ := enumD_get (j := j + 1) (xs := r) (i := i) h
    exact ⟨y, h1, by rw [h2]; congr 3; omega⟩
theorem enumD_length : ∀ {j : Nat} {xs : List D}, (enumD j xs).length = xs.length
  | _, [] => rfl
  | j, x :: r => congrArg (· + 1) (enumD_length (j := j + 1) (xs := r))
def wEnum (w : WPe) : WPi := fun env S Q X => w env S (fun d S1 => some! (seqA S1 d) fun xs => Q (enumD 0 xs) (fun S' => seqA S' d = some xs) S1) X
def iEnA (K : PySem.W.Frag) (ta : TA) : TI := fun σ H R => ta σ H fun vs H1 => ∃ a, vs = [.ref a] ∧ (((∃ xs, SqL K H1 a xs) ∧ R (Ite K a) H1) ∨ ((∃ xs, SqT K H1 a xs) ∧ R (IteT K a) H1))
theorem pi_enA {X : Cx} {e : Expr} {ta : TA} {p pos tpos : Pos} {elts : List Expr} {kk : Nat} (hg : Gl X "enumerate") (hm : X.mg "enumerate" = none) (ha : PA X [e] ta) (hs : starEach [e] X.env = [(false, eval e X.env)] := by rfl) :
    PI X (.Tuple elts kk tpos) (.Call (.Name "enumerate" p) [e] [] pos) (iEnA X.K ta) := by
  refine ⟨fun pins s σ H R I h => ?_⟩
  refine Call_ (ld_blt I hg hm boot_enumerate (PyProof.Rows.callWith_type1 (thn (ha.run pos pins s σ H _ I h) fun us s1 ⟨vs, H1, I1, r1, a, ev, q1⟩ => ?_) hs rfl))
  subst ev
  cases r1 with
  | cons r rr =>
    cases rr
    cases r
    have fpk : ∀ b, b ∈ [s1.heap.objs.size + 1, s1.heap.objs.size] → FpOk X pins H1 b := fun b hb => by
      have hle : s1.heap.objs.size ≤ b := by
        rcases (show b = s1.heap.objs.size + 1 ∨ b = s1.heap.objs.size by simpa using hb) with z | z
        · rw [z]; exact Nat.le_add_right _ _
        · rw [z]; exact Nat.le_refl _
      exact I1.fpOk hle (I1.hok.fresh hle)
    rcases q1 with ⟨⟨xs, hq⟩, q⟩ | ⟨⟨xs, hq⟩, q⟩
    · obtain ⟨its, rv, pl, hz⟩ := I1.list hq
      refine call_enumerate_list pl.isList fun h' he hit hsz hk => wpAny_pyIter_enum he ?_
      exact ⟨s1.heap.objs.size + 1, [s1.heap.objs.size + 1, s1.heap.objs.size], _, _, H1, rfl, I1.kept (t' := s1.toks) hk, turn_enum a (s1.heap.objs.size + 1) s1.heap.objs.size, ⟨⟨.none, he⟩, hit, Nat.succ_ne_self _⟩, fpk, q⟩
    · obtain ⟨its, rv, pl, hz⟩ := I1.tuple hq
      have hT : s1.heap.IsTuple a its.toArray := pl
      have hal : a < s1.heap.objs.size := by
        obtain ⟨o, ho, _⟩ := hT
        exact Heap.lt_size ho
      refine call_enumT hT fun h' he hit hk => wpAny_pyIter_enum he ?_
      exact ⟨s1.heap.objs.size + 1, [s1.heap.objs.size + 1, s1.heap.objs.size], _, _, H1, rfl, I1.kept (t' := s1.toks) hk, turn_enumT a (s1.heap.objs.size + 1) s1.heap.objs.size, ⟨⟨.none, he⟩, hit, Nat.succ_ne_self _, Nat.ne_of_lt hal, (Nat.ne_of_lt (Nat.lt_succ_of_lt hal)).symm⟩, fpk, q⟩
end
section
variable {K : PySem.W.Frag}
theorem jok_enL {W0 : Hp} {S0 : Sto} {H0 : Hp} {d : D} {a : Addr} {xs : List D} (ok : Ok K W0 S0 H0) (r : Rep K W0 d (.ref a)) (hL : seqL S0 d = some xs) (hA : ∀ {S}, seqA S d = seqL S d) :
    (∃ vs, SqL K H0 a vs) ∧ JOk K (Ite K a) W0 (enumD 0 xs) (fun S' => seqA S' d = some xs) := by
  obtain ⟨b, ws, e1, e2, e3⟩ := seqL_rep ok r hL
  cases e1
  refine ⟨⟨ws, e2⟩, ⟨fun i W S H d' hd s1 ok1 g => ?_, fun W S H s1 ok1 g => ?_⟩⟩
  · rw [hA] at g
    obtain ⟨c, zs, e7, e8, e9⟩ := seqL_rep ok1 (r.mono s1) g
    cases e7
    obtain ⟨y, hy, rfl⟩ := enumD_get hd
    obtain ⟨u, hu, ru⟩ := e9.get hy
    refine ⟨⟨zs, u, e8, hu⟩, fun x H' ⟨T, x', e4, e5, e6, e10⟩ => ?_⟩
    subst e4 e6
    have e11 := e10 zs e8
    rw [hu] at e11
    cases e11
    have n := ok1.fresh e5
    exact ⟨_, ok1.stW e5, ok1.newW e5, T, _, rfl, SqT.of upd_same, _, _, rfl, by rw [Nat.zero_add]; rfl, _, _, rfl, ru.mono (same_new n.1), rfl⟩
  · rw [hA] at g
    obtain ⟨c, zs, e7, e8, e9⟩ := seqL_rep ok1 (r.mono s1) g
    cases e7
    rw [enumD_length]
    exact ⟨zs, e8, Nat.le_of_eq e9.length⟩
theorem jok_en {W0 : Hp} {S0 : Sto} {H0 : Hp} {d : D} {v : V} {xs : List D} (ok : Ok K W0 S0 H0) (r : Rep K W0 d v) (h : seqA S0 d = some xs) :
    ∃ a, v = .ref a ∧ (((∃ vs, SqL K H0 a vs) ∧ JOk K (Ite K a) W0 (enumD 0 xs) (fun S' => seqA S' d = some xs)) ∨ ((∃ vs, SqT K H0 a vs) ∧ JOk K (IteT K a) W0 (enumD 0 xs) (fun S' => seqA S' d = some xs))) := by
  obtain ⟨a, vs, rfl, hq, rv⟩ := seqA_rep ok r h
  refine ⟨a, rfl, ?_⟩
  cases d with
  | tup ys =>
    cases h
    obtain ⟨b, ws, e1, e2, e3⟩ := r
    cases e1
    refine .inr ⟨⟨ws, sqT_mono ok.vis e2⟩, ⟨fun i W S H d' hd s1 ok1 _ => ?_, fun W S H s1 ok1 _ => ?_⟩⟩
    · obtain ⟨y, hy, rfl⟩ := enumD_get hd
      obtain ⟨u, hu, ru⟩ := e3.get hy
      have hT := sqT_mono (s1.trans ok1.vis) e2
      refine ⟨⟨ws, u, hT, hu⟩, fun x H' ⟨T, x', e4, e5, e6, e10⟩ => ?_⟩
      subst e4 e6
      have e11 := e10 ws hT
      rw [hu] at e11
      cases e11
      have n := ok1.fresh e5
      exact ⟨_, ok1.stW e5, ok1.newW e5, T, _, rfl, SqT.of upd_same, _, _, rfl, by rw [Nat.zero_add]; rfl, _, _, rfl, (ru.mono s1).mono (same_new n.1), rfl⟩
    · rw [enumD_length]
      exact ⟨ws, sqT_mono (s1.trans ok1.vis) e2, e3.length⟩
  | lst ys => exact .inl (jok_enL ok r h rfl)
  | fro ys => exact .inl (jok_enL ok r h rfl)
  | ref b => exact .inl (jok_enL ok r h rfl)
  | _ => cases h
end
section
variable {X : Cx} {e : Expr} {w : WPe} {p pos tpos : Pos} {elts : List Expr} {kk : Nat}
theorem pdi_enum (hm : X.mg "enumerate" = none) (h : PD X e w) (hg : Gl X "enumerate" := by rfl) (hs : starEach [e] X.env = [(false, eval e X.env)] := by rfl) (hs2 : starEach [e] X.env = (false, eval e X.env) :: starEach [] X.env := by rfl) :
    PDi X (.Tuple elts kk tpos) (.Call (.Name "enumerate" p) [e] [] pos) (wEnum w) :=
  ⟨fun Wx tk => PI.imp (pi_enA hg hm (pa_cons (h.run Wx tk) pa_nil hs2) hs) fun σ H R ⟨W, env, S, Q0, X1, ok, sl, hw, cv, cx⟩ => ⟨W, env, S, _, X1, ok, sl, hw, fun d S1 v W1 H1 h1 s1 ok1 r1 => by
    obtain ⟨xs, e1, h1⟩ := some!_ex h1
    obtain ⟨a, rfl, ⟨q, j⟩ | ⟨q, j⟩⟩ := jok_en ok1 r1 e1
    · exact ⟨a, rfl, .inl ⟨q, cv _ _ S1 W1 H1 _ h1 s1 ok1 j⟩⟩
    · exact ⟨a, rfl, .inr ⟨q, cv _ _ S1 W1 H1 _ h1 s1 ok1 j⟩⟩, cx⟩⟩
/-- a constant of the module -/
theorem pd_glob {x : Str} {i : Int} (h : ∃ u, X.mg x = some u ∧ RelV (.int i) u) (hg : Gl X x := by rfl) (hd : (x == ("__debug__" : Str)) = false := by decide) : PD X (.Name x pos) (wC (.int i)) := by
  obtain ⟨u, hm, r⟩ := h
  exact pd_c (pe_glob hg hm r hd) fun _ => rfl
/-- xs.pop(i) -/
def oPopAt : OM := fun S d ds Q => mutL S d fun a xs => one ds fun e => asI e fun i => (-(2 ^ 63) ≤ i ∧ i < 2 ^ 63) ∧ some! (seqIndex? i xs.length) fun k => some! xs[k]? fun y => Q y (put S a (.lst (xs.eraseIdx k)))
theorem reps_erase {K : PySem.W.Frag} {W : Hp} : ∀ {xs : List D} {vs : List V} (k : Nat), Reps K W xs vs → Reps K W (xs.eraseIdx k) (vs.eraseIdx k)
  | [], _, _, h => by rw [show _ = [] from h]; rfl
  | _ :: _, _, 0, ⟨v, r, e1, e2, e3⟩ => by subst e1; exact e3
  | _ :: _, _, k + 1, ⟨v, r, e1, e2, e3⟩ => by
    subst e1
    exact ⟨v, _, rfl, e2, reps_erase k e3⟩
theorem md_popAt : MtR X "list.pop" (lM X.K oPopAt) := MtR.imp mt_popAt fun x vs H Q ⟨W, S, d, ds, Q0, ok, r, rs, ho, cv⟩ => by
  obtain ⟨a, xs, us, rfl, rfl, e1, e2, rv, h⟩ := mutL_rep ok r ho
  obtain ⟨y, rfl, h⟩ := one_ex h
  obtain ⟨i, rfl, hi, h⟩ := asI_ex h
  obtain ⟨k, ek, h⟩ := some!_ex h
  obtain ⟨z, ez, h⟩ := some!_ex h
  obtain ⟨t, rfl, rt⟩ := reps1 rs
  obtain ⟨u, e4, ru⟩ := rv.get ez
  exact ⟨a, us, i, k, u, rfl, by rw [show t = .int i from rt], e2, hi.1, hi.2, by rw [rv.length]; exact ek, e4, cv _ _ _ _ _ h (ok.stC e1) (ok.chg e1 ⟨_, rfl, reps_erase k rv⟩) ru⟩
/-! ### isinstance of several classes -/
def kitAnyB : String → List String → Option Bool
  | _, [] => some false
  | a, b :: bs => match kitB a b with
    | some true => some true
    | some false => kitAnyB a bs
    | none => none
theorem kit_any {K : PySem.W.Frag} {a : String} : ∀ {bs : List String} {r : Bool}, kitAnyB a bs = some r → PySem.W.kitAny K (.type a) (bs.map Value.type) = some r
  | [], r, h => by cases h; exact kitAny_nil
  | b :: bs, r, h => by
    have h' : (match kitB a b with | some true => some true | some false => kitAnyB a bs | none => none) = some r := h
    cases q : kitB a b with
    | none => rw [q] at h'; cases h'
    | some k =>
      rw [q] at h'
      cases k with
      | true => exact kitAny_cons (kit_ty q) (fun z => by cases z) fun _ => (Option.some.inj h').symm
      | false => exact kitAny_cons (kit_ty q) (fun _ => kit_any h') fun z => by cases z
def wIsiT (Ts : List String) (w : WPe) : WPe := fun env S Q X => w env S (fun d S1 => some! (tyN S1 d) fun n => some! (kitAnyB n Ts) fun b => Q (.bl b) S1) X
/-- the classes, one after the other -/
def tTys (Ts : List String) : TA := fun σ H Q => Q (Ts.map V.ty) H
theorem pa_tys0 {X : Cx} : PA X [] (tTys []) := pa_nil
theorem pa_tys {X : Cx} {e : Expr} {es : List Expr} {T : String} {Ts : List String} (h : PE X e (tC (.ty T))) (r : PA X es (tTys Ts)) (hs : starEach (e :: es) X.env = (false, eval e X.env) :: starEach es X.env := by rfl) : PA X (e :: es) (tTys (T :: Ts)) := pa_cons h r hs
theorem clsv_all : ∀ Ts : List String, Paired ClsV (Ts.map V.ty) (Ts.map Value.type)
  | [] => .nil
  | T :: Ts => .cons (.ty T) (clsv_all Ts)
theorem pd_isiT {X : Cx} {e : Expr} {w : WPe} {p p2 pos : Pos} {es : List Expr} {kk : Nat} {Ts : List String} (he : PD X e w) (ht : PA X es (tTys Ts)) (hm : X.mg "isinstance" = none) (hz : Ts.length ≤ sizeLine := by decide) (hg : Gl X "isinstance" := by rfl)
    (hs : starEach [e, .Tuple es kk p2] X.env = (false, eval e X.env) :: starEach [.Tuple es kk p2] X.env := by rfl) (hs2 : starEach [.Tuple es kk p2] X.env = [(false, eval (.Tuple es kk p2) X.env)] := by rfl) (hpl : (backTo pos (starEach [.Tuple es kk p2] X.env)).any (·.1) = false := by rfl) :
    PD X (.Call (.Name "isinstance" p) [e, .Tuple es kk p2] [] pos) (wIsiT Ts w) :=
  ⟨fun Wx tk => PE.imp (pe_callB call_isiT hg hm (by decide +kernel) (pa_cons (he.run Wx tk) (pa_cons (pe_tup ht) pa_nil hs2) hs) (by decide) (by decide) hs hpl) fun σ H Q ⟨W, env, S, Q0, X1, ok, sl, hw, cv, cx⟩ => ⟨W, env, S, _, X1, ok, sl, hw, fun d S1 v W1 H1 h1 s1 ok1 r1 => by
    obtain ⟨n, e1, h1⟩ := some!_ex h1
    obtain ⟨b, e2, h1⟩ := some!_ex h1
    refine ⟨by rw [List.length_map]; exact hz, fun q hq => ?_⟩
    have nq := ok1.fresh hq
    exact ⟨v, q, Ts.map V.ty, .type n, Ts.map Value.type, b, rfl, upd_same, clsv_all Ts, tyN_rep (ok1.newW (o := .tup (Ts.map V.ty)) hq) (r1.mono (same_new nq.1)) e1, kit_any e2, cv _ S1 _ _ _ h1 (s1.trans (ok1.stW hq)) (ok1.newW hq) rfl⟩, cx⟩⟩
end
/-! ### a list repeated -/
section
variable {X : Cx}
def oRep : O2 := fun S x y Q => match y with
  | .int k => some! (seqM S x) fun xs => (-(2 ^ 63) ≤ k ∧ k < 2 ^ 63 ∧ xs.length * k.toNat ≤ sizeLine) ∧ Q (.lst (List.replicate k.toNat xs).flatten) S
  | _ => False
theorem reps_rep {K : PySem.W.Frag} {W : Hp} {xs : List D} {vs : List V} (h : Reps K W xs vs) : ∀ n : Nat, Reps K W (List.replicate n xs).flatten (List.replicate n vs).flatten
  | 0 => rfl
  | n + 1 => by
    rw [List.replicate_succ, List.replicate_succ, List.flatten_cons, List.flatten_cons]
    exact h.append (reps_rep h n)
theorem opd_rep : OpR X (binaryOp .Mult) (lOp X.K oRep) := OpR.imp op_rep fun x y H Q ⟨W, S, a, b, Q0, ok, ra, rb, ho, cv⟩ => by
  cases b with
  | int k =>
    obtain ⟨xs, e1, hk, ho⟩ := some!_ex ho
    obtain ⟨l, vs, rfl, hl, rv⟩ := seqM_rep ok ra e1
    refine ⟨l, k, vs, rfl, rb, hl, hk.1, hk.2.1, by rw [rv.length]; exact hk.2.2, fun p hp => ?_⟩
    have n := ok.fresh hp
    exact cv _ S _ _ _ ho (ok.stW hp) (ok.newW hp) ⟨p, _, rfl, upd_same, (reps_rep rv _).mono (same_new n.1)⟩
  | _ => exact ho.elim
end
/-! ### calls by keyword -/
def pick {α : Type} (perm : List Nat) (l : List α) : List α := perm.filterMap fun i => l[i]?
/-- n arguments by place, m by name -/
def pickK (n m : Nat) (perm : List Nat) {α : Type} (us ws : List α) : List α := if us.length = n ∧ ws.length = m then pick perm (us ++ ws) else []
theorem paired_get {α β : Type} {R : α → β → Prop} : ∀ {xs : List α} {ys : List β}, Paired R xs ys → ∀ i : Nat, (∃ x y, xs[i]? = some x ∧ ys[i]? = some y ∧ R x y) ∨ (xs[i]? = none ∧ ys[i]? = none)
  | _, _, .nil, i => .inr ⟨by simp, by simp⟩
  | _, _, .cons h r, 0 => .inl ⟨_, _, rfl, rfl, h⟩
  | _, _, .cons h r, i + 1 => paired_get r i
theorem vals_pick {vs : List V} {us : List Value} (h : Vals vs us) : ∀ perm : List Nat, Vals (pick perm vs) (pick perm us)
  | [] => .nil
  | i :: r => by
    rcases paired_get h i with ⟨x, y, e1, e2, q⟩ | ⟨e1, e2⟩
    · show Vals (List.filterMap _ (i :: r)) (List.filterMap _ (i :: r))
      rw [List.filterMap_cons, List.filterMap_cons, e1, e2]
      exact .cons q (vals_pick h r)
    · show Vals (List.filterMap _ (i :: r)) (List.filterMap _ (i :: r))
      rw [List.filterMap_cons, List.filterMap_cons, e1, e2]
      exact vals_pick h r
theorem reps_pick {K : PySem.W.Frag} {W : Hp} {ds : List D} {vs : List V} (h : Reps K W ds vs) : ∀ perm : List Nat, Reps K W (pick perm ds) (pick perm vs)
  | [] => rfl
  | i :: r => by
    show Reps K W (List.filterMap _ (i :: r)) (List.filterMap _ (i :: r))
    rw [List.filterMap_cons, List.filterMap_cons]
    cases e : ds[i]? with
    | none =>
      have e2 : vs[i]? = none := by
        rw [List.getElem?_eq_none_iff] at e ⊢
        rw [h.length]; exact e
      rw [e2]
      exact reps_pick h r
    | some d =>
      obtain ⟨v, e2, rv⟩ := h.get e
      rw [e2]
      exact ⟨v, _, rfl, rv, reps_pick h r⟩
theorem reps_pickK {K : PySem.W.Frag} {W : Hp} {n m : Nat} {perm : List Nat} {ds es : List D} {vs zs : List V} (h1 : Reps K W ds vs) (h2 : Reps K W es zs) : Reps K W (pickK n m perm ds es) (pickK n m perm vs zs) := by
  unfold pickK
  rw [h1.length, h2.length]
  by_cases q : ds.length = n ∧ es.length = m
  · rw [if_pos q, if_pos q]; exact reps_pick (h1.append h2) perm
  · rw [if_neg q, if_neg q]; rfl
theorem kb_mk {K : PySem.W.Frag} {fd : FuncData} {ps ks : List Str} {n m : Nat} {perm : List Nat} (hps : ps ≠ []) (h : ∀ us ws : List Value, us.length = n → ws.length = m → bindArgs fd ⟨us, ks.zip ws⟩ = pure (ps.zip (pick perm (us ++ ws)))) :
    KBinds K fd ps ks (fun us ws => pickK n m perm us ws) (fun us ws => pickK n m perm us ws) where
  to := fun s us ws _ hl => by
    unfold pickK at hl ⊢
    by_cases q : us.length = n ∧ ws.length = m
    · rw [if_pos q]
      exact .of_eq (h us ws q.1 q.2)
    · rw [if_neg q] at hl
      exact absurd (List.eq_nil_of_length_eq_zero hl.symm) hps
  rel := fun {vs us zs ws} r1 r2 => by
    unfold pickK
    rw [r1.length, r2.length]
    by_cases q : us.length = n ∧ ws.length = m
    · rw [if_pos q, if_pos q]
      exact vals_pick (r1.append r2) perm
    · rw [if_neg q, if_neg q]
      exact .nil
def wCallK (spec : Ctr) (n m : Nat) (perm : List Nat) (wa wk : WPa) : WPe := fun env S Q X => wa env S (fun ds S1 => wk env S1 (fun es S2 => spec (pickK n m perm ds es) S2 Q X) X) X
structure PDk (X : Cx) (kws : List Keyword) (w : WPa) : Prop where
  run : ∀ Wx, Takes X Wx → PK X kws (lA X.K Wx w)
theorem PK.imp {X : Cx} {kws : List Keyword} {t t' : TA} (h : PK X kws t) (i : ∀ σ H Q, t' σ H Q → t σ H Q) : PK X kws t' := ⟨fun po pins s σ H Q I q => h.run po pins s σ H Q I (i σ H Q q)⟩
section
variable {X : Cx} {x : Str} {p pos kpos : Pos} {e : Expr} {es : List Expr} {kws : List Keyword} {wa wk r : WPa} {w : WPe} {nm : Option Str} {k n m : Nat} {perm : List Nat} {f : Addr} {fd : FuncData} {ps ks : List Str} {spec : Ctr}
theorem pdk_nil : PDk X [] wNil := ⟨fun Wx tk => PK.imp pk_nil fun σ H Q ⟨W, env, S, Q0, X1, ok, sl, hw, cv, cx⟩ => cv [] S [] W H hw Stp.refl ok rfl⟩
theorem pdk_cons (h : PD X e w) (hr : PDk X kws r) : PDk X (⟨nm, e, kpos⟩ :: kws) (wCons w r) :=
  ⟨fun Wx tk => PK.imp (pk_cons (h.run Wx tk) (hr.run Wx tk)) fun σ H Q ⟨W, env, S, Q0, X1, ok, sl, hw, cv, cx⟩ => ⟨W, env, S, _, X1, ok, sl, hw, fun d S1 v W1 H1 h1 s1 ok1 r1 =>
    ⟨W1, env, S1, _, X1, ok1, sl.mono s1.vis, h1, fun ds S2 vs W2 H2 h2 s2 ok2 r2 => cv _ S2 _ W2 H2 h2 (s1.trans s2) ok2 ⟨v, vs, rfl, r1.mono s2.vis, r2⟩, cx.mono s1⟩, cx⟩⟩
theorem run_fnKS {CX : CXT} {sp : Sp} {E : L2.St → XK} {g : List Value → List Value → List Value} {gV : List V → List V → List V} {pins : List (Addr × Obj)} {σ : L2.St} {H : Hp} {s : Shared} {Q : VK} {us ws : List Value} {vs zs : List V}
    (F : FnOk X.prog X.w X.K X.mg X.base CX k f fd ps sp) (hr : Room k X.A) (hb : KBinds X.K fd ps ks g gV) (hx : PassesAt CX X σ (E σ)) (I : L2.Inv X pins σ H s) (r1 : Vals vs us) (r2 : Vals zs ws) (h : sp (gV vs zs) H Q (E σ)) :
    wpAny (model X.prog X.w) X.A (call (.ref f) us (ks.zip ws)) (EP X pins σ Q) X.xe s := by
  have rr := hb.rel r1 r2
  have hl : (g us ws).length = ps.length := by rw [← rr.length]; exact F.len _ _ _ _ h
  refine wpAny_call (codeAny_mono (F.run X.A X.stack s H ⟨us, ks.zip ws⟩ (g us ws) (gV vs zs) Q (E σ) hr I.env0 (hb.to s us ws I.kIn hl) rr h) fun r s' hq => ?_)
  cases r with
  | error e => exact hx pins H s e s' I hq
  | ok fl =>
    cases fl with
    | ret u => exact I.after hq
    | next => exact hq.elim
    | brk => exact hq.elim
    | cont => exact hq.elim
/-- f(k = v, ..): by names alone -/
theorem pd_fnK0 (F : FnD X.prog X.w X.K X.mg X.base k f fd ps spec) (hm : X.mg x = some (.ref f)) (hk : PySem.W.keepIn X.K (.ref f) = true) (hb : KBinds X.K fd ps ks (fun us ws => pickK 0 m perm us ws) (fun us ws => pickK 0 m perm us ws)) (hr : Room k X.A) (hkw : PDk X kws wk)
    (hg : Gl X x := by rfl) (hdb : (x == ("__debug__" : Str)) = false := by decide) (hall : (backToKw pos (keywordEach kws X.env)).all (·.1.isSome) = true := by rfl) (hks : (backToKw pos (keywordEach kws X.env)).filterMap (·.1) = ks := by rfl)
    (hpl : ((backTo pos (starEach [] X.env)).any (·.1) || (backToKw pos (keywordEach kws X.env)).any (·.1.isNone)) = false := by rfl) : PD X (.Call (.Name x p) [] kws pos) (wCallK spec 0 m perm wNil wk) := by
  refine ⟨fun Wx tk => ⟨fun pins s σ H Q I h => ?_⟩⟩
  obtain ⟨W, env, S, Q0, X1, ok, sl, hw, cv, cx⟩ := h
  refine wpAny_Call_Name_kw (ld_glob I hg hm ?_ hdb)
  refine PySem.W.callWith_KW0 (h₀ := X.base) I.ok.mod.kin hk hall ?_ hpl
  have h2 : lA X.K Wx wk σ H fun zs H2 => lSp X.K spec (pickK 0 m perm [] zs) H2 Q fun c d H' => Wx c d σ H' := ⟨W, env, S, _, X1, ok, sl, hw, fun ds S1 vs W1 H1 h1 s1 ok1 r1 => by
    exact ⟨W1, S1, pickK 0 m perm [] ds, Q0, X1, ok1, reps_pickK (ds := []) (vs := []) rfl r1, h1, cv.mono s1, cx.mono s1⟩, cx⟩
  refine thn ((hkw.run Wx tk).run pos pins s σ H _ I h2) fun ws s2 ⟨zs, H2, I2, rz, q2⟩ => ⟨I2.kIn, ?_⟩
  rw [hks]
  exact run_fnKS F hr hb (passAt tk σ) I2 .nil rz q2
/-- f(e, .., k = v, ..) -/
theorem pd_fnK (F : FnD X.prog X.w X.K X.mg X.base k f fd ps spec) (hm : X.mg x = some (.ref f)) (hk : PySem.W.keepIn X.K (.ref f) = true) (hb : KBinds X.K fd ps ks (fun us ws => pickK n m perm us ws) (fun us ws => pickK n m perm us ws)) (hr : Room k X.A) (ha : PDa X (e :: es) wa) (hkw : PDk X kws wk)
    (hg : Gl X x := by rfl) (hdb : (x == ("__debug__" : Str)) = false := by decide) (hall : (backToKw pos (keywordEach kws X.env)).all (·.1.isSome) = true := by rfl) (hks : (backToKw pos (keywordEach kws X.env)).filterMap (·.1) = ks := by rfl)
    (he : starEach (e :: es) X.env = (false, eval e X.env) :: starEach es X.env := by rfl)
    (hpl : ((backTo pos (starEach (e :: es) X.env)).any (·.1) || (backToKw pos (keywordEach kws X.env)).any (·.1.isNone)) = false := by rfl) : PD X (.Call (.Name x p) (e :: es) kws pos) (wCallK spec n m perm wa wk) := by
  refine ⟨fun Wx tk => ⟨fun pins s σ H Q I h => ?_⟩⟩
  obtain ⟨W, env, S, Q0, X1, ok, sl, hw, cv, cx⟩ := h
  refine wpAny_Call_Name_kw (ld_glob I hg hm ?_ hdb)
  have h1 : lA X.K Wx wa σ H fun vs H1 => lA X.K Wx wk σ H1 fun zs H2 => lSp X.K spec (pickK n m perm vs zs) H2 Q fun c d H' => Wx c d σ H' := ⟨W, env, S, _, X1, ok, sl, hw, fun ds S1 vs W1 H1 h1 s1 ok1 r1 =>
    ⟨W1, env, S1, _, X1, ok1, sl.mono s1.vis, h1, fun es S2 zs W2 H2 h2 s2 ok2 r2 => by
      exact ⟨W2, S2, pickK n m perm ds es, Q0, X1, ok2, reps_pickK (r1.mono s2.vis) r2, h2, cv.mono (s1.trans s2), cx.mono (s1.trans s2)⟩, cx.mono s1⟩, cx⟩
  refine PySem.W.callWith_KW (h₀ := X.base) I.ok.mod.kin hk hall (thn ((ha.run Wx tk).run pos pins s σ H _ I h1) fun us s1 ⟨vs, H1, I1, r, q⟩ => ?_) hpl he
  refine thn ((hkw.run Wx tk).run pos pins s1 σ H1 _ I1 q) fun ws s2 ⟨zs, H2, I2, rz, q2⟩ => ⟨I2.kIn, ?_⟩
  rw [hks]
  exact run_fnKS F hr hb (passAt tk σ) I2 r rz q2
end
end DL
set_option Elab.async false
set_option linter.all false
set_option maxRecDepth 100000
set_option maxHeartbeats 1000000
/-! The data layer, part m: own exceptions with one field: made, raised, caught, asked. -/
namespace DL
open PySem PySem.Spec PyProof.Rows L2
/-! ### C(v): C's own __init__ is self.f = p -/
def spEx (K : PySem.W.Frag) (C : Addr) (f : Str) : Sp := fun vs H Q _ => ∃ (a : Addr) (v : V), vs = [.ref a, v] ∧ OexC K C ∧ PySem.W.findIn K (.ref C) f = some none ∧ H a = some (exo a C none) ∧
  ∀ dx, H dx = none → dx ≠ a → Q .non (upd (upd H dx (exd dx [(f, v)])) a (exo a C (some dx)))
section
variable {P : Program} {w : World} {K : PySem.W.Frag} {mg : Str → Option Value} {base : Heap} {qual : Str} {st : Stmt} {fI : Addr} {fd : FuncData} {f p : Str} {C : Addr}
theorem exInit_ok (F : Fun K "__init__" qual st fI fd) (S : FnScope ["self", p] ["self", p] (defScope st))
    (hb : ∀ (cdv : Value) (A : Around) (outer : List Env) (s : Shared) (H : Hp) (E : XK), PSs (cxOf (L2.CX P w) P w K mg base ["self", p] qual (defScope st) fI cdv A outer s H E) (defBody st) (tOst K f (tVar 0) (tVar 1))) :
    FnOk P w K mg base (L2.CX P w) 1 fI fd ["self", p] (spEx K C f) := by
  refine F.okX S (fun vs H Q E ⟨a, v, e, _⟩ => by rw [e]; rfl) (fun cdv A outer s H vs Q E hr ⟨a, v, e, T, hn, ha, q⟩ => ⟨_, hb cdv A outer s H E, ?_⟩)
  subst e
  exact ⟨v, rfl, .ref a, rfl, a, C, rfl, T, hn, .inl ⟨ha, fun dx h1 h2 => q dx h1 h2⟩⟩
end
/-- the class x at C, whose __init__ keeps one value as f -/
structure ExAt (K : PySem.W.Frag) (mg : Str → Option Value) (x : Str) (C : Addr) (f p : Str) (qual : Str) (st : Stmt) : Prop where
  ox : OexC K C
  nf : PySem.W.findIn K (.ref C) f = some none
  mg : mg x = some (.ref C)
  fn : ∃ fI fd, Fun K "__init__" qual st fI fd ∧ PySem.W.findIn K (.ref C) "__init__" = some (some (.ref fI)) ∧ PySem.W.typeIn K (.ref fI) = some (.type "function") ∧ Binds K fd ["self", p] []
/-- .. as it is used -/
def ExC (P : Program) (w : World) (K : PySem.W.Frag) (mg : Str → Option Value) (base : Heap) (x : Str) (C : Addr) (f : Str) : Prop :=
  OexC K C ∧ PySem.W.findIn K (.ref C) f = some none ∧ mg x = some (.ref C) ∧ ∃ fI fd ps, FnOk P w K mg base (L2.CX P w) 1 fI fd ps (spEx K C f) ∧ PySem.W.findIn K (.ref C) "__init__" = some (some (.ref fI)) ∧ PySem.W.typeIn K (.ref fI) = some (.type "function") ∧ Binds K fd ps []
theorem ExC.mk {P : Program} {w : World} {K : PySem.W.Frag} {mg : Str → Option Value} {base : Heap} {x f p qual : Str} {C : Addr} {st : Stmt} (E : ExAt K mg x C f p qual st) (S : FnScope ["self", p] ["self", p] (defScope st))
    (hb : ∀ (fI : Addr) (cdv : Value) (A : Around) (outer : List Env) (s : Shared) (H : Hp) (E : XK), PSs (cxOf (L2.CX P w) P w K mg base ["self", p] qual (defScope st) fI cdv A outer s H E) (defBody st) (tOst K f (tVar 0) (tVar 1))) : ExC P w K mg base x C f := by
  obtain ⟨fI, fd, F, i1, t1, b⟩ := E.fn
  exact ⟨E.ox, E.nf, E.mg, fI, fd, _, exInit_ok F S (hb fI), i1, t1, b⟩
/-- an expression that makes an exception -/
abbrev WPx := DE → Sto → XQ → XQ → Prop
def lX (K : PySem.W.Frag) (Wx : WX) (w : WPx) : L2.St → Hp → XK → Prop := fun σ H Q => ∃ W env S Q0 X0, Ok K W S H ∧ Sl K W env σ ∧ w env S Q0 X0 ∧ CXc K W S H Q0 Q ∧ CXc K W S H X0 (fun c d H' => Wx c d σ H')
structure PDx (X : Cx) (e : Expr) (w : WPx) : Prop where
  run : ∀ Wx, Takes X Wx → PMk X e (lX X.K Wx w)
def wMkE (C : Addr) (f : Str) (w : WPe) : WPx := fun env S Q X => w env S (fun d S1 => Q C [(f, d)] S1) X
theorem repf_one {K : PySem.W.Frag} {W : Hp} {f : Str} {d : D} {v : V} (r : Rep K W d v) : Repf K W [(f, d)] [(f, v)] := fun g x h => by
  rw [List.lookup_cons] at h ⊢
  cases q : (g == f) with
  | true =>
    rw [q] at h
    cases h
    exact ⟨v, rfl, r⟩
  | false =>
    rw [q] at h
    cases h
section
variable {X : Cx} {x f : Str} {C : Addr} {e : Expr} {w : WPe} {p pos : Pos}
theorem pdx_mk (T : ExC X.prog X.w X.K X.mg X.base x C f) (hr : Room 2 X.A) (he : PD X e w) (hg : Gl X x := by rfl) (hdb : (x == ("__debug__" : Str)) = false := by decide) (hs : starEach [e] X.env = (false, eval e X.env) :: starEach [] X.env := by rfl) (hpl : (backTo pos (starEach [] X.env)).any (·.1) = false := by rfl) :
    PDx X (.Call (.Name x p) [e] [] pos) (wMkE C f w) := by
  obtain ⟨T1, nf, hm, fI, fd, ps, F, i1, t1, b⟩ := T
  refine ⟨fun Wx tk pins s σ H Q I h => ?_⟩
  refine pmk_oex T1 i1 t1 F hr b .nil passL hg hm (pa_cons (he.run Wx tk) pa_nil hs) hdb hs hpl pins s σ H Q I ?_
  obtain ⟨W, env, S, Q0, X1, ok, sl, hw, cq, cx⟩ := h
  refine ⟨W, env, S, _, X1, ok, sl, hw, fun d S1 v W1 H1 h1 s1 ok1 r1 => ?_, cx⟩
  refine ⟨by show 1 ≤ 1000; decide, fun a ha => ⟨a, v, rfl, T1, nf, upd_same, fun dx hdx ne => ⟨rfl, dx, [(f, v)], upd_same, ?_, ?_, ?_⟩⟩⟩
  · rw [upd_ne ne, upd_same]
  · rw [upd_ne ne] at hdx; exact hdx
  · have hdx' : H1 dx = none := by rw [upd_ne ne] at hdx; exact hdx
    have e1 : upd (L2.del (upd (upd (upd H1 a (exo a C none)) dx (exd dx [(f, v)])) a (exo a C (some dx))) a) dx (.xd [(f, v)]) = upd H1 dx (.xd [(f, v)]) := by
      funext b
      by_cases q : b = dx
      · subst q; rw [upd_same, upd_same]
      · rw [upd_ne q, upd_ne q]
        by_cases q2 : b = a
        · subst q2
          rw [del_same, ha]
        · rw [del_ne q2, upd_ne q2, upd_ne q, upd_ne q2]
    rw [e1]
    have n := ok1.fresh hdx'
    exact cq C _ S1 dx _ _ _ h1 (s1.trans (ok1.stW hdx')) (ok1.newW hdx') upd_same (repf_one (r1.mono (same_new n.1)))
def wRaise (w : WPx) : WPs := fun env S q => w env S (xcQ q env) (xcQ q env)
theorem pds_raise {wx : WPx} {pos2 : Pos} {e : Expr} (hc : X.calm = true) (he : PDx X e wx) : PDs X (.Raise (some e) none pos2) (wRaise wx) :=
  ⟨fun Wx tk => PS.imp (ps_raise hc tk (he.run Wx tk)) fun D σ H ⟨W, env, S, q, ok, sl, hl, hw, cs⟩ => ⟨W, env, S, _, _, ok, sl, hw, CXc.of cs sl, CXc.of cs sl⟩⟩
end
/-! ### try .. except T as e -/
theorem sl_del {K : PySem.W.Frag} {W : Hp} {e : DE} {σ : L2.St} {i : Nat} (h : Sl K W e σ) : Sl K W (delV e i) (σ.set i none) := fun j d q => by
  obtain ⟨n, g⟩ := getV_delV q
  obtain ⟨v, a, r⟩ := h j d g
  exact ⟨v, by rw [List.getElem?_set_ne (Ne.symm n)]; exact a, r⟩
/-- .. where the slots' number is not told -/
def lSn (K : PySem.W.Frag) (Wx : WX) (n : Nat) (w : WPs) : TS := fun D σ H => ∃ W env S q, Ok K W S H ∧ (σ.length = n → Sl K W env σ) ∧ w env S q ∧ CS K Wx W S H q { D with nx := fun σ' H' => σ'.length = n → D.nx σ' H', bk := fun σ' H' => σ'.length = n → D.bk σ' H', ct := fun σ' H' => σ'.length = n → D.ct σ' H' }
theorem pss_n {X : Cx} {st : List Stmt} {K : PySem.W.Frag} {Wx : WX} {w : WPs} (h : PSs X st (lS K Wx X.N.length w)) : PSs X st (lSn K Wx X.N.length w) :=
  ⟨fun pins s σ H D I ⟨W, env, S, q, ok, sl, hw, cs⟩ => h.run pins s σ H D I ⟨W, env, S, q, ok, sl I.len, I.len, hw, cs⟩⟩
/-- the suite: of the exception's address, its dict's, its class -/
abbrev WPu := Addr → Addr → Addr → WPs
def wTry (K : PySem.W.Frag) (T : Addr) (i : Nat) (body : WPs) (suite : WPu) : WPs := fun env S q => body env S { q with xc := fun C fs e S1 => ∃ b, PySem.W.exmOne K (.ref C) (.ref T) = some b ∧
  (b = true → ∃ f x, fs = [(f, x)] ∧ ∀ a dd, suite a dd C (setV e i (.exc a dd C f x)) S1 { nx := fun e2 S2 => q.nx (delV e2 i) S2, rt := q.rt, bk := fun e2 S2 => q.bk (delV e2 i) S2, ct := fun e2 S2 => q.ct (delV e2 i) S2, xc := fun _ _ _ _ => False }) ∧
  (b = false → q.xc C fs e S1) }
section
variable {X : Cx} {x n : Str} {T : Addr} {i : Nat} {body suite : List Stmt} {b₀ : Stmt} {np pos pos' : Pos} {wb : WPs} {ws : WPu}
theorem pds_try (hs : X.stack = X.env :: X.outer) (hf : X.env.frame = some X.env.locals) (hN : X.N.Nodup) (hi : X.N[i]? = some n) (hln : X.env.kindOf n = some .local) (hm : X.mg x = some (.ref T)) (hg : Gl X x) (hdb : (x == ("__debug__" : Str)) = false)
    (hb : ∀ (pn : List (Addr × Obj)) (xe : Value → Shared → Prop), PassesOwn (model X.prog X.w) X.A X.env xe → PDss (X.tr pn xe) body wb)
    (hsu : ∀ (a dd C : Addr) (oe : Obj) (pn : List (Addr × Obj)), Zc (.ref C) (some dd) oe → (∃ vs, oe.data = .fields vs) → PDss (X.suite a ((a, oe) :: pn)) (b₀ :: suite) (ws a dd C)) :
    PDs X (.Try body [.ExceptHandler (some (.Name x np)) (some n) (b₀ :: suite) pos'] [] [] pos) (wTry X.K T i wb ws) := by
  refine ⟨fun Wx tk => ?_⟩
  refine PS.imp (L2.ps_try_as hs hf hN hi hln ⟨hg, hdb, .inl hm⟩ tk (tb := fun W => lS X.K W X.N.length wb) (ts := fun a cls d => match cls, d with
    | .ref C, some dd => lSn X.K (fun _ _ _ _ => False) X.N.length (ws a dd C)
    | _, _ => fun _ _ _ => False) (fun W pn xe tkW pass => (hb pn xe pass).run W tkW) fun a oe cls d pn hz hfl => ?_) ?_
  · cases cls with
    | ref C =>
      cases d with
      | some dd => exact pss_n (X := X.suite a ((a, oe) :: pn)) ((hsu a dd C oe pn hz hfl).run _ takes0)
      | none => exact ⟨fun pins s σ H D I h => h.elim⟩
    | _ => exact ⟨fun pins s σ H D I h => h.elim⟩
  · rintro D σ H ⟨W, env, S, q, ok, sl, hl, hw, cs⟩
    refine ⟨W, env, S, _, ok, sl, hl, hw, cs.nx, cs.rt, cs.bk, cs.ct, ?_⟩
    rintro C fs e S1 dd gs σ1 W1 H1 ⟨b, hb1, hy, hn⟩ s1 ok1 sl1 e1 r1
    refine ⟨b, hb1, fun h a ha => ?_, fun h => cs.xc C fs e S1 dd gs σ1 W1 H1 (hn h) s1 ok1 sl1 e1 r1⟩
    obtain ⟨f, y, rfl, hsuite⟩ := hy h
    obtain ⟨u, hu, ru⟩ := r1 f y (by rw [List.lookup_cons]; simp)
    have rex : Rep X.K W1 (.exc a dd C f y) (.ref a) := ⟨rfl, gs, u, e1, hu, ru⟩
    have sl2 : (σ1.set i (some (.ref a))).length = X.N.length → Sl X.K W1 (setV e i (.exc a dd C f y)) (σ1.set i (some (.ref a))) := fun hlen j d hj => by
      rcases getV_setV hj with ⟨z1, z2⟩ | ⟨z1, z2⟩
      · subst z1 z2
        exact ⟨_, List.getElem?_set_self (by rw [List.length_set] at hlen; rw [hlen]; exact lt_of_some hi), rex⟩
      · obtain ⟨v, hv, rv⟩ := sl1 j d z2
        exact ⟨v, by rw [List.getElem?_set_ne (Ne.symm z1)]; exact hv, rv⟩
    refine ⟨W1, _, S1, _, ok1, sl2, hsuite a dd, ?_, ?_, ?_, ?_, ?_⟩
    · exact fun e2 S2 σ2 W2 H2 hq st ok2 sl3 hl2 => cs.nx _ S2 _ W2 H2 hq (s1.trans st) ok2 (sl_del sl3) (by rw [List.length_set]; exact hl2)
    · exact fun d S2 v W2 H2 hq st ok2 rv => cs.rt d S2 v W2 H2 hq (s1.trans st) ok2 rv
    · exact fun e2 S2 σ2 W2 H2 hq st ok2 sl3 hl2 => cs.bk _ S2 _ W2 H2 hq (s1.trans st) ok2 (sl_del sl3) (by rw [List.length_set]; exact hl2)
    · exact fun e2 S2 σ2 W2 H2 hq st ok2 sl3 hl2 => cs.ct _ S2 _ W2 H2 hq (s1.trans st) ok2 (sl_del sl3) (by rw [List.length_set]; exact hl2)
    · exact fun C fs e2 S2 dd gs σ2 W2 H2 hq _ _ _ _ _ => hq.elim
/-! ### in the suite -/
/-- e.f -/
def wExF (K : PySem.W.Frag) (a dd C : Addr) (f : Str) (w : WPe) : WPe := fun env S Q X => (XfC K C ∧ PySem.W.findIn K (.ref C) f = some none) ∧ w env S (fun d S1 => match d with
  | .exc a' dd' C' g x => (a' = a ∧ dd' = dd ∧ C' = C ∧ g = f) ∧ Q x S1
  | _ => False) X
section
variable {X : Cx} {a dd C : Addr} {oe : Obj} {pn : List (Addr × Obj)} {e : Expr} {f : Str} {w : WPe} {pos : Pos}
theorem pd_exf (hz : Zc (.ref C) (some dd) oe) (hf : ∃ vs, oe.data = .fields vs) (he : PD (X.suite a ((a, oe) :: pn)) e w) (hb : attributeBase e f X.env (eval e X.env) = eval e X.env := by rfl) :
    PD (X.suite a ((a, oe) :: pn)) (.Attribute e f pos) (wExF X.K a dd C f w) :=
  ⟨fun Wx tk => ⟨fun pins s σ H Q I ⟨W, env, S, Q0, X1, ok, sl, ⟨⟨T, hno⟩, hw⟩, cv, cx⟩ => (pe_xf T hno hz hf (he.run Wx tk) hb).run pins s σ H Q I ⟨W, env, S, _, X1, ok, sl, hw, fun d S1 v W1 H1 h1 s1 ok1 r1 => by
    cases d with
    | exc a' dd' C' g x =>
      obtain ⟨⟨rfl, rfl, rfl, rfl⟩, h1⟩ := h1
      obtain ⟨e1, gs, u, e2, e3, ru⟩ := r1
      exact ⟨e1, rfl, dd', gs, u, rfl, ok1.vis _ _ e2, e3, cv x S1 u W1 H1 h1 s1 ok1 ru⟩
    | _ => exact h1.elim, cx⟩⟩⟩
/-- what the class of a caught exception must say, so that isinstance asks rightly -/
structure IsC (K : PySem.W.Frag) (C : Addr) : Prop where
  cl : (PySem.W.clsIn K C).isSome = true
  ga : PySem.W.findIn K (.ref C) "__getattribute__" = some (some (.builtin "BaseException.__getattribute__"))
  gt : PySem.W.findIn K (.ref C) "__getattr__" = some none
  su : PySem.W.subIn K (.ref C) (.type "BaseException") = some true
  ca : PySem.W.findIn K (.ref C) "__class__" = some (some (.builtin "object.__class__"))
  cg : PySem.W.specialIn K (.builtin "object.__class__") "__get__" = some (some (.builtin "getset_descriptor.__get__"))
  ct : PySem.W.takesIn K (.builtin "object.__class__") = some true
  mo : PySem.W.mroIn K C (.type "object") = some true
/-- isinstance(e, T), e the caught exception with the dict at dd -/
def rIsD (K : PySem.W.Frag) (C a dd : Addr) : List V → Hp → VK → Prop := fun xs H Q => ∃ (c : V) (u : Value) (b : Bool) (gs : List (Str × V)), xs = [.ref a, c] ∧ H dd = some (.xd gs) ∧ ClsV c u ∧ IsC K C ∧ PySem.W.kitOne K (.ref C) u = some b ∧ Q (.bl b) H
theorem inst_of {pins : List (Addr × Obj)} {σ : L2.St} {H : Hp} {s : Shared} {gs : List (Str × V)} (I : L2.Inv (X.suite a ((a, oe) :: pn)) pins σ H s) (hz : Zc (.ref C) (some dd) oe) (hf : ∃ vs, oe.data = .fields vs) (hd : H dd = some (.xd gs)) : ∃ od, PySem.W.InstAt s.heap a oe C (some od) := by
  obtain ⟨hget, _⟩ := I.pin (a, oe) (List.mem_append.mpr (.inl List.mem_cons_self))
  obtain ⟨vs, hv⟩ := hf
  have hx : ObjOk X.prog X.w H s.heap dd (.xd gs) := I.hok dd _ hd
  obtain ⟨mA, hns, hr⟩ := hx
  obtain ⟨od, ho, hl⟩ := lookIn_ns hns
  exact ⟨od, hget, hz.1, by unfold PySem.W.notCls; rw [hv] <;> rfl, by rw [hz.2]; exact ho⟩
theorem call_isD (hz : Zc (.ref C) (some dd) oe) (hf : ∃ vs, oe.data = .fields vs) : CallR (X.suite a ((a, oe) :: pn)) (.builtin "isinstance") (rIsD X.K C a dd) := by
  intro pins s σ H xs us Q I r h
  obtain ⟨c, u, b, gs, rfl, hd, k, T, e, q⟩ := h
  obtain ⟨u1, u2, rfl, r1, r2⟩ := vals2 r
  have e2 := k.eq r2
  subst e2
  cases (show u1 = Value.ref a from r1)
  obtain ⟨od, J⟩ := inst_of I hz hf hd
  exact PySem.W.kia_one (PySem.W.kitx_exc T.cl T.ga T.gt T.su T.ca T.cg T.ct T.mo) I.kIn J e (fun z => nomatch z) fun tk => ⟨.bl b, H, I.tok tk, rfl, q⟩
/-- isinstance(e, (T1, T2, ..)) -/
def rIsDT (K : PySem.W.Frag) (C a dd : Addr) : List V → Hp → VK → Prop := fun xs H Q => ∃ (tp : Addr) (cs : List V) (ws : List Value) (b : Bool) (gs : List (Str × V)), xs = [.ref a, .ref tp] ∧ H dd = some (.xd gs) ∧ H tp = some (.tup cs) ∧ Paired ClsV cs ws ∧ IsC K C ∧ PySem.W.kitAny K (.ref C) ws = some b ∧ Q (.bl b) H
theorem call_isDT (hz : Zc (.ref C) (some dd) oe) (hf : ∃ vs, oe.data = .fields vs) : CallR (X.suite a ((a, oe) :: pn)) (.builtin "isinstance") (rIsDT X.K C a dd) := by
  intro pins s σ H xs us Q I r h
  obtain ⟨tp, cs, ws, b, gs, rfl, hd, hT, k, T, e, q⟩ := h
  obtain ⟨u1, u2, rfl, r1, r2⟩ := vals2 r
  cases (show u1 = Value.ref a from r1)
  cases (show u2 = Value.ref tp from r2)
  obtain ⟨od, J⟩ := inst_of I hz hf hd
  obtain ⟨_, its, rv, o, h1, h2, n, h3⟩ := (show ObjOk X.prog X.w H s.heap tp (.tup cs) from I.hok tp _ hT)
  have e3 := ClsV.all k rv
  subst e3
  obtain ⟨oc, od2, dt, sl⟩ := o
  simp only at h2 h3
  subst h2 h3
  exact PySem.W.kia_tup (PySem.W.kitx_exc T.cl T.ga T.gt T.su T.ca T.cg T.ct T.mo) I.kIn J h1 e (fun z => nomatch z) fun tk => ⟨.bl b, H, I.tok tk, rfl, q⟩
end
end
def wIsE (K : PySem.W.Frag) (a dd C T : Addr) (w : WPe) : WPe := fun env S Q X => w env S (fun d S1 => match d with
  | .exc a' dd' C' _ _ => (a' = a ∧ dd' = dd ∧ C' = C ∧ IsC K C) ∧ some! (PySem.W.kitOne K (.ref C) (.ref T)) fun b => Q (.bl b) S1
  | _ => False) X
def wIsET (K : PySem.W.Frag) (a dd C : Addr) (Ts : List Addr) (w : WPe) : WPe := fun env S Q X => w env S (fun d S1 => match d with
  | .exc a' dd' C' _ _ => (a' = a ∧ dd' = dd ∧ C' = C ∧ IsC K C) ∧ some! (PySem.W.kitAny K (.ref C) (Ts.map Value.ref)) fun b => Q (.bl b) S1
  | _ => False) X
def tRefs (Ts : List Addr) : TA := fun σ H Q => Q (Ts.map V.ref) H
theorem pa_refs0 {X : Cx} : PA X [] (tRefs []) := pa_nil
theorem pe_cls {X : Cx} {x : Str} {T : Addr} {pos : Pos} (hm : X.mg x = some (.ref T)) (hg : Gl X x := by rfl) (hd : (x == ("__debug__" : Str)) = false := by decide) : PE X (.Name x pos) (tC (.ref T)) := pe_glob hg hm rfl hd
theorem pa_refs {X : Cx} {e : Expr} {es : List Expr} {T : Addr} {Ts : List Addr} (h : PE X e (tC (.ref T))) (r : PA X es (tRefs Ts)) (hs : starEach (e :: es) X.env = (false, eval e X.env) :: starEach es X.env := by rfl) : PA X (e :: es) (tRefs (T :: Ts)) := pa_cons h r hs
theorem clsv_refs : ∀ Ts : List Addr, Paired ClsV (Ts.map V.ref) (Ts.map Value.ref)
  | [] => .nil
  | T :: Ts => .cons (.own T) (clsv_refs Ts)
section
variable {X : Cx} {a dd C T : Addr} {Ts : List Addr} {oe : Obj} {pn : List (Addr × Obj)} {e e2 : Expr} {es : List Expr} {w : WPe} {p p2 pos : Pos} {kk : Nat}
theorem pd_isE (hz : Zc (.ref C) (some dd) oe) (hf : ∃ vs, oe.data = .fields vs) (he : PD (X.suite a ((a, oe) :: pn)) e w) (hc : PE (X.suite a ((a, oe) :: pn)) e2 (tC (.ref T))) (hm : X.mg "isinstance" = none) (hg : Gl (X.suite a ((a, oe) :: pn)) "isinstance" := by rfl)
    (hs : starEach [e, e2] X.env = (false, eval e X.env) :: starEach [e2] X.env := by rfl) (hs2 : starEach [e2] X.env = [(false, eval e2 X.env)] := by rfl) (hpl : (backTo pos (starEach [e2] X.env)).any (·.1) = false := by rfl) :
    PD (X.suite a ((a, oe) :: pn)) (.Call (.Name "isinstance" p) [e, e2] [] pos) (wIsE X.K a dd C T w) :=
  ⟨fun Wx tk => PE.imp (pe_callB (call_isD hz hf) hg hm (by decide +kernel) (pa_cons (he.run Wx tk) (pa_cons hc pa_nil hs2) hs) (by decide) (by decide) hs hpl) fun σ H Q ⟨W, env, S, Q0, X1, ok, sl, hw, cv, cx⟩ => ⟨W, env, S, _, X1, ok, sl, hw, fun d S1 v W1 H1 h1 s1 ok1 r1 => by
    cases d with
    | exc a' dd' C' g x =>
      obtain ⟨⟨rfl, rfl, rfl, ic⟩, h1⟩ := h1
      obtain ⟨b, e5, h1⟩ := some!_ex h1
      obtain ⟨e1, gs, u, e2, e3, ru⟩ := r1
      subst e1
      exact ⟨.ref T, .ref T, b, gs, rfl, ok1.vis _ _ e2, .own T, ic, e5, cv _ S1 _ W1 H1 h1 s1 ok1 rfl⟩
    | _ => exact h1.elim, cx⟩⟩
theorem pd_isET (hz : Zc (.ref C) (some dd) oe) (hf : ∃ vs, oe.data = .fields vs) (he : PD (X.suite a ((a, oe) :: pn)) e w) (ht : PA (X.suite a ((a, oe) :: pn)) es (tRefs Ts)) (hm : X.mg "isinstance" = none) (hzl : Ts.length ≤ sizeLine) (hg : Gl (X.suite a ((a, oe) :: pn)) "isinstance" := by rfl)
    (hs : starEach [e, .Tuple es kk p2] X.env = (false, eval e X.env) :: starEach [.Tuple es kk p2] X.env := by rfl) (hs2 : starEach [.Tuple es kk p2] X.env = [(false, eval (.Tuple es kk p2) X.env)] := by rfl) (hpl : (backTo pos (starEach [.Tuple es kk p2] X.env)).any (·.1) = false := by rfl) :
    PD (X.suite a ((a, oe) :: pn)) (.Call (.Name "isinstance" p) [e, .Tuple es kk p2] [] pos) (wIsET X.K a dd C Ts w) :=
  ⟨fun Wx tk => PE.imp (pe_callB (call_isDT hz hf) hg hm (by decide +kernel) (pa_cons (he.run Wx tk) (pa_cons (pe_tup ht) pa_nil hs2) hs) (by decide) (by decide) hs hpl) fun σ H Q ⟨W, env, S, Q0, X1, ok, sl, hw, cv, cx⟩ => ⟨W, env, S, _, X1, ok, sl, hw, fun d S1 v W1 H1 h1 s1 ok1 r1 => by
    cases d with
    | exc a' dd' C' g x =>
      obtain ⟨⟨rfl, rfl, rfl, ic⟩, h1⟩ := h1
      obtain ⟨b, e5, h1⟩ := some!_ex h1
      obtain ⟨e1, gs, u, e2, e3, ru⟩ := r1
      subst e1
      refine ⟨by rw [List.length_map]; exact hzl, fun q hq => ?_⟩
      exact ⟨q, _, _, b, gs, rfl, (ok1.newW hq).vis _ _ (same_new (ok1.fresh hq).1 _ _ e2), upd_same, clsv_refs Ts, ic, e5, cv _ S1 _ _ _ h1 (s1.trans (ok1.stW hq)) (ok1.newW (o := .tup (Ts.map V.ref)) hq) rfl⟩
    | _ => exact h1.elim, cx⟩⟩
end
end DL
set_option Elab.async false
set_option linter.all false
set_option maxRecDepth 100000
set_option maxHeartbeats 1000000
/-! The data layer, part n: contracts of defs called by keyword. -/
namespace DL
open PySem PySem.Spec PyProof.Rows L2
def DefAtK (K : PySem.W.Frag) (mg : Str → Option Value) (x qual : Str) (st : Stmt) (ps ks : List Str) (n m : Nat) (perm : List Nat) : Prop := ∃ f fd, Fun K x qual st f fd ∧ mg x = some (.ref f) ∧ KBinds K fd ps ks (fun us ws => pickK n m perm us ws) (fun us ws => pickK n m perm us ws)
def FnCK (P : Program) (w : World) (K : PySem.W.Frag) (mg : Str → Option Value) (base : Heap) (k : Nat) (x : Str) (ps ks : List Str) (n m : Nat) (perm : List Nat) (spec : Ctr) : Prop :=
  ∃ f fd, FnD P w K mg base k f fd ps spec ∧ mg x = some (.ref f) ∧ PySem.W.keepIn K (.ref f) = true ∧ KBinds K fd ps ks (fun us ws => pickK n m perm us ws) (fun us ws => pickK n m perm us ws)
theorem FnCK.mk {P : Program} {w : World} {K : PySem.W.Frag} {mg : Str → Option Value} {base : Heap} {x qual : Str} {st : Stmt} {N ps ks : List Str} {k n m : Nat} {perm : List Nat} {spec : Ctr} {ws : WPs} (D : DefAtK K mg x qual st ps ks n m perm) (S : FnScope N ps (defScope st)) (hle : ps.length ≤ N.length)
    (len : ∀ ds S Q E, spec ds S Q E → ds.length = ps.length)
    (hd : ∀ (f : Addr) (cdv : Value) (A : Around) (outer : List Env) (s : Shared) (H : Hp) (E : XK), Room k (A.deeper (envOfC qual (defScope st) s.heap.objs.size f cdv)) → PDss (cxOf (L2.CX P w) P w K mg base N qual (defScope st) f cdv A outer s H E) (defBody st) ws)
    (hr : ∀ ds S Q X1, spec ds S Q X1 → ws (startD N ds) S (endQ Q X1)) : FnCK P w K mg base (k + 1) x ps ks n m perm spec := by
  obtain ⟨f, fd, F, hm, hb⟩ := D
  exact ⟨f, fd, fnd_mk F S hle len hd hr, hm, F.kp, hb⟩
section
variable {X : Cx} {x : Str} {p pos : Pos} {e : Expr} {es : List Expr} {kws : List Keyword} {wa wk : WPa} {k n m : Nat} {perm : List Nat} {ps ks : List Str} {spec : Ctr}
theorem pd_fcK0 (G : FnCK X.prog X.w X.K X.mg X.base k x ps ks 0 m perm spec) (hr : Room k X.A) (hkw : PDk X kws wk)
    (hg : Gl X x := by rfl) (hdb : (x == ("__debug__" : Str)) = false := by decide) (hall : (backToKw pos (keywordEach kws X.env)).all (·.1.isSome) = true := by rfl) (hks : (backToKw pos (keywordEach kws X.env)).filterMap (·.1) = ks := by rfl)
    (hpl : ((backTo pos (starEach [] X.env)).any (·.1) || (backToKw pos (keywordEach kws X.env)).any (·.1.isNone)) = false := by rfl) : PD X (.Call (.Name x p) [] kws pos) (wCallK spec 0 m perm wNil wk) := by
  obtain ⟨f, fd, F, hm, hk, hb⟩ := G
  exact pd_fnK0 F hm hk hb hr hkw hg hdb hall hks hpl
theorem pd_fcK (G : FnCK X.prog X.w X.K X.mg X.base k x ps ks n m perm spec) (hr : Room k X.A) (ha : PDa X (e :: es) wa) (hkw : PDk X kws wk)
    (hg : Gl X x := by rfl) (hdb : (x == ("__debug__" : Str)) = false := by decide) (hall : (backToKw pos (keywordEach kws X.env)).all (·.1.isSome) = true := by rfl) (hks : (backToKw pos (keywordEach kws X.env)).filterMap (·.1) = ks := by rfl)
    (he : starEach (e :: es) X.env = (false, eval e X.env) :: starEach es X.env := by rfl)
    (hpl : ((backTo pos (starEach (e :: es) X.env)).any (·.1) || (backToKw pos (keywordEach kws X.env)).any (·.1.isNone)) = false := by rfl) : PD X (.Call (.Name x p) (e :: es) kws pos) (wCallK spec n m perm wa wk) := by
  obtain ⟨f, fd, F, hm, hk, hb⟩ := G
  exact pd_fnK F hm hk hb hr ha hkw hg hdb hall hks he hpl
end
end DL
set_option Elab.async false
set_option linter.all false
set_option maxRecDepth 100000
set_option maxHeartbeats 1000000
/-! The data layer, part o: what later laws want. -/
namespace DL
open PySem PySem.Spec PyProof.Rows L2
/-- + of lists, made to change -/
def oAddM : O2 := fun S x y Q => some! (seqM S x) fun xs => some! (seqM S y) fun ys => xs.length + ys.length ≤ sizeLine ∧ ∀ p, S p = none → Q (.ref p) (put S p (.lst (xs ++ ys)))
theorem opd_addM {X : Cx} : OpR X (binaryOp .Add) (lOp X.K oAddM) := fun pins s σ H x y v u Q I rx ry h => by
  obtain ⟨W, S, a, b, Q0, ok, ra, rb, ho, cv⟩ := h
  obtain ⟨xs, e1, z⟩ := some!_ex ho
  obtain ⟨ys, e2, hz, z⟩ := some!_ex z
  obtain ⟨p, vs, rfl, hp, r1⟩ := seqM_rep ok ra e1
  obtain ⟨q, ws, rfl, hq, r2⟩ := seqM_rep ok rb e2
  refine op_cat pins s σ H _ _ v u Q I rx ry ⟨p, q, vs, ws, rfl, rfl, hp, hq, by rw [r1.length, r2.length]; exact hz, fun o no => ?_⟩
  have n := ok.fresh no
  exact cv _ _ _ _ _ (z o n.2) (ok.stS no) (ok.newS no ⟨_, rfl, r1.append r2⟩) rfl
/-! ### own exception classes: what the written part tells -/
theorem kitc_of {K : PySem.W.Frag} {C S : Addr} {b : Bool} (h2 : PySem.W.isClsIn K S = true) (h3 : PySem.W.typeIn K (.ref S) = some (.type "type")) (h4 : PySem.W.subIn K (.ref C) (.ref S) = some b) : PySem.W.kitCls K (.ref C) (.ref S) = some b := by
  have e2 : ((PySem.W.clsIn K S).isSome && PySem.W.typeIn K (.ref S) == some (.type "type")) = true := by
    have h2' : (PySem.W.clsIn K S).isSome = true := h2
    rw [h2', h3] <;> rfl
  show (if ((PySem.W.clsIn K S).isSome && PySem.W.typeIn K (.ref S) == some (.type "type")) = true then PySem.W.subIn K (.ref C) (.ref S) else none) = some b
  rw [if_pos e2]
  exact h4
theorem exm_of {K : PySem.W.Frag} {C S : Addr} {b : Bool} (h1 : PySem.W.subIn K (.ref S) (.type "BaseException") = some true) (h2 : PySem.W.isClsIn K S = true) (h3 : PySem.W.typeIn K (.ref S) = some (.type "type")) (h4 : PySem.W.subIn K (.ref C) (.ref S) = some b) : PySem.W.exmOne K (.ref C) (.ref S) = some b := by
  have e1 : (PySem.W.subIn K (.ref S) (.type "BaseException") == some true) = true := by rw [h1] <;> rfl
  show (if (PySem.W.subIn K (.ref S) (.type "BaseException") == some true) = true then PySem.W.kitCls K (.ref C) (.ref S) else none) = some b
  rw [if_pos e1]
  exact kitc_of h2 h3 h4
theorem kit_self {K : PySem.W.Frag} {C : Addr} : PySem.W.kitOne K (.ref C) (.ref C) = some true := by
  unfold PySem.W.kitOne
  rw [if_pos (by simp)]
theorem kit_of {K : PySem.W.Frag} {C S : Addr} {b : Bool} (hne : C ≠ S) (h2 : PySem.W.isClsIn K S = true) (h3 : PySem.W.typeIn K (.ref S) = some (.type "type")) (h4 : PySem.W.subIn K (.ref C) (.ref S) = some b) : PySem.W.kitOne K (.ref C) (.ref S) = some b := by
  unfold PySem.W.kitOne
  rw [if_neg fun z => hne (Value.ref.inj (beq_iff_eq.mp z))]
  exact kitc_of h2 h3 h4
theorem kitn_nil {K : PySem.W.Frag} {t : Value} : PySem.W.kitAny K t [] = some false := rfl
theorem kitn_cons {K : PySem.W.Frag} {t c : Value} {r : List Value} {b : Bool} (h1 : PySem.W.kitOne K t c = some false) (h2 : PySem.W.kitAny K t r = some b) : PySem.W.kitAny K t (c :: r) = some b := by
  show (match PySem.W.kitOne K t c with | some true => some true | some false => PySem.W.kitAny K t r | none => none) = some b
  rw [h1]; exact h2
theorem kitn_here {K : PySem.W.Frag} {t c : Value} {r : List Value} (h1 : PySem.W.kitOne K t c = some true) : PySem.W.kitAny K t (c :: r) = some true := by
  show (match PySem.W.kitOne K t c with | some true => some true | some false => PySem.W.kitAny K t r | none => none) = some true
  rw [h1]
end DL
set_option Elab.async false
set_option linter.all false
set_option maxRecDepth 100000
set_option maxHeartbeats 1000000
/-! The data layer, part p: dicts whose keys are tuples (of ints, bools, None and of such tuples). -/
namespace DL
open PySem PySem.Spec PyProof.Rows L2
mutual
theorem khash_eq (w : World) : ∀ {d : D} {k : NestedKey}, nkD d = some k → k.hash w = khash k
  | .non, k, h => by cases h; rfl
  | .bl _, k, h => by cases h; rfl
  | .int _, k, h => by cases h; rfl
  | .tup xs, k, h => by
    have h' : (nksD xs).map NestedKey.tup = some k := h
    obtain ⟨ks, e1, e2⟩ := Option.map_eq_some_iff.mp h'
    subst e2
    show reduceHash (Builtin.Tuple.tupleHashOf (NestedKey.hashes w ks)) = reduceHash (Builtin.Tuple.tupleHashOf (khashes ks))
    rw [khashes_eq w e1]
  | .str _, _, h => by cases h
  | .ref _, _, h => by cases h
  | .lst _, _, h => by cases h
  | .fro _, _, h => by cases h
  | .obj _ _ _, _, h => by cases h
  | .exc _ _ _ _ _, _, h => by cases h
theorem khashes_eq (w : World) : ∀ {ds : List D} {ks : List NestedKey}, nksD ds = some ks → NestedKey.hashes w ks = khashes ks
  | [], ks, h => by cases h; rfl
  | d :: r, ks, h => by
    have h' : ((nkD d).bind fun k => (nksD r).map (k :: ·)) = some ks := h
    obtain ⟨k, e1, e2⟩ := Option.bind_eq_some_iff.mp h'
    obtain ⟨ks', e3, e4⟩ := Option.map_eq_some_iff.mp e2
    subst e4
    show NestedKey.hash w k :: NestedKey.hashes w ks' = khash k :: khashes ks'
    rw [khash_eq w e1, khashes_eq w e3]
end
section
variable {X : Cx} {pins : List (Addr × Obj)} {σ : L2.St} {H W : Hp} {s : Shared}
mutual
theorem nest_of (I : L2.Inv X pins σ H s) (e : Same W H) : ∀ {d : D} {v : V} {u : Value} {k : NestedKey}, Rep X.K W d v → RelV v u → nkD d = some k → NestedIs s.heap k u
  | .non, v, u, k, r, ru, h => by
    cases h
    rw [show v = V.non from r] at ru
    rw [show u = Value.none from ru]; exact .none
  | .bl b, v, u, k, r, ru, h => by
    cases h
    rw [show v = V.bl b from r] at ru
    rw [show u = Value.bool b from ru]; exact .bool rfl
  | .int i, v, u, k, r, ru, h => by
    cases h
    rw [show v = V.int i from r] at ru
    obtain ⟨t, ht⟩ := (show ∃ t, u = Value.int i t from ru)
    rw [ht]; exact .int i t
  | .tup xs, v, u, k, r, ru, h => by
    have h' : (nksD xs).map NestedKey.tup = some k := h
    obtain ⟨ks, e1, e2⟩ := Option.map_eq_some_iff.mp h'
    subst e2
    obtain ⟨a, vs, rfl, hq, rv⟩ := r
    obtain rfl : u = Value.ref a := ru
    obtain ⟨its, rvs, ⟨o, ho, hc, n, hd⟩, hz⟩ := I.tuple (sqT_mono e hq)
    exact .tup ho hc hd (nests_of I e rv rvs e1)
  | .str _, _, _, _, _, _, h => by cases h
  | .ref _, _, _, _, _, _, h => by cases h
  | .lst _, _, _, _, _, _, h => by cases h
  | .fro _, _, _, _, _, _, h => by cases h
  | .obj _ _ _, _, _, _, _, _, h => by cases h
  | .exc _ _ _ _ _, _, _, _, _, _, h => by cases h
theorem nests_of (I : L2.Inv X pins σ H s) (e : Same W H) : ∀ {ds : List D} {vs : List V} {us : List Value} {ks : List NestedKey}, Reps X.K W ds vs → Vals vs us → nksD ds = some ks → NestedAll s.heap ks us
  | [], vs, us, ks, r, rv, h => by
    cases h
    rw [show vs = [] from r] at rv
    cases rv
    exact .nil
  | d :: ds, vs, us, ks, ⟨v, r, e1, e2, e3⟩, rv, h => by
    subst e1
    cases rv with
    | cons r1 r2 =>
      have h' : ((nkD d).bind fun k => (nksD ds).map (k :: ·)) = some ks := h
      obtain ⟨k, g1, g2⟩ := Option.bind_eq_some_iff.mp h'
      obtain ⟨ks', g3, g4⟩ := Option.map_eq_some_iff.mp g2
      subst g4
      exact .cons (nest_of I e e2 r1 g1) (nests_of I e e3 r2 g3)
end
theorem DN.length {K : PySem.W.Frag} : ∀ {kvs : List (D × D)} {xs : List (NestedKey × Addr × Value)}, DN K W kvs xs → xs.length = kvs.length
  | [], xs, h => by rw [show xs = [] from h]; rfl
  | _ :: _, _, ⟨k, b, u, v, r', e1, _, _, _, e6⟩ => by rw [e1, List.length_cons, List.length_cons, DN.length e6]
theorem DN.mem {K : PySem.W.Frag} : ∀ {kvs : List (D × D)} {xs : List (NestedKey × Addr × Value)}, DN K W kvs xs → ∀ x, x ∈ xs → ∃ kd, (nkD kd = some x.1 ∧ x.1.depth ≤ 8) ∧ Rep K W kd (.ref x.2.1)
  | [], xs, h, x, hx => by rw [show xs = [] from h] at hx; cases hx
  | p :: _, _, ⟨k, b, u, v, r', e1, e2, e3, _, e6⟩, x, hx => by
    subst e1
    cases hx with
    | head => exact ⟨p.1, e2, e3⟩
    | tail _ hx => exact DN.mem e6 x hx
/-- the dict's object, as the kit's rules want it -/
theorem dict_at {S : Sto} {a : Addr} {kvs : List (D × D)} (I : L2.Inv X pins σ H s) (ok : Ok X.K W S H) (hS : S a = some (.dN a kvs)) :
    ∃ xs, H a = some (.ext (dnP a xs)) ∧ DN X.K W kvs xs ∧ (kvs.length ≤ sizeLine ∧ (a == sysModules) = false ∧ (xs.map (·.1)).Nodup) ∧ s.heap.DictOfH (nestedKind X.prog X.w) a xs := by
  obtain ⟨o, h1, xs, h2, h3, h4⟩ := ok.sto _ _ hS
  subst h2
  obtain ⟨⟨ob, es, ep, g1, g2, g3, g4⟩, _, _⟩ := (show ObjOk X.prog X.w H s.heap a (.ext (dnP a xs)) from I.hok a _ h1)
  refine ⟨xs, h1, h4, h3, ob, es, ep, g1, g2, g3, ?_, fun x hx => ?_, h3.2.2⟩
  · rw [g4]
    refine List.map_congr_left fun x hx => ?_
    obtain ⟨kd, ⟨q1, _⟩, _⟩ := DN.mem h4 x hx
    show (⟨khash x.1, .ref x.2.1, x.2.2⟩ : DictEntry) = ⟨x.1.hash X.w, .ref x.2.1, x.2.2⟩
    rw [khash_eq X.w q1]
  · obtain ⟨kd, ⟨q1, q2⟩, q3⟩ := DN.mem h4 x hx
    exact ⟨nest_of I ok.vis q3 rfl q1, q2⟩
/-- what the dict holds at a key -/
def fndN (kvs : List (D × D)) (k : NestedKey) : Option D := match kvs with
  | [] => none
  | p :: r => if nkD p.1 = some k then some p.2 else fndN r k
def putN (kvs : List (D × D)) (k : NestedKey) (i d : D) : List (D × D) := if (fndN kvs k).isSome = true then kvs.map fun p => if nkD p.1 = some k then (p.1, d) else p else kvs ++ [(i, d)]
theorem at_cons {x : NestedKey × Addr × Value} {xs : List (NestedKey × Addr × Value)} {k : NestedKey} : atKey (x :: xs) k = if x.1 = k then some x.2 else atKey xs k := by
  unfold atKey
  rw [List.find?_cons]
  by_cases e : x.1 = k
  · rw [decide_eq_true e, if_pos e]; rfl
  · rw [decide_eq_false e, if_neg e]
theorem DN.find {K : PySem.W.Frag} {k : NestedKey} : ∀ {kvs : List (D × D)} {xs : List (NestedKey × Addr × Value)}, DN K W kvs xs → (fndN kvs k = none ∧ atKey xs k = none) ∨ ∃ d b u v, fndN kvs k = some d ∧ atKey xs k = some (b, u) ∧ Rep K W d v ∧ RelV v u
  | [], xs, h => by rw [show xs = [] from h]; exact .inl ⟨rfl, rfl⟩
  | p :: r, _, ⟨k', b, u, v, r', e1, ⟨e2, _⟩, e3, ⟨e4, e5⟩, e6⟩ => by
    subst e1
    rw [at_cons]
    by_cases e : k' = k
    · subst e
      exact .inr ⟨p.2, b, u, v, by unfold fndN; rw [if_pos e2], if_pos rfl, e4, e5⟩
    · rw [if_neg e]
      have : fndN (p :: r) k = fndN r k := by
        show (if nkD p.1 = some k then some p.2 else fndN r k) = _
        rw [if_neg (by rw [e2]; exact fun z => e (Option.some.inj z))]
      rw [this]
      exact DN.find e6
/-- a key -/
def keyD (d : D) : Option NestedKey := match d with
  | .tup xs => (nkD (.tup xs)).bind fun k => if k.depth ≤ 8 then some k else none
  | _ => none
theorem keyD_ex {d : D} {k : NestedKey} (h : keyD d = some k) : (nkD d = some k ∧ k.depth ≤ 8) ∧ ∃ xs, d = .tup xs := by
  cases d with
  | tup xs =>
    have h' : ((nkD (.tup xs)).bind fun k => if k.depth ≤ 8 then some k else none) = some k := h
    obtain ⟨k', e1, e2⟩ := Option.bind_eq_some_iff.mp h'
    by_cases q : k'.depth ≤ 8
    · rw [if_pos q] at e2; cases e2; exact ⟨⟨e1, q⟩, _, rfl⟩
    · rw [if_neg q] at e2; cases e2
  | _ => cases h
def dnAt (S : Sto) (y : D) (k : Addr → List (D × D) → Prop) : Prop := match y with
  | .ref a => match S a with
    | some (.dN a' kvs) => a' = a ∧ k a kvs
    | _ => False
  | _ => False
theorem dnAt_ex {S : Sto} {y : D} {k : Addr → List (D × D) → Prop} (h : dnAt S y k) : ∃ a kvs, y = .ref a ∧ S a = some (.dN a kvs) ∧ k a kvs := by
  cases y with
  | ref a =>
    have h' : (match S a with | some (.dN a' kvs) => a' = a ∧ k a kvs | _ => False) := h
    cases q : S a with
    | none => rw [q] at h'; exact h'.elim
    | some m =>
      rw [q] at h'
      cases m with
      | dN a' kvs => obtain ⟨rfl, h'⟩ := h'; exact ⟨_, kvs, rfl, q, h'⟩
      | _ => exact h'.elim
  | _ => exact h.elim
theorem dnAt_mk {S : Sto} {a : Addr} {kvs : List (D × D)} {k : Addr → List (D × D) → Prop} (h : S a = some (.dN a kvs)) (q : k a kvs) : dnAt S (.ref a) k := by
  show (match S a with | some (.dN a' kvs) => a' = a ∧ k a kvs | _ => False)
  rw [h]
  exact ⟨rfl, q⟩
def oInN (neg : Bool) : O2 := fun S x y Q => dnAt S y fun _ kvs => some! (keyD x) fun k => Q (.bl (if neg = true then !(fndN kvs k).isSome else (fndN kvs k).isSome)) S
theorem room_in1 {A : Around} (hu : A.units + 64 < cLine) : (nestedKind X.prog X.w).room A.in1 := by
  show A.in1.units + 8 < cLine
  have : A.in1.units ≤ A.units + 1 := by first | exact Nat.le_refl _ | (unfold Around.in1; split <;> simp) | (show _ ≤ _; simp [Around.in1, Around.units])
  omega
theorem DN.some_eq {K : PySem.W.Frag} {k : NestedKey} {kvs : List (D × D)} {xs : List (NestedKey × Addr × Value)} (h : DN K W kvs xs) : (fndN kvs k).isSome = (atKey xs k).isSome := by
  rcases h.find (k := k) with ⟨e1, e2⟩ | ⟨d, b, u, v, e1, e2, _⟩ <;> rw [e1, e2] <;> rfl
end
theorem opd_inN {X : Cx} (hu : X.A.units + 64 < cLine) : OpR X (compareOp .In) (lOp X.K (oInN false)) := fun pins s σ H x y v u Q I rx ry h => by
  obtain ⟨W, S, a, b, Q0, ok, ra, rb, ho, cv⟩ := h
  obtain ⟨p, kvs, rfl, hS, ho⟩ := dnAt_ex ho
  obtain ⟨k, hk, hq0⟩ := some!_ex ho
  obtain ⟨⟨k1, k2⟩, xs, rfl⟩ := keyD_ex hk
  obtain ⟨es, h1, dn, ⟨z1, z2, z3⟩, dd⟩ := dict_at I ok hS
  obtain ⟨q, vs, rfl, hq, rv⟩ := id ra
  obtain rfl : v = Value.ref q := rx
  rw [show y = V.ref p from rb] at ry
  obtain rfl : u = Value.ref p := ry
  refine wpAny_in_heap (room_in1 hu) ⟨nest_of I ok.vis ra rfl k1, k2⟩ z2 dd ?_
  rw [← dn.some_eq]
  exact ⟨.bl (fndN kvs k).isSome, H, I.tok _, rfl, cv (.bl (fndN kvs k).isSome) S _ W H (by simpa using hq0) Stp.refl ok rfl⟩
theorem opd_notInN {X : Cx} (hu : X.A.units + 64 < cLine) : OpR X (compareOp .NotIn) (lOp X.K (oInN true)) := fun pins s σ H x y v u Q I rx ry h => by
  obtain ⟨W, S, a, b, Q0, ok, ra, rb, ho, cv⟩ := h
  obtain ⟨p, kvs, rfl, hS, ho⟩ := dnAt_ex ho
  obtain ⟨k, hk, hq0⟩ := some!_ex ho
  obtain ⟨⟨k1, k2⟩, xs, rfl⟩ := keyD_ex hk
  obtain ⟨es, h1, dn, ⟨z1, z2, z3⟩, dd⟩ := dict_at I ok hS
  obtain ⟨q, vs, rfl, hq, rv⟩ := id ra
  obtain rfl : v = Value.ref q := rx
  rw [show y = V.ref p from rb] at ry
  obtain rfl : u = Value.ref p := ry
  refine wpAny_notIn_heap (room_in1 hu) ⟨nest_of I ok.vis ra rfl k1, k2⟩ z2 dd ?_
  rw [← dn.some_eq]
  exact ⟨.bl (!(fndN kvs k).isSome), H, I.tok _, rfl, cv (.bl (!(fndN kvs k).isSome)) S _ W H (by simpa using hq0) Stp.refl ok rfl⟩
end DL
set_option Elab.async false
set_option linter.all false
set_option maxRecDepth 100000
set_option maxHeartbeats 1000000
/-! The data layer, part q: dicts with tuple keys: written, made, read. -/
namespace DL
open PySem PySem.Spec PyProof.Rows L2
section
variable {X : Cx} {pins : List (Addr × Obj)} {σ : L2.St} {H W : Hp} {s : Shared}
theorem DN.snoc {K : PySem.W.Frag} {i d : D} {k : NestedKey} {b : Addr} {u : Value} {v : V} (hk : nkD i = some k ∧ k.depth ≤ 8) (ri : Rep K W i (.ref b)) (rd : Rep K W d v ∧ RelV v u) : ∀ {kvs : List (D × D)} {xs : List (NestedKey × Addr × Value)}, DN K W kvs xs → DN K W (kvs ++ [(i, d)]) (xs ++ [(k, b, u)])
  | [], xs, h => by rw [show xs = [] from h]; exact ⟨k, b, u, v, [], rfl, hk, ri, rd, rfl⟩
  | p :: r, _, ⟨k', b', u', v', r', e1, e2, e3, e4, e6⟩ => by
    subst e1
    exact ⟨k', b', u', v', _, rfl, e2, e3, e4, DN.snoc hk ri rd e6⟩
theorem DN.upd {K : PySem.W.Frag} {d : D} {k : NestedKey} {u : Value} {v : V} (rd : Rep K W d v ∧ RelV v u) : ∀ {kvs : List (D × D)} {xs : List (NestedKey × Addr × Value)}, DN K W kvs xs →
    DN K W (kvs.map fun p => if nkD p.1 = some k then (p.1, d) else p) (xs.map (putAt k u))
  | [], xs, h => by rw [show xs = [] from h]; rfl
  | p :: r, _, ⟨k', b', u', v', r', e1, e2, e3, e4, e6⟩ => by
    subst e1
    rw [List.map_cons, List.map_cons]
    by_cases e : k' = k
    · subst e
      rw [if_pos e2.1]
      refine ⟨k', b', u, v, _, ?_, e2, e3, rd, DN.upd rd e6⟩
      rw [show putAt k' u (k', b', u') = (k', b', u) from if_pos rfl]
    · rw [if_neg (by rw [e2.1]; exact fun z => e (Option.some.inj z))]
      refine ⟨k', b', u', v', _, ?_, e2, e3, e4, DN.upd rd e6⟩
      rw [show putAt k u (k', b', u') = (k', b', u') from if_neg e]
theorem DN.put {K : PySem.W.Frag} {i d : D} {k : NestedKey} {b : Addr} {u : Value} {v : V} {kvs : List (D × D)} {xs : List (NestedKey × Addr × Value)} (h : DN K W kvs xs) (hk : nkD i = some k ∧ k.depth ≤ 8) (ri : Rep K W i (.ref b)) (rd : Rep K W d v ∧ RelV v u) :
    DN K W (putN kvs k i d) (storedH xs k b u) := by
  unfold putN storedH
  rw [h.some_eq (k := k)]
  by_cases e : (atKey xs k).isSome = true
  · rw [if_pos e, if_pos e]; exact h.upd rd
  · rw [if_neg e, if_neg e]; exact h.snoc hk ri rd
theorem putN_len {kvs : List (D × D)} {k : NestedKey} {i d : D} : (putN kvs k i d).length ≤ kvs.length + 1 := by
  unfold putN
  split
  · rw [List.length_map]; omega
  · rw [List.length_append]; exact Nat.le_refl _
/-- the object of a dict, told by its entries -/
theorem dn_obj {P : Program} {w : World} {H' : Hp} {h' : Heap} {a : Addr} {kvs : List (D × D)} {xs : List (NestedKey × Addr × Value)} (dn : DN X.K W kvs xs) (dd : h'.DictOfH (nestedKind P w) a xs) : ObjOk P w H' h' a (.ext (dnP a xs)) := by
  obtain ⟨o, es, ep, h1, h2, h3, h4, _, _⟩ := dd
  refine ⟨⟨o, es, ep, h1, h2, h3, ?_⟩, ⟨o, h1⟩, fun k1 k2 ⟨o', es', ep', g1, g2⟩ e => ⟨o', es', ep', e _ g1, g2⟩⟩
  rw [h4]
  refine List.map_congr_left fun x hx => ?_
  obtain ⟨kd, ⟨q1, _⟩, _⟩ := DN.mem dn x hx
  show (⟨x.1.hash w, .ref x.2.1, x.2.2⟩ : DictEntry) = ⟨khash x.1, .ref x.2.1, x.2.2⟩
  rw [khash_eq w q1]
/-- o[i] = e for a dict with tuple keys -/
def setN (S : Sto) (o i d : D) (k : Sto → Prop) : Prop := dnAt S o fun a kvs => some! (keyD i) fun key => kvs.length < sizeLine ∧ k (DL.put S a (.dN a (putN kvs key i d)))
def wSetN (wo wi we : WPe) : WPs := fun env S q => we env S (fun d S1 => wo env S1 (fun o S2 => wi env S2 (fun i S3 => setN S3 o i d fun S4 => q.nx env S4) (xcQ q env)) (xcQ q env)) (xcQ q env)
def lSetN (K : PySem.W.Frag) : TSet := fun o i v H Q => ∃ W S od id vd k, Ok K W S H ∧ Rep K W od o ∧ Rep K W id i ∧ Rep K W vd v ∧ setN S od id vd k ∧ ∀ S' H', k S' → Stp W S H W S' H' → Ok K W S' H' → Q H'
theorem set_N (hu : X.A.units + 64 < cLine) : PSet X (lSetN X.K) := by
  intro pins s σ H o i v ov iv u Q I ro ri rv ⟨W, S, od, id_, vd, k, ok, r1, r2, r3, hs, hq⟩
  obtain ⟨a, kvs, rfl, hS, hs⟩ := dnAt_ex hs
  obtain ⟨key, hk, hz, hk2⟩ := some!_ex hs
  obtain ⟨⟨k1, k2⟩, xs0, rfl⟩ := keyD_ex hk
  rw [show o = V.ref a from r1] at ro
  obtain rfl : ov = Value.ref a := ro
  obtain ⟨b, vs, rfl, hq0, rv0⟩ := id r2
  obtain rfl : iv = Value.ref b := ri
  obtain ⟨xs, h1, dn, ⟨z1, z2, z3⟩, dd⟩ := dict_at I ok hS
  have hl := dn.length
  have hlN : (putN kvs key (.tup xs0) vd).length ≤ kvs.length + 1 := putN_len
  refine wpAny_setItem_heap (hsz := by omega) (room_in1 hu) ⟨nest_of I ok.vis r2 rfl k1, k2⟩ dd fun h' dd' hsb => ?_
  have dn' := dn.put ⟨k1, k2⟩ r2 ⟨r3, rv⟩
  have he : ∃ q, h'.get? a = some q := let ⟨q, _, _, hq, _⟩ := dd'; ⟨q, hq⟩
  refine ⟨L2.upd H a (.ext (dnP a (storedH xs key b u))), d_write I (by rw [h1]; exact True.intro) hsb he (dn_obj dn' dd'), hq _ _ hk2 (ok.stC hS) (ok.chg hS ⟨_, rfl, ⟨by omega, z2, ?_⟩, dn'⟩)⟩
  obtain ⟨_, _, _, _, _, _, _, _, nd⟩ := dd'
  exact nd
theorem pds_setN {X : Cx} {o ip e : Expr} {wo wi we : WPe} {pos p2 : Pos} (hu : X.A.units + 64 < cLine) (ho : PD X o wo) (hi : PD X ip wi) (he : PD X e we) (hs : swapsWithSole [.Subscript o ip p2] e pos.line X.env = pure false := by rfl) (hw : swappedStores [.Subscript o ip p2] e X.env = pure none := by rfl)
    (h1 : (assignEach [.Subscript o ip p2] X.env).map (·.2) = [assign (.Subscript o ip p2) X.env] := by rfl)
    (ha : ∀ v, assign (.Subscript o ip p2) X.env v = (do
      let ov ← holding [v] (eval o X.env)
      let iv ← holding [v, ov] (eval ip X.env)
      standAt p2
      holding [v, ov, iv] (setItem ov iv v)
      release [v, ov, iv] []) := by intro _; rfl) : PDs X (.Assign [.Subscript o ip p2] e pos) (wSetN wo wi we) :=
  ⟨fun Wx tk => PS.imp (ps_asg (he.run Wx tk) (pg_sub (ho.run Wx tk) (hi.run Wx tk) (set_N hu) ha) hs hw h1) fun D σ H ⟨W, env, S, q, ok, sl, hl, hw, cs⟩ => ⟨W, env, S, _, _, ok, sl, hw, fun d S1 v W1 H1 h1 s1 ok1 r1 =>
    ⟨W1, env, S1, _, _, ok1, sl.mono s1.vis, h1, fun o1 S2 u W2 H2 h2 s2 ok2 r2 => ⟨W2, env, S2, _, _, ok2, sl.mono (s1.trans s2).vis, h2, fun i1 S3 t W3 H3 h3 s3 ok3 r3 =>
      ⟨W3, S3, o1, i1, d, _, ok3, r2.mono s3.vis, r3, r1.mono (s2.trans s3).vis, h3, fun S4 H4 h4 st4 ok4 => cs.nx _ S4 _ W3 _ h4 (s1.trans (s2.trans (s3.trans st4))) ok4 (sl.mono (s1.trans (s2.trans s3)).vis) hl⟩, CXc.of (cs.mono (s1.trans s2)) (sl.mono (s1.trans s2).vis)⟩, CXc.of (cs.mono s1) (sl.mono s1.vis)⟩, CXc.of cs sl⟩⟩
end
/-- {k: v} -/
def wDict1 (wk wv : WPe) : WPe := fun env S Q X => wk env S (fun kd S1 => wv env S1 (fun vd S2 => some! (keyD kd) fun _ => ∀ p, S2 p = none → Q (.ref p) (DL.put S2 p (.dN p [(kd, vd)]))) X) X
theorem Stp.grow {W : Hp} {S : Sto} {H H1 : Hp} (h : ∀ a o, H a = some o → H1 a = some o) : Stp W S H W S H1 := ⟨Same.refl W, fun a o e h1 h2 => ⟨h a o e, h1, h2⟩⟩
theorem pd_dict1 {X : Cx} {ek ev : Expr} {pos : Pos} {wk wv : WPe} (hu : X.A.units + 64 < cLine) (hk : PD X ek wk) (hv : PD X ev wv) : PD X (.Dict [some ek] [ev] pos) (wDict1 wk wv) := by
  refine ⟨fun Wx tk => ⟨fun pins s σ H Q I h => ?_⟩⟩
  obtain ⟨W, env, S, Q0, X1, ok, sl, hw, cv, cx⟩ := h
  refine wpAny_Dict_any rfl rfl (by simp) (by show 1 ≤ 15; omega) ?_
  have hp : H s.heap.objs.size = none := I.hok.fresh (Nat.le_refl _)
  have hnm : (s.heap.objs.size == sysModules) = false := beq_eq_false_iff_ne.mpr (Ne.symm (Nat.ne_of_lt I.big))
  have new0 : ∀ H', ObjOk X.prog X.w H' (s.heap.push { cls := .type "dict", data := .dict #[] }) s.heap.objs.size (.ext (dnP s.heap.objs.size [])) := fun H' =>
    ⟨⟨_, #[], 0, Heap.get?_push_size _ rfl, ⟨rfl, rfl, rfl⟩, rfl, rfl⟩, ⟨_, Heap.get?_push_size _ rfl⟩, fun k1 k2 ⟨o', es', ep', g1, g2⟩ e => ⟨o', es', ep', e _ g1, g2⟩⟩
  have I1 := I.laid (a := s.heap.objs.size) (o := .ext (dnP s.heap.objs.size [])) (t' := s.toks) (fun _ _ q => Heap.get?_push_of_some _ q) (Nat.le_refl _) (new0 _)
  generalize s.heap.objs.size = p at hp hnm I1
  obtain ⟨hW, hS⟩ := ok.fresh hp
  have ok1 := ok.junk (o := .ext (dnP p [])) hp
  have st1 := ok.stJ (o := .ext (dnP p [])) hp
  show wpAny _ _ (evalPairs [(eval ek X.env, do let x ← eval ev X.env; standAt pos; pure x)]) _ _ _
  refine evalPairs_cons ?_
  refine thn ((hk.run Wx tk).run pins _ σ _ _ I1 ⟨W, env, S, _, X1, ok1, sl, hw, fun kd S2 v2 W2 H2 h2 s2 ok2 r2 => (⟨W2, S2, kd, h2, s2, ok2, r2⟩ : ∃ W2 S2 kd, (fun kd S1 => wv env S1 (fun vd S2 => some! (keyD kd) fun _ => ∀ p, S2 p = none → Q0 (.ref p) (DL.put S2 p (.dN p [(kd, vd)]))) X1) kd S2 ∧ Stp W S (L2.upd H p (.ext (dnP p []))) W2 S2 H2 ∧ Ok X.K W2 S2 H2 ∧ Rep X.K W2 kd v2), cx.mono st1⟩) ?_
  rintro uk s2 ⟨vk, H2, I2, rk, W2, S2, kd, h2, st2, ok2, r2⟩
  refine wpAny_bind (thn ((hv.run Wx tk).run pins _ σ _ _ I2 ⟨W2, env, S2, _, X1, ok2, sl.mono st2.vis, h2, fun vd S3 v3 W3 H3 h3 s3 ok3 r3 => (⟨W3, S3, vd, h3, s3, ok3, r3⟩ : ∃ W3 S3 vd, (fun vd S2 => some! (keyD kd) fun _ => ∀ p, S2 p = none → Q0 (.ref p) (DL.put S2 p (.dN p [(kd, vd)]))) vd S3 ∧ Stp W2 S2 H2 W3 S3 H3 ∧ Ok X.K W3 S3 H3 ∧ Rep X.K W3 vd v3), cx.mono (st1.trans st2)⟩) ?_)
  rintro uv s3 ⟨vv, H3, I3, rv, W3, S3, vd, h3, st3, ok3, r3⟩
  refine wpAny_bind (wpAny_standAt (wpAny_pure ?_))
  refine evalPairs_nil ?_
  obtain ⟨key, hkey, hq⟩ := some!_ex h3
  obtain ⟨⟨k1, k2⟩, xs0, rfl⟩ := keyD_ex hkey
  have r2' := r2.mono st3.vis
  obtain ⟨b, vs, rfl, hq0, rv0⟩ := id r2'
  obtain rfl : uk = Value.ref b := rk
  have stA := (st2.trans st3)
  obtain ⟨e1, e2, e3⟩ := stA.frm p _ upd_same hW hS
  obtain ⟨⟨ob, es, ep, g1, g2, g3, g4⟩, _, _⟩ := (show ObjOk X.prog X.w H3 s3.heap p (.ext (dnP p [])) from I3.hok p _ e1)
  have dd : s3.heap.DictOfH (nestedKind X.prog X.w) p [] := ⟨ob, es, ep, g1, g2, g3, g4, (fun x hx => by cases hx), List.nodup_nil⟩
  show wpAny _ _ (storeAll p [(Value.ref b, uv)]) _ _ _
  unfold storeAll
  rw [List.forIn_cons]
  refine wpAny_bind (wpAny_bind (wpAny_dictSet_heap (knd := nestedKind X.prog X.w) (hsz := Nat.zero_le _) (show X.A.units + 8 < cLine by omega) ⟨nest_of I3 ok3.vis r2' rfl k1, k2⟩ dd fun h' dd' hsb => wpAny_pure ?_))
  dsimp only
  rw [List.forIn_nil]
  refine wpAny_pure ?_
  have dn' : DN X.K W3 [(.tup xs0, vd)] (storedH [] key b uv) := ⟨key, b, uv, vv, [], rfl, ⟨k1, k2⟩, r2', ⟨r3, rv⟩, rfl⟩
  have he : ∃ q, h'.get? p = some q := let ⟨q, _, _, hq, _⟩ := dd'; ⟨q, hq⟩
  have I4 := d_write (t' := s3.toks + (nestedKind X.prog X.w).draws key) I3 (by rw [e1]; exact True.intro) hsb he (dn_obj dn' dd')
  obtain ⟨_, _, _, _, _, _, _, _, nd⟩ := dd'
  have stB : Stp W S H W3 S3 H3 := st1.trans stA
  have ok4 := (ok3.out (o := .ext (dnP p (storedH [] key b uv))) e2 e3).own (m := .dN p [(.tup xs0, vd)]) e2 upd_same ⟨_, rfl, ⟨by show 1 ≤ sizeLine; decide, hnm, nd⟩, dn'⟩
  exact ⟨.ref p, _, I4, rfl, cv _ _ _ _ _ (hq p e3) ((stB.own hp).out hp) ok4 rfl⟩
/-- a bool in a list or tuple of bools -/
def oInB : O2 := fun S x y Q => match x with
  | .bl k => some! (seqA S y) fun xs => some! (toBls xs) fun bs => Q (.bl (bs.any fun b => b == k)) S
  | _ => False
def oNotInB : O2 := fun S x y Q => match x with
  | .bl k => some! (seqA S y) fun xs => some! (toBls xs) fun bs => Q (.bl (!(bs.any fun b => b == k))) S
  | _ => False
theorem inV_bl {k : Bool} : ∀ {bs : List Bool}, inV (.bl k) (bs.map V.bl) = (bs.any fun b => b == k) ∧ (bs.map V.bl).all flatV = true
  | [] => ⟨rfl, rfl⟩
  | b :: r => by
    obtain ⟨h1, h2⟩ := inV_bl (k := k) (bs := r)
    refine ⟨?_, h2⟩
    show ((b == k) || inV (.bl k) (r.map V.bl)) = ((b == k) || r.any fun b => b == k)
    rw [h1]
theorem opd_inB {X : Cx} : OpR X (compareOp .In) (lOp X.K oInB) := OpR.imp op_in_seq fun x y H Q ⟨W, S, a, b, Q0, ok, ra, rb, ho, cv⟩ => by
  cases a with
  | bl k =>
    obtain ⟨xs, e1, ho⟩ := some!_ex ho
    obtain ⟨bs, e2, ho⟩ := some!_ex ho
    obtain ⟨p, vs, rfl, hq, r1⟩ := seqA_rep ok rb e1
    have e3 := toBls_rep e2 r1
    subst e3
    have e4 : x = V.bl k := ra
    subst e4
    refine ⟨p, _, rfl, hq, rfl, (inV_bl (k := k)).2, ?_⟩
    rw [inV_bl.1]
    exact cv _ S _ W H ho Stp.refl ok rfl
  | _ => exact ho.elim
theorem opd_notInB {X : Cx} : OpR X (compareOp .NotIn) (lOp X.K oNotInB) := OpR.imp op_notIn_seq fun x y H Q ⟨W, S, a, b, Q0, ok, ra, rb, ho, cv⟩ => by
  cases a with
  | bl k =>
    obtain ⟨xs, e1, ho⟩ := some!_ex ho
    obtain ⟨bs, e2, ho⟩ := some!_ex ho
    obtain ⟨p, vs, rfl, hq, r1⟩ := seqA_rep ok rb e1
    have e3 := toBls_rep e2 r1
    subst e3
    have e4 : x = V.bl k := ra
    subst e4
    refine ⟨p, _, rfl, hq, rfl, (inV_bl (k := k)).2, ?_⟩
    rw [inV_bl.1]
    exact cv _ S _ W H ho Stp.refl ok rfl
  | _ => exact ho.elim
/-- d[k] -/
def oIxN : O2 := fun S x y Q => dnAt S x fun _ kvs => some! (keyD y) fun k => some! (fndN kvs k) fun d => Q d S
end DL
set_option Elab.async false
set_option linter.all false
set_option maxRecDepth 100000
set_option maxHeartbeats 1000000
/-! The data layer, part r: data in a list or tuple of data, the index of data, len of a dict with tuple keys, its d[k]. -/
namespace DL
open PySem PySem.Spec PyProof.Rows L2
theorem dp_lay {K : PySem.W.Frag} {W H : Hp} {S : Sto} (ok : Ok K W S H) {d : D} {v : V} (r : Rep K W d v) (c0 : (toP (resD S d)).canLay0 = true) : Dp K H v (toP (resD S d)) := by
  cases d with
  | ref a =>
    have e : resD S (.ref a) = (match S a with | some (.lst xs) => .lst xs | _ => .ref a) := rfl
    cases q : S a with
    | none => rw [e, q] at c0; cases c0
    | some m =>
      cases m with
      | lst xs =>
        rw [e, q] at c0 ⊢
        obtain ⟨o, e1, vs, e2, e3⟩ := ok.sto _ _ q
        subst e2
        have r' : v = .ref a := r
        subst r'
        exact .lst (SqL.of e1) (dps_of ok.vis e3 c0)
      | _ => rw [e, q] at c0; cases c0
  | _ => exact dp_of ok.vis r c0
def itP : PyData → Option (List PyData)
  | .list xs => some xs
  | .tuple xs => some xs
  | _ => none
/-- how data stands, where it is flat enough to be asked for -/
def layP (S : Sto) (x : D) : Prop := (toP (resD S x)).canLay0 = true ∧ (toP (resD S x)).depth ≤ 8
def hasD (x : PyData) (xs : List PyData) : Bool := xs.any fun y => PyData.eqv y x
def oInD (neg : Bool) : O2 := fun S x y Q => layP S x ∧ (toP (resD S y)).canLay0 = true ∧ some! (itP (toP (resD S y))) fun xs => Q (.bl (if neg = true then !hasD (toP (resD S x)) xs else hasD (toP (resD S x)) xs)) S
theorem opd_inD {X : Cx} (hu : X.A.units + 64 < cLine) : OpR X (compareOp .In) (lOp X.K (oInD false)) := fun pins s σ H x y v u Q I rx ry h => by
  obtain ⟨W, S, a, b, Q0, ok, ra, rb, ⟨⟨h1, h2⟩, h3, h4⟩, cv⟩ := h
  obtain ⟨xs, hxs, ho⟩ := some!_ex h4
  obtain ⟨as, r1⟩ := Dp.reads I _ x v (dp_lay ok ra h1) rx
  obtain ⟨bs, r2⟩ := Dp.reads I _ y u (dp_lay ok rb h3) ry
  have hd := PyData.plain_of_canLay0 _ h1
  generalize toP (resD S a) = da at *
  have fin : ∀ s, L2.Inv X pins σ H s → EP X pins σ Q (.bool (xs.any fun y => PyData.eqv y da)) s := fun s I => ⟨.bl (hasD da xs), H, I, rfl, cv (.bl (hasD da xs)) S _ W H (by simpa using ho) Stp.refl ok rfl⟩
  generalize toP (resD S b) = db at *
  cases db with
  | list ys =>
    cases (show some ys = some xs from hxs)
    have hxs' : PyData.plainAll xs = true := PyData.plainAll_of_canLay0 _ (show PyData.canLayAll0 xs = true from h3)
    exact SeqAt.in_list_data r2 r1 hxs' hd (by have := Nat.min_le_right (PyData.depthAll xs) da.depth; omega) (fin _ I)
  | tuple ys =>
    cases (show some ys = some xs from hxs)
    have hxs' : PyData.plainAll xs = true := PyData.plainAll_of_canLay0 _ (show PyData.canLayAll0 xs = true from h3)
    exact SeqAt.in_tuple_data r2 r1 hxs' hd (by have := Nat.min_le_right (PyData.depthAll xs) da.depth; omega) (fin _ I)
  | _ => cases hxs
theorem opd_notInD {X : Cx} (hu : X.A.units + 64 < cLine) : OpR X (compareOp .NotIn) (lOp X.K (oInD true)) := fun pins s σ H x y v u Q I rx ry h => by
  obtain ⟨W, S, a, b, Q0, ok, ra, rb, ⟨⟨h1, h2⟩, h3, h4⟩, cv⟩ := h
  obtain ⟨xs, hxs, ho⟩ := some!_ex h4
  obtain ⟨as, r1⟩ := Dp.reads I _ x v (dp_lay ok ra h1) rx
  obtain ⟨bs, r2⟩ := Dp.reads I _ y u (dp_lay ok rb h3) ry
  have hd := PyData.plain_of_canLay0 _ h1
  generalize toP (resD S a) = da at *
  have fin : ∀ s, L2.Inv X pins σ H s → EP X pins σ Q (.bool (!xs.any fun y => PyData.eqv y da)) s := fun s I => ⟨.bl (!hasD da xs), H, I, rfl, cv (.bl (!hasD da xs)) S _ W H (by simpa using ho) Stp.refl ok rfl⟩
  generalize toP (resD S b) = db at *
  cases db with
  | list ys =>
    cases (show some ys = some xs from hxs)
    have hxs' : PyData.plainAll xs = true := PyData.plainAll_of_canLay0 _ (show PyData.canLayAll0 xs = true from h3)
    exact SeqAt.notIn_list_data r2 r1 hxs' hd (by have := Nat.min_le_right (PyData.depthAll xs) da.depth; omega) (fin _ I)
  | tuple ys =>
    cases (show some ys = some xs from hxs)
    have hxs' : PyData.plainAll xs = true := PyData.plainAll_of_canLay0 _ (show PyData.canLayAll0 xs = true from h3)
    exact SeqAt.notIn_tuple_data r2 r1 hxs' hd (by have := Nat.min_le_right (PyData.depthAll xs) da.depth; omega) (fin _ I)
  | _ => cases hxs
/-- len(d) of a dict with tuple keys -/
def oLenN : OC := fun S ds Q => one ds fun d => dnAt S d fun _ kvs => Q (.int (kvs.length : Nat)) S
theorem DN.len {K : PySem.W.Frag} {W : Hp} : ∀ {kvs : List (D × D)} {xs : List (NestedKey × Addr × Value)}, DN K W kvs xs → kvs.length = xs.length
  | [], xs, h => by rw [show xs = [] from h]; rfl
  | p :: r, _, ⟨k', b, u, v, r', e1, _, _, _, e6⟩ => by
    subst e1
    rw [List.length_cons, List.length_cons, DN.len e6]
theorem cd_lenN {X : Cx} : CallR X (.builtin "len") (lC X.K oLenN) := by
  intro pins s σ H vs us Q I r ⟨W, S, ds, Q0, ok, rd, ho, cv⟩
  obtain ⟨d, rfl, ho⟩ := one_ex ho
  obtain ⟨p, kvs, rfl, hS, ho⟩ := dnAt_ex ho
  obtain ⟨v, rfl, rv⟩ := reps1 rd
  obtain ⟨u, rfl, rx⟩ := vals1 r
  rw [show v = V.ref p from rv] at rx
  obtain rfl : u = Value.ref p := rx
  obtain ⟨es, h1, dn, ⟨z1, z2, z3⟩, dd⟩ := dict_at I ok hS
  have hl := dn.len
  refine call_len_dictH z2 dd (by rw [← hl]; have := z1; rw [sizeLine_eq] at this; omega) ?_
  rw [← hl]
  exact ⟨.int ((kvs.length : Nat) : Int), H, I.tok _, ⟨_, rfl⟩, cv _ S _ W H ho Stp.refl ok rfl⟩
/-- xs.index(e), found -/
def oIndex : OM := fun S d ds Q => mutL S d fun _ xs => one ds fun e => layP S e ∧ PyData.canLayAll0 (toPs xs) = true ∧ xs.length ≤ sizeLine ∧
  ∃ (k : Nat) (y : PyData), (toPs xs)[k]? = some y ∧ PyData.eqv y (toP (resD S e)) = true ∧ (∀ (m : Nat) z, m < k → (toPs xs)[m]? = some z → PyData.eqv z (toP (resD S e)) = false) ∧ Q (.int (k : Nat)) S
theorem md_index {X : Cx} (hu : X.A.units + 64 < cLine) : MtR X "list.index" (lM X.K oIndex) := by
  intro pins s σ H x vs v us Q I rx rv ⟨W, S, d, ds, Q0, ok, r, rs, ho, cv⟩
  obtain ⟨a, xs, ws, rfl, rfl, e1, e2, rvv, h⟩ := mutL_rep ok r ho
  obtain ⟨e, rfl, ⟨l1, l2⟩, c2, c3, k, y, k1, k2, k3, q⟩ := one_ex h
  obtain ⟨w, rfl, rw_⟩ := reps1 rs
  obtain ⟨u, rfl, ru⟩ := rv.one
  cases rx
  obtain ⟨z, its, n, rI, hl, eI⟩ := I.lstM e2
  obtain ⟨bs, r1⟩ := Dp.reads I _ w u (dp_lay ok rw_ l1) ru
  obtain ⟨as, r2⟩ := Dp.readsAll I _ ws its (dps_of ok.vis rvv c2) rI
  have hd := PyData.plain_of_canLay0 _ l1
  have hxs := PyData.plainAll_of_canLay0 _ c2
  have em := SeqAt.readsAll_map_plain _ _ _ hxs r2
  have at_ : ∀ (m : Nat) (t : Value), its[m]? = some t → (toPs xs)[m]? = some (SeqAt.readOf s.heap t) := fun m t ht => by
    rw [← em, List.getElem?_map, ht]; rfl
  obtain ⟨t, ht, et⟩ : ∃ t, its[k]? = some t ∧ SeqAt.readOf s.heap t = y := by
    rw [← em, List.getElem?_map] at k1
    obtain ⟨t, h1, h2⟩ := Option.map_eq_some_iff.mp k1
    exact ⟨t, h1, h2⟩
  have hk := lt_of_some ht
  have hits : its.length = xs.length := by
    have h1 := congrArg List.length em
    have h2 : ∀ xs : List D, (toPs xs).length = xs.length := fun xs => by
      induction xs with
      | nil => rfl
      | cons x r ih => show (toPs r).length + 1 = _; rw [ih]; rfl
    rw [List.length_map, h2] at h1
    exact h1
  have hz := c3
  rw [sizeLine_eq] at hz
  have hEq := SeqAt.items_plain (A := X.A) (vs := its.toArray) (by simpa using r2) r1 hxs hd (by have := Nat.min_le_right (PyData.depthAll (toPs xs)) (toP (resD S e)).depth; omega)
  generalize toP (resD S e) = de at *
  refine call_meets F.slot_list_index ⟨_, eI, rfl⟩ F.entry_list_index (F.args_list_index_2 _ _)
    (SeqAt.list_index2_found a its.toArray n none #[] u (fun j => PyData.eqv (SeqAt.readOf s.heap (its[j]?.getD .none)) de) k (by simpa using hk) (Nat.zero_le _) (by omega) (by rw [ht]; show PyData.eqv (SeqAt.readOf s.heap t) de = true; rw [et]; exact k2) ?_) ⟨eI, fun j hj => ?_, ?_⟩
  · intro m hm _ hlt
    have hm' : m < its.length := by simpa using hm
    rw [List.getElem?_eq_getElem hm']
    exact k3 m _ hlt (at_ m _ (List.getElem?_eq_getElem hm'))
  · have hj' : j < its.length := by simpa using hj
    rw [List.getElem?_eq_getElem hj']
    exact hEq _ (by simp)
  · exact ⟨.int (k : Nat), H, I.tok _, ⟨_, rfl⟩, cv _ S _ W H q Stp.refl ok rfl⟩
/-- a, b = e -/
def wAsgG (t : WPg) (w : WPe) : WPs := fun env S q => w env S (fun d S1 => t d env fun e => q.nx e S1) (xcQ q env)
theorem pds_asgG {X : Cx} {tg e : Expr} {vs : List Nat} {t : WPg} {w : WPe} {pos : Pos} (he : PD X e w) (hg : PDg X tg vs t) (hs : swapsWithSole [tg] e pos.line X.env = pure false := by rfl) (hw : swappedStores [tg] e X.env = pure none := by rfl)
    (h1 : (assignEach [tg] X.env).map (·.2) = [assign tg X.env] := by rfl) : PDs X (.Assign [tg] e pos) (wAsgG t w) :=
  ⟨fun Wx tk => PS.imp (ps_asg (he.run Wx tk) hg.run hs hw h1) fun D σ H ⟨W, env, S, q, ok, sl, hl, hw, cs⟩ => ⟨W, env, S, _, _, ok, sl, hw, fun d S1 v W1 H1 h1 s1 ok1 r1 =>
    ⟨W1, S1, env, d, _, ok1, sl.mono s1.vis, hl, r1, h1, fun e σ' hk sl' hl' _ => cs.nx _ S1 _ W1 H1 hk s1 ok1 sl' hl'⟩, CXc.of cs sl⟩⟩
end DL
set_option Elab.async false
set_option linter.all false
set_option maxRecDepth 100000
set_option maxHeartbeats 4000000
namespace DL
open PySem PySem.Spec PyProof.Rows L2
/-- x < y of data that are alike (lists, tuples, ints) -/
def oLtD : O2 := fun S x y Q => layP S x ∧ layP S y ∧ PySem.W.alike (toP (resD S x)) (toP (resD S y)) = true ∧ toP (resD S x) ≠ .none ∧ Q (.bl (PySem.W.dataLt (toP (resD S x)) (toP (resD S y)))) S
theorem opd_ltD {X : Cx} (hu : X.A.units + 64 < cLine) : OpR X (compareOp .Lt) (lOp X.K oLtD) := fun pins s σ H x y v u Q I rx ry h => by
  obtain ⟨W, S, a, b, Q0, ok, ra, rb, ⟨⟨h1, h2⟩, ⟨h3, h4⟩, h5, h6, ho⟩, cv⟩ := h
  obtain ⟨as, r1⟩ := Dp.reads I _ x v (dp_lay ok ra h1) rx
  obtain ⟨bs, r2⟩ := Dp.reads I _ y u (dp_lay ok rb h3) ry
  exact PySem.W.lt_data r1 r2 h5 h6 (by have := Nat.min_le_left (toP (resD S a)).depth (toP (resD S b)).depth; omega) ⟨.bl (PySem.W.dataLt (toP (resD S a)) (toP (resD S b))), H, I, rfl, cv _ S _ W H ho Stp.refl ok rfl⟩
end DL
set_option Elab.async false
set_option linter.all false
set_option maxRecDepth 100000
set_option maxHeartbeats 1000000
/-! The data layer, part t: defs that are called while an exception is handled; defs that know that no repr is under way. -/
namespace DL
open PySem PySem.Spec PyProof.Rows L2
section
variable {P : Program} {w : World} {K : PySem.W.Frag} {mg : Str → Option Value} {base : Heap} {x qual : Str} {st : Stmt} {f : Addr} {fd : FuncData} {N ps : List Str} {A : Around} {outer : List Env} {s : Shared} {H : Hp} {us : List Value}
/-- what a def tells, by how its body ended -/
def retV : Flow → Value
  | .ret v => v
  | _ => .none
/-- a def is entered: what is left is its body -/
theorem fun_go {CX : CXT} {Q : VK} {E : XK} (F : Fun K x qual st f fd) (S : FnScope N ps (defScope st)) {args : Args} (hdp : A.depth < recursionLimit) (env0 : Env0 P w K mg base A outer s H) (bnd : BindsTo s fd args (ps.zip us))
    (go : ∀ (cdv : Value) (s1 : Shared), InCallC s s.heap.objs.size (bindL (envOfC qual (defScope st) s.heap.objs.size f cdv).kindOf (ps.zip us) fun _ => none) (cellsFrom (s.heap.objs.size + 1) (defScope st).names []) (bindC (envOfC qual (defScope st) s.heap.objs.size f cdv).kindOf (ps.zip us) fun _ => none) s1 →
      wpAny (model P w) (A.deeper (envOfC qual (defScope st) s.heap.objs.size f cdv)) (execs (defBody st) (envOfC qual (defScope st) s.heap.objs.size f cdv)) (fun fl s' => CE outer P w H s Q (retV fl) s')
        (cxOf CX P w K mg base N qual (defScope st) f cdv A outer s H E).xe s1) :
    codeAny (model P w) A (.call (.ref f) args) (CR CX outer P w H s Q E) s := by
  obtain ⟨oc, od, kV, doc, pm, an, cdv, ct, osl, efd, found, code⟩ := F.ex
  subst efd
  have inK : K.In s.heap := env0.mod.kin.keeps (fun b o e => (env0.bs b o e).1)
  refine codeAny_call_function hdp (inK _ _ found) rfl S.co S.gen rfl (PySem.W.codeRec_of inK code) (bnd _ _ _ _ (wpAny_newFunctionEnv_cells S.kind (fun y hy => ?_) fun env eenv s1 entered => ?_))
  · have hy1 := S.par y.1 (List.of_mem_zip (a := y.1) (b := y.2) hy).1
    exact hy1.elim .inl fun c => .inr ⟨c, PySem.W.cellsFrom_some _ _ _ (.inl c)⟩
  · subst eenv
    refine ⟨(env0.mod.nolimit.keeps fun b o e => (env0.bs b o e).1).keeps entered.toInCall.keep, codeAny_func ?_⟩
    exact wpAny_mono (go cdv s1 entered) (fun fl s' h => by cases fl <;> exact h) fun _ _ z => z
theorem cr_ret {Q : VK} {r : Result} {s' : Shared} (h : CR (L2.CX P w) outer P w H s Q (fun _ _ _ => False) r s') : ∃ u, r = .ok (.ret u) ∧ CE outer P w H s Q u s' := by
  match r, h with
  | .ok (.ret u), h => exact ⟨u, rfl, h⟩
  | .ok .next, h => exact h.elim
  | .ok .brk, h => exact h.elim
  | .ok .cont, h => exact h.elim
  | .error e, ⟨_, _, _, _, _, _, _, _, _, _, _, _, z⟩ => exact z.elim
/-- no exception leaves it, and it is told that no repr is under way -/
structure FnG (P : Program) (w : World) (K : PySem.W.Frag) (mg : Str → Option Value) (base : Heap) (k : Nat) (f : Addr) (fd : FuncData) (ps : List Str) (spec : Ctr) : Prop where
  len : ∀ ds S Q E, spec ds S Q E → ds.length = ps.length
  run : ∀ (A : Around) (outer : List Env) (s : Shared) (H : Hp) (args : Args) (us : List Value) (vs : List V) (Q : VK), Room k A → A.guards = some [] → Env0 P w K mg base A outer s H → BindsTo s fd args (ps.zip us) → Vals vs us → lSp K spec vs H Q (fun _ _ _ => False) →
    codeAny (model P w) A (.call (.ref f) args) (fun r s' => ∃ u, r = .ok (.ret u) ∧ CE outer P w H s Q u s') s
/-- the object of a caught exception of an own class -/
def CaughtAs (a dd C : Addr) (oe : Obj) : Prop := Zc (.ref C) (some dd) oe ∧ ∃ vs, oe.data = .fields vs
/-- .. and it is called while the exception at a is handled -/
structure FnT (P : Program) (w : World) (K : PySem.W.Frag) (mg : Str → Option Value) (base : Heap) (k : Nat) (f : Addr) (fd : FuncData) (ps : List Str) (spec : Addr → Addr → Addr → Ctr) : Prop where
  len : ∀ a dd C ds S Q E, spec a dd C ds S Q E → ds.length = ps.length
  run : ∀ (a dd C : Addr) (oe : Obj) (A : Around) (outer : List Env) (s : Shared) (H : Hp) (args : Args) (us : List Value) (vs : List V) (Q : VK), L2H.RoomH k A → A.guards = some [] → A.handled = some (.ref a) → CaughtAs a dd C oe → L2H.PinOk outer H s (a, oe) → Env0 P w K mg base A outer s H → BindsTo s fd args (ps.zip us) → Vals vs us →
    lSp K (spec a dd C) vs H Q (fun _ _ _ => False) → codeAny (model P w) A (.call (.ref f) args) (fun r s' => ∃ u, r = .ok (.ret u) ∧ CE outer P w H s Q u s') s
/-- what a body's end makes of a call -/
theorem end_call {X : Cx} {pins : List (Addr × Obj)} {H0 : Hp} {s0 : Shared} {Q : VK} {fl : Flow} {s' : Shared} (e1 : X.s_0 = s0) (e2 : X.H_0 = H0) (e3 : X.ex = []) (h : SP X pins { nx := fun _ H' => Q .non H', rt := Q } fl s') : CE X.outer X.prog X.w H0 s0 Q (retV fl) s' := by
  have fin : ∀ {σ' : L2.St} {H' : Hp} {v : V} {u : Value}, Inv X pins σ' H' s' → RelV v u → Q v H' → CE X.outer X.prog X.w H0 s0 Q u s' := fun {σ' H' v u} J rv q => by
    have b := J.base
    rw [e3, e2, e1] at b
    have o := J.os
    rw [e1] at o
    exact ⟨v, H', o, J.bare, b, J.hok, rv, q⟩
  match fl, h with
  | .ret u, ⟨v, _, _, J, rv, q⟩ => exact fin J rv q
  | .next, ⟨_, _, J, q⟩ => exact fin (v := .non) J rfl q
  | .brk, ⟨_, _, _, q⟩ => exact q.elim
  | .cont, ⟨_, _, _, q⟩ => exact q.elim
/-- a body's reading begins -/
theorem body_reads {X : Cx} {ws : WPs} {spec : Ctr} {vs : List V} {Q : VK} (hN : X.N = N) (hle : ps.length ≤ N.length) (len : ∀ ds S Q E, spec ds S Q E → ds.length = ps.length) (hr : ∀ ds S Q X1, spec ds S Q X1 → ws (startD N ds) S (endQ Q X1))
    (h : lSp X.K spec vs H Q (fun _ _ _ => False)) : lS X.K (fun _ _ _ _ => False) X.N.length ws { nx := fun _ H' => Q .non H', rt := Q } (L2.start N vs) H := by
  obtain ⟨W, S', ds, Q0, X1, ok, r, h, cv, cx⟩ := h
  refine ⟨W, _, S', _, ok, sl_start r, ?_, hr ds S' Q0 X1 h, ?_, ?_, ?_, ?_, ?_⟩
  · rw [hN]
    unfold L2.start
    rw [List.length_append, List.length_map, List.length_replicate]
    have := r.length
    have := len ds S' Q0 X1 h
    omega
  · exact fun _ S1 σ1 W1 H1 h1 s1 ok1 _ _ => cv .non S1 .non W1 H1 h1 s1 ok1 rfl
  · exact fun d S1 v W1 H1 h1 s1 ok1 r1 => cv d S1 v W1 H1 h1 s1 ok1 r1
  · exact fun _ _ _ _ _ h1 _ _ _ => h1.elim
  · exact fun _ _ _ _ _ h1 _ _ _ => h1.elim
  · exact fun C fs _ S1 dd gs _ W1 H1 h1 s1 ok1 _ e1 r1 => cx C fs S1 dd gs W1 H1 h1 s1 ok1 e1 r1
theorem fnG_mk {k : Nat} {spec : Ctr} {ws : WPs} (F : Fun K x qual st f fd) (S : FnScope N ps (defScope st)) (hle : ps.length ≤ N.length) (len : ∀ ds S Q E, spec ds S Q E → ds.length = ps.length)
    (hd : ∀ (f : Addr) (cdv : Value) (A : Around) (outer : List Env) (s : Shared) (H : Hp) (E : XK), Room k (A.deeper (envOfC qual (defScope st) s.heap.objs.size f cdv)) → A.guards = some [] → PDss (cxOf (L2.CX P w) P w K mg base N qual (defScope st) f cdv A outer s H E) (defBody st) ws)
    (hr : ∀ ds S Q X1, spec ds S Q X1 → ws (startD N ds) S (endQ Q X1)) : FnG P w K mg base (k + 1) f fd ps spec := by
  refine ⟨len, fun A outer s H args us vs Q room gd env0 bnd r hs => codeAny_mono (fun_go (CX := L2.CX P w) (Q := Q) (E := fun _ _ _ => False) (N := N) F S room.depth env0 bnd fun cdv s1 entered => ?_) fun _ _ h => cr_ret h⟩
  have lv : vs.length = ps.length := by
    obtain ⟨W, S', ds, Q0, X1, ok, r, h, _⟩ := hs
    rw [r.length]; exact len ds S' Q0 X1 h
  have hp := (hd f cdv A outer s H (fun _ _ _ => False) (room.deeper _) gd).run (fun _ _ _ _ => False) (takes_of rfl rfl rfl rfl)
  have I : Inv (cxOf (L2.CX P w) P w K mg base N qual (defScope st) f cdv A outer s H (fun _ _ _ => False)) [] (L2.start N vs) H s1 := inv_start S room.hd env0 lv r entered
  exact wpAny_mono (hp.run [] s1 (L2.start N vs) H _ I (body_reads (X := cxOf (L2.CX P w) P w K mg base N qual (defScope st) f cdv A outer s H (fun _ _ _ => False)) rfl hle len hr hs)) (fun fl s' z => end_call (X := cxOf (L2.CX P w) P w K mg base N qual (defScope st) f cdv A outer s H (fun _ _ _ => False)) rfl rfl rfl z) fun _ _ z => z
theorem mark_same {A : Around} {a : Addr} (h : A.handled = some (.ref a)) : A.mark (some (.ref a)) = A := by
  obtain ⟨hd, d, fr, gs, u⟩ := A
  cases h
  rfl
theorem fnT_mk {k : Nat} {spec : Addr → Addr → Addr → Ctr} {ws : Addr → Addr → Addr → WPs} (F : Fun K x qual st f fd) (S : FnScope N ps (defScope st)) (hle : ps.length ≤ N.length) (len : ∀ a dd C ds S Q E, spec a dd C ds S Q E → ds.length = ps.length)
    (hd : ∀ (f : Addr) (cdv : Value) (A : Around) (outer : List Env) (s : Shared) (H : Hp) (E : XK) (a dd C : Addr) (oe : Obj), CaughtAs a dd C oe → L2H.RoomH k (A.deeper (envOfC qual (defScope st) s.heap.objs.size f cdv)) → A.guards = some [] →
      PDss ((cxOf (L2.CX P w) P w K mg base N qual (defScope st) f cdv A outer s H E).suite a [(a, oe)]) (defBody st) (ws a dd C))
    (hr : ∀ a dd C ds S Q X1, spec a dd C ds S Q X1 → ws a dd C (startD N ds) S (endQ Q X1)) : FnT P w K mg base (k + 1) f fd ps spec := by
  refine ⟨len, fun a dd C oe A outer s H args us vs Q room gd hot ca pin env0 bnd r hs => codeAny_mono (fun_go (CX := L2.CX P w) (Q := Q) (E := fun _ _ _ => False) (N := N) F S room.depth env0 bnd fun cdv s1 entered => ?_) fun _ _ h => cr_ret h⟩
  have lv : vs.length = ps.length := by
    obtain ⟨W, S', ds, Q0, X1, ok, r, h, _⟩ := hs
    rw [r.length]; exact len a dd C ds S' Q0 X1 h
  have hp := (hd f cdv A outer s H (fun _ _ _ => False) a dd C oe ca (room.deeper _) gd).run (fun _ _ _ _ => False) takes0
  have I0 : Inv (L2H.cxH (L2.CX P w) P w K mg base N qual (defScope st) f cdv A outer s H (fun _ _ _ => False) (a, oe)) [] (L2.start N vs) H s1 := L2H.inv_startH S pin env0 lv r entered
  have K0 := I0.ok
  have I : Inv ((cxOf (L2.CX P w) P w K mg base N qual (defScope st) f cdv A outer s H (fun _ _ _ => False)).suite a [(a, oe)]) [] (L2.start N vs) H s1 :=
    ⟨⟨K0.mod, K0.kind, K0.glob, K0.blt, K0.above, K0.inj, K0.has, K0.cab, (fun z => absurd z Bool.false_ne_true), K0.frames, K0.stk, K0.exf, K0.bs, K0.bsz, K0.noex, K0.exfs, K0.funs, K0.frf⟩, I0.os, I0.bare, I0.base, I0.loc, I0.cell, I0.free, I0.freeC, I0.pin, I0.hok, I0.len⟩
  have go := hp.run [] s1 (L2.start N vs) H _ I (body_reads (X := (cxOf (L2.CX P w) P w K mg base N qual (defScope st) f cdv A outer s H (fun _ _ _ => False)).suite a [(a, oe)]) rfl hle (len a dd C) (hr a dd C) hs)
  have eA : ((cxOf (L2.CX P w) P w K mg base N qual (defScope st) f cdv A outer s H (fun _ _ _ => False)).suite a [(a, oe)]).A = A.deeper (envOfC qual (defScope st) s.heap.objs.size f cdv) := mark_same hot
  rw [eA] at go
  exact wpAny_mono go (fun fl s' z => end_call (X := (cxOf (L2.CX P w) P w K mg base N qual (defScope st) f cdv A outer s H (fun _ _ _ => False)).suite a [(a, oe)]) rfl rfl rfl z) fun _ _ z => z.elim
end
/-! ### the same by name, and their calls -/
section
variable (P : Program) (w : World) (K : PySem.W.Frag) (mg : Str → Option Value) (base : Heap)
def FnGC (k : Nat) (x : Str) (ps : List Str) (spec : Ctr) : Prop := (∀ ds S Q E E', spec ds S Q E → spec ds S Q E') ∧ ∃ f fd, FnG P w K mg base k f fd ps spec ∧ mg x = some (.ref f) ∧ PySem.W.keepIn K (.ref f) = true ∧ Binds K fd ps []
def FnTC (k : Nat) (x : Str) (ps : List Str) (spec : Addr → Addr → Addr → Ctr) : Prop := (∀ a dd C ds S Q E E', spec a dd C ds S Q E → spec a dd C ds S Q E') ∧ ∃ f fd, FnT P w K mg base k f fd ps spec ∧ mg x = some (.ref f) ∧ PySem.W.keepIn K (.ref f) = true ∧ Binds K fd ps []
end
section
variable {P : Program} {w : World} {K : PySem.W.Frag} {mg : Str → Option Value} {base : Heap} {x qual : Str} {st : Stmt} {N ps : List Str} {k : Nat}
theorem FnGC.mk {spec : Ctr} {ws : WPs} (D : DefAt K mg x qual st ps) (S : FnScope N ps (defScope st)) (hle : ps.length ≤ N.length) (nox : ∀ ds S Q E E', spec ds S Q E → spec ds S Q E') (len : ∀ ds S Q E, spec ds S Q E → ds.length = ps.length)
    (hd : ∀ (f : Addr) (cdv : Value) (A : Around) (outer : List Env) (s : Shared) (H : Hp) (E : XK), Room k (A.deeper (envOfC qual (defScope st) s.heap.objs.size f cdv)) → A.guards = some [] → PDss (cxOf (L2.CX P w) P w K mg base N qual (defScope st) f cdv A outer s H E) (defBody st) ws)
    (hr : ∀ ds S Q X1, spec ds S Q X1 → ws (startD N ds) S (endQ Q X1)) : FnGC P w K mg base (k + 1) x ps spec := by
  obtain ⟨f, fd, F, hm, hb⟩ := D
  exact ⟨nox, f, fd, fnG_mk F S hle len hd hr, hm, F.kp, hb⟩
theorem FnTC.mk {spec : Addr → Addr → Addr → Ctr} {ws : Addr → Addr → Addr → WPs} (D : DefAt K mg x qual st ps) (S : FnScope N ps (defScope st)) (hle : ps.length ≤ N.length) (nox : ∀ a dd C ds S Q E E', spec a dd C ds S Q E → spec a dd C ds S Q E') (len : ∀ a dd C ds S Q E, spec a dd C ds S Q E → ds.length = ps.length)
    (hd : ∀ (f : Addr) (cdv : Value) (A : Around) (outer : List Env) (s : Shared) (H : Hp) (E : XK) (a dd C : Addr) (oe : Obj), CaughtAs a dd C oe → L2H.RoomH k (A.deeper (envOfC qual (defScope st) s.heap.objs.size f cdv)) → A.guards = some [] →
      PDss ((cxOf (L2.CX P w) P w K mg base N qual (defScope st) f cdv A outer s H E).suite a [(a, oe)]) (defBody st) (ws a dd C))
    (hr : ∀ a dd C ds S Q X1, spec a dd C ds S Q X1 → ws a dd C (startD N ds) S (endQ Q X1)) : FnTC P w K mg base (k + 1) x ps spec := by
  obtain ⟨f, fd, F, hm, hb⟩ := D
  exact ⟨nox, f, fd, fnT_mk F S hle len hd hr, hm, F.kp, hb⟩
end
section
variable {X : Cx} {k : Nat} {ps : List Str} {x : Str} {p pos : Pos} {e : Expr} {es : List Expr} {wa : WPa}
/-- a name's call, by the values of its arguments -/
theorem pe_named {f : Addr} {Wx : WX} {spec : Ctr} (hm : X.mg x = some (.ref f)) (hk : PySem.W.keepIn X.K (.ref f) = true) (nox : ∀ ds S Q E E', spec ds S Q E → spec ds S Q E')
    (run : ∀ (pins : List (Addr × Obj)) (σ : L2.St) (H : Hp) (s : Shared) (Q : VK) (us : List Value) (vs : List V), Inv X pins σ H s → Vals vs us → lSp X.K spec vs H Q (fun _ _ _ => False) → wpAny (model X.prog X.w) X.A (call (.ref f) us) (EP X pins σ Q) X.xe s)
    (ha : PA X (e :: es) (lA X.K Wx wa)) (hg : Gl X x) (hdb : (x == ("__debug__" : Str)) = false) (he : starEach (e :: es) X.env = (false, eval e X.env) :: starEach es X.env) (hpl : (backTo pos (starEach es X.env)).any (·.1) = false) :
    PE X (.Call (.Name x p) (e :: es) [] pos) (lE X.K Wx (wCall spec wa)) := by
  refine ⟨fun pins s σ H Q I ⟨W, env, S, Q0, X1, ok, sl, hw, cv, cx⟩ => wpAny_Call_Name_kw (ld_glob I hg hm ?_ hdb)⟩
  have h1 : lA X.K Wx wa σ H fun vs H1 => lSp X.K spec vs H1 Q (fun _ _ _ => False) := ⟨W, env, S, _, X1, ok, sl, hw, fun ds S1 vs W1 H1 h1 s1 ok1 r1 => ⟨W1, S1, ds, Q0, _, ok1, r1, nox _ _ _ _ _ h1, cv.mono s1, CXc.no⟩, cx⟩
  exact PySem.W.callWith_K (h₀ := X.base) I.ok.mod.kin hk (thn (ha.run pos pins s σ H _ I h1) fun us s1 ⟨vs, H1, I1, r1, q1⟩ => ⟨I1.kIn, run pins σ H1 s1 Q us vs I1 r1 q1⟩) he hpl
theorem binds_at {fd : FuncData} {pins : List (Addr × Obj)} {σ : L2.St} {H : Hp} {s : Shared} {us : List Value} {vs : List V} (hb : Binds X.K fd ps []) (I : Inv X pins σ H s) (r : Vals vs us) (hl : vs.length = ps.length) : BindsTo s fd ⟨us, []⟩ (ps.zip us) := by
  have hl2 : (us ++ []).length = ps.length := by rw [List.append_nil, ← r.length]; exact hl
  have := hb s us I.kIn hl2
  rw [List.append_nil] at this
  exact this
theorem lsp_len {spec : Ctr} {K : PySem.W.Frag} {vs : List V} {H : Hp} {Q : VK} {E : XK} (len : ∀ ds S Q E, spec ds S Q E → ds.length = ps.length) (h : lSp K spec vs H Q E) : vs.length = ps.length := by
  obtain ⟨W, S', ds, Q0, X1, ok, r, h, _⟩ := h
  rw [r.length]; exact len ds S' Q0 X1 h
theorem pd_fnG {spec : Ctr} (G : FnGC X.prog X.w X.K X.mg X.base k x ps spec) (hr : Room k X.A) (hgd : X.A.guards = some []) (ha : PDa X (e :: es) wa) (hg : Gl X x := by rfl) (hdb : (x == ("__debug__" : Str)) = false := by decide)
    (he : starEach (e :: es) X.env = (false, eval e X.env) :: starEach es X.env := by rfl) (hpl : (backTo pos (starEach es X.env)).any (·.1) = false := by rfl) : PD X (.Call (.Name x p) (e :: es) [] pos) (wCall spec wa) := by
  obtain ⟨nox, f, fd, F, hm, hk, hb⟩ := G
  refine ⟨fun Wx tk => pe_named hm hk nox (fun pins σ H s Q us vs I r h => ?_) (ha.run Wx tk) hg hdb he hpl⟩
  refine wpAny_call (codeAny_mono (F.run X.A X.stack s H ⟨us, []⟩ us vs Q hr hgd I.env0 (binds_at hb I r (lsp_len F.len h)) r h) fun r s' ⟨u, eu, hq⟩ => ?_)
  subst eu
  exact I.after hq
variable {a dd C : Addr} {oe : Obj} {pn : List (Addr × Obj)}
theorem pd_fnT {spec : Addr → Addr → Addr → Ctr} (G : FnTC X.prog X.w X.K X.mg X.base k x ps spec) (hr : L2H.RoomH k X.A) (hgd : X.A.guards = some []) (ca : CaughtAs a dd C oe) (ha : PDa (X.suite a ((a, oe) :: pn)) (e :: es) wa) (hg : Gl (X.suite a ((a, oe) :: pn)) x := by rfl) (hdb : (x == ("__debug__" : Str)) = false := by decide)
    (he : starEach (e :: es) X.env = (false, eval e X.env) :: starEach es X.env := by rfl) (hpl : (backTo pos (starEach es X.env)).any (·.1) = false := by rfl) : PD (X.suite a ((a, oe) :: pn)) (.Call (.Name x p) (e :: es) [] pos) (wCall (spec a dd C) wa) := by
  obtain ⟨nox, f, fd, F, hm, hk, hb⟩ := G
  refine ⟨fun Wx tk => pe_named (X := X.suite a ((a, oe) :: pn)) hm hk (nox a dd C) (fun pins σ H s Q us vs I r h => ?_) (ha.run Wx tk) hg hdb he hpl⟩
  have pp := I.pin (a, oe) (List.mem_append_left _ List.mem_cons_self)
  have pin : L2H.PinOk X.stack H s (a, oe) := ⟨pp.1, pp.2.1, fun z => by
    rcases List.mem_cons.mp (I.stkSub a z) with z | z
    · exact pp.2.2.1 z
    · exact pp.2.2.2.1 z, pp.2.2.2.2⟩
  refine wpAny_call (codeAny_mono (F.run a dd C oe (X.suite a ((a, oe) :: pn)).A X.stack s H ⟨us, []⟩ us vs Q ⟨hr.dp, hr.un⟩ hgd rfl ca pin I.env0 (binds_at (X := X.suite a ((a, oe) :: pn)) hb I r (lsp_len (F.len a dd C) h)) r h) fun r s' ⟨u, eu, hq⟩ => ?_)
  subst eu
  exact I.after hq
end
theorem _root_.L2H.RoomH.units {k : Nat} {A : Around} (r : L2H.RoomH k A) : A.units + 64 < cLine := by have := r.un; omega
/-! ### repr(d), abs(i) -/
def oRepr : OC := fun S ds Q => one ds fun d => layP S d ∧ (toP (resD S d)).showable = true ∧ (toP (resD S d)).shown.length ≤ sizeLine ∧ Q (.str (toP (resD S d)).shown) S
theorem cd_repr {X : Cx} (hg : X.A.guards = some []) (hu : X.A.units + 64 < cLine) : CallR X (.builtin "repr") (lC X.K oRepr) := fun pins s σ H xs us Q I rv h => by
  obtain ⟨W, S, ds, Q0, ok, r, ho, cv⟩ := h
  obtain ⟨d, rfl, ⟨h1, h2⟩, h3, h4, ho⟩ := one_ex ho
  obtain ⟨v, rfl, rvd⟩ := reps1 r
  obtain ⟨u, rfl, ru⟩ := vals1 rv
  obtain ⟨as, r1⟩ := Dp.reads I _ v u (dp_lay ok rvd h1) ru
  have nd := PyData.hasDict_of_canLay _ h1
  have fin : ∀ (h' : Heap) (tk : Nat) (t : Tok), (∀ b o, s.heap.get? b = some o → h'.get? b = some o) → EP X pins σ Q (.str (toP (resD S d)).shown t) { s with heap := h', toks := tk } := fun h' tk t hk =>
    ⟨.str _, H, I.kept (t' := tk) hk, ⟨_, rfl⟩, cv (.str _) S _ W H ho Stp.refl ok rfl⟩
  generalize toP (resD S d) = p at *
  have same : ∀ (tk : Nat) (t : Tok), EP X pins σ Q (.str p.shown t) { s with toks := tk } := fun tk t => fin s.heap tk t fun _ _ z => z
  have r2 := r1
  have hd8 : p.depth ≤ 8 := h2
  have big : ∀ a : Addr, u = .ref a → wpAny (model X.prog X.w) X.A (call (.builtin "repr") [u]) (EP X pins σ Q) X.xe s := fun a e => by
    subst e
    exact repr_of_reads' r2 h3 (fun z => by rw [nd] at z; cases z) hg (by omega) (fun _ _ z => z) (fun h' t tk hk => fin h' tk t hk) h4
  cases r1 with
  | none => exact PySem.P.repr_of_none (same _ _)
  | bool => exact PySem.P.repr_of_bool (same _ _)
  | int => exact PySem.P.repr_of_int (of_decide_eq_true h3) (same _ _)
  | str => exact PySem.P.repr_of_str (same _ _) h4
  | _ => exact big _ rfl
def oAbs : OC := fun S ds Q => one ds fun d => match d with
  | .int i => Q (.int (if i < 0 then -i else i)) S
  | _ => False
theorem cd_abs {X : Cx} : CallR X (.builtin "abs") (lC X.K oAbs) := CallR.imp call_abs fun vs H Q ⟨W, S, ds, Q0, ok, r, ho, cv⟩ => by
  obtain ⟨d, rfl, ho⟩ := one_ex ho
  obtain ⟨v, rfl, rv⟩ := reps1 r
  cases d with
  | int i => exact ⟨i, by rw [show v = V.int i from rv], cv _ S _ W H ho Stp.refl ok rfl⟩
  | _ => exact ho.elim
/-! ### x[k] op= e, x a list that changes -/
def wAugI (o : O2) (wo wi we : WPe) : WPs := fun env S q => wo env S (fun x S1 => wi env S1 (fun i S2 => mutL S2 x fun _ xs => match i with
  | .int k => 0 ≤ k ∧ some! (atI xs k) fun d => we env S2 (fun y S3 => o S3 d y fun z S4 => setIx S4 x i z fun S5 => q.nx env S5) (xcQ q env)
  | _ => False) (xcQ q env)) (xcQ q env)
section
variable {X : Cx} {o i e : Expr} {pos tpos : Pos} {wo wi we : WPe}
theorem get_at : PGet X (fun x y H Q => ∃ p xs k v, x = .ref p ∧ y = .int k ∧ 0 ≤ k ∧ SqL X.K H p xs ∧ atI xs k = some v ∧ Q v H) := by
  rintro pins s σ H x y xv yv Q I rx ry ⟨p, xs, k, z, rfl, rfl, k0, hs, hat, q⟩
  cases rx
  obtain ⟨t, rfl⟩ := ry
  obtain ⟨its, rs, pl, hz⟩ := I.list hs
  obtain ⟨j, j1, j2, j3, j4, j5⟩ := atI_get hat
  obtain ⟨u, eu, ru⟩ := rs.get j2
  have hl := rs.length
  have hj : k.toNat = j := by
    rw [seqIndex_of k0 j5] at j1
    exact Option.some.inj j1
  have hb := line63
  exact PySem.wpAny_getItem_list pl.isList k0 (by omega) (by rw [hj]; simpa using eu) ⟨z, H, I, ru, q⟩
theorem pds_augI {op : Operator} {ob : O2} (ho : PD X o wo) (hi : PD X i wi) (he : PD X e we) (hop : OpR X (inplaceOp op) (lOp X.K ob)) (ha : ∀ ov iv new, augStore i ov iv new = (do holding [new, ov, iv] (setItem ov iv new); release [new, ov, iv] []; pure .next) := by intros; rfl) :
    PDs X (.AugAssign (.Subscript o i tpos) op e pos) (wAugI ob wo wi we) :=
  ⟨fun Wx tk => PS.imp (ps_augS (ho.run Wx tk) (hi.run Wx tk) get_at (he.run Wx tk) (fun pins s σ H x y v u Q I rx ry q => hop pins s σ H x y v u Q I rx ry q) set_list ha) fun D σ H ⟨W, env, S, q, ok, sl, hl, hw, cs⟩ =>
    ⟨W, env, S, _, _, ok, sl, hw, fun x S1 v W1 H1 h1 s1 ok1 r1 => ⟨W1, env, S1, _, _, ok1, sl.mono s1.vis, h1, fun iy S2 u W2 H2 h2 s2 ok2 r2 => by
      obtain ⟨a, xs, us, rfl, rfl, e1, e2, rv, h2⟩ := mutL_rep ok2 (r1.mono s2.vis) h2
      cases iy with
      | int k =>
        obtain ⟨k0, h2⟩ := h2
        obtain ⟨d, hd, h2⟩ := some!_ex h2
        obtain ⟨w, hw2, rw2⟩ := reps_at rv hd
        have s12 := s1.trans s2
        refine ⟨a, us, k, w, rfl, r2, k0, ?_, hw2, W2, env, S2, _, _, ok2, sl.mono s12.vis, h2, fun y S3 t W3 H3 h3 s3 ok3 r3 => ?_, CXc.of (cs.mono s12) (sl.mono s12.vis)⟩
        · exact SqL.of e2
        refine ⟨W3, S3, d, y, _, ok3, rw2.mono s3.vis, r3, h3, fun z S4 t2 W4 H4 h4 s4 ok4 r4 => ?_⟩
        have s34 := s3.trans s4
        obtain ⟨a', xs', n, j, S5, ea, ej, e5, e6, st5, ok5, h5⟩ := setIx_rep ok4 (r1.mono (s2.trans s34).vis) (r2.mono s34.vis) r4 h4
        exact ⟨a', xs', j, n, ea, ej, e5, e6, cs.nx _ S5 _ W4 _ h5 (s12.trans (s34.trans st5)) ok5 (sl.mono (s12.trans s34).vis) hl⟩
      | _ => exact h2.elim, CXc.of (cs.mono s1) (sl.mono s1.vis)⟩, CXc.of cs sl⟩⟩
end
/-! ### the end: a law that knows that no repr is under way -/
section
variable {P : Program} {w : World} {K : PySem.W.Frag} {mg mb : Str → Option Value} {k : Nat} {fa a : Addr} {fd : FuncData} {x : Str} {spec : Ctr} {s1 : Shared} {vs : List Value} {ns : List Int}
/-- the script, as it stands -/
abbrev scrO (vs : List Value) : Obj := { cls := .type "list", data := .seq vs.toArray }
theorem law_from {H : Hp} (inK : K.In s1.heap) (nsG : s1.heap.Ns mainGlobals mg) (nsB : s1.heap.Ns builtinsNs mb) (boot : ∀ x : Str, x ≠ "__name__" → mb x = bootBuiltins x) (lim : s1.heap.NoLimit) (noG : s1.gens = #[])
    (scr : s1.heap.get? a = some (scrO vs)) (room : Room k callerA)
    (F : ∀ base : Heap, K.In base → base.Ns mainGlobals mg → FnG P w K mg base k fa fd [x] spec) (bind : ∀ (s : Shared) (u : Value), BindsTo s fd ⟨[u], []⟩ [(x, u)])
    (hH : ∀ b, H b = none ∨ (b = a ∧ K.lookup a = none ∧ H b = some (.frz (scrO vs) (.lst (ns.map V.int))))) (ok : HOk P w H s1.heap) (hs : lSp K spec [.ref a] H (fun v _ => v = .bl true) fun _ _ _ => False) :
    codeAny (model P w) callerA (.call (.ref fa) ⟨[.ref a], []⟩) (fun r s' => r = .ok (.ret (.bool true)) ∧ OldK s1.heap s'.heap ∧ s'.os = s1.os ∧ AllBare s'.gens) s1 := by
  have dicts : ∀ {b : Addr} {m : Str → Option Value}, s1.heap.Ns b m → (hidT s1.heap H).Ns b m := by
    rintro b m ⟨o, es, ep, ho, hd, r⟩
    refine ⟨o, es, ep, hidT_get ho ?_, hd, r⟩
    rcases hH b with z | ⟨z, _, _⟩
    · exact z
    · rw [z, scr] at ho
      cases ho
      cases hd
  have inK2 : K.In (hidT s1.heap H) := fun b o e => hidT_get (inK b o e) (by
    rcases hH b with z | ⟨z, z2, _⟩
    · exact z
    · rw [z, z2] at e; cases e)
  have M : Mod K mg (hidT s1.heap H) := ⟨inK2, dicts nsG, ⟨mb, dicts nsB, boot⟩, by
    obtain ⟨mc, h1, h2⟩ := lim
    exact ⟨mc, dicts h1, h2⟩⟩
  have E0 : Env0 P w K mg (hidT s1.heap H) callerA [] s1 H := ⟨rfl, M, fun _ _ e => of_hidT e, Nat.le_of_eq (hidT_size _ _), trivial, (fun b hb => by cases hb), ok, .of_eq noG⟩
  refine codeAny_mono ((F _ inK2 (dicts nsG)).run callerA [] s1 H ⟨[.ref a], []⟩ [.ref a] [.ref a] _ room rfl E0 (bind s1 (.ref a)) (.cons rfl .nil) hs) ?_
  rintro r s' ⟨u, rfl, v, H', os, bare, un, ok', rv, q⟩
  have q : v = .bl true := q
  subst q
  have eu : u = Value.bool true := rv
  subst eu
  refine ⟨rfl, OldK.of_keep fun b o e => ?_, os, bare⟩
  rcases hH b with z | ⟨_, _, z⟩
  · exact un.keep b o e z (fun z => by cases z) (fun z => by cases z)
  · have e1 := (ok b _ z).1
    have e2 := (ok' b _ (un.frzs b _ _ z)).1
    rw [e] at e1
    cases e1
    exact e2
theorem law_goes (inK : K.In s1.heap) (nsG : s1.heap.Ns mainGlobals mg) (nsB : s1.heap.Ns builtinsNs mb) (boot : ∀ x : Str, x ≠ "__name__" → mb x = bootBuiltins x) (lim : s1.heap.NoLimit) (noG : s1.gens = #[])
    (scr : s1.heap.get? a = some (scrO vs)) (numb : IntsAre vs ns) (fits : ns.length ≤ sizeLine) (room : Room k callerA)
    (F : ∀ base : Heap, K.In base → base.Ns mainGlobals mg → FnG P w K mg base k fa fd [x] spec) (bind : ∀ (s : Shared) (u : Value), BindsTo s fd ⟨[u], []⟩ [(x, u)])
    (hs : ∀ H : Hp, SqL K H a (ns.map V.int) → lSp K spec [.ref a] H (fun v _ => v = .bl true) fun _ _ _ => False) :
    codeAny (model P w) callerA (.call (.ref fa) ⟨[.ref a], []⟩) (fun r s' => r = .ok (.ret (.bool true)) ∧ OldK s1.heap s'.heap ∧ s'.os = s1.os ∧ AllBare s'.gens) s1 := by
  have rv := vals_ints numb
  cases own : K.lookup a with
  | some o =>
    have e := inK a o own
    rw [scr] at e
    cases e
    exact law_from (H := fun _ => none) (ns := ns) inK nsG nsB boot lim noG scr room F bind (fun b => .inl rfl) (fun b u z => nomatch z) (hs _ (.inr ⟨_, vs.toArray, _, own, rfl, rfl, rfl, by rw [List.size_toArray, numb.length]; exact fits, by simpa using rv⟩))
  | none =>
    have at_ : (fun b => if b = a then some (HO.frz (scrO vs) (.lst (ns.map V.int))) else none : Hp) a = some (.frz (scrO vs) (.lst (ns.map V.int))) := if_pos rfl
    refine law_from (H := fun b => if b = a then some (HO.frz (scrO vs) (.lst (ns.map V.int))) else none) (ns := ns) inK nsG nsB boot lim noG scr room F bind (fun b => ?_) (fun b u z => ?_) (hs _ (.inl (.inr ⟨_, at_⟩)))
    · by_cases e : b = a
      · exact .inr ⟨e, own, if_pos e⟩
      · exact .inl (if_neg e)
    · by_cases e : b = a
      · have z := (if_pos e).symm.trans z
        cases z
        subst e
        exact ⟨scr, by rw [List.length_map]; exact fits, vs, _, rv, scr⟩
      · have z := (if_neg e).symm.trans z
        cases z
theorem walk_G {l : PySem.W.OpenLaw} {n k : Nat} {q : Program} {loose : List Str} {XP : (Str → Option Value) → Heap → Prop} {YP : World → Heap → Prop} {d : DefRec} {K : Params → PySem.W.Frag} {spec : Ctr} {x : Str}
    (hn : l.most = some n) (hn2 : n ≤ sizeLine) (hdf : d.params.defaults = []) (hr : Room k callerA) (hY : ∀ (w : World) (h : Heap), YP w h → (K w.params).In h)
    (F : ∀ (w : World) (mg : Str → Option Value) (fa : Addr) (h : Heap), (K w.params).In h → h.Ns mainGlobals mg → mg d.name = some (.ref fa) →
      ∃ fd : FuncData, (∀ (s : Shared) (u : Value), BindsTo s fd ⟨[u], []⟩ [(x, u)]) ∧ ∀ base : Heap, (K w.params).In base → base.Ns mainGlobals mg → FnG l.prog w (K w.params) mg base k fa fd [x] spec)
    (hsp : ∀ (w : World) (H : Hp) (a : Addr) (ns : List Int), ns.length ≤ n → SqL (K w.params) H a (ns.map V.int) → lSp (K w.params) spec [.ref a] H (fun v _ => v = .bl true) fun _ _ _ => False) :
    PySem.W.WalkO q loose XP YP l.row.toRowW d [] (fun f vs => PySem.call f vs) := by
  refine Att.attach_call hn hdf fun w s0 s1 mg mb fa o pm cd doc a vs ns G Y ho hd hcd hmg hobj hints hlen hg => ?_
  obtain ⟨fd, hb, hF⟩ := F w mg fa _ (hY w _ Y) G.T.g hmg
  exact law_goes (hY w _ Y) G.T.g G.T.b G.T.builtins G.T.nolimit hg hobj hints (Nat.le_trans hlen hn2) hr hF hb fun H hS => hsp w H a ns hlen hS
end
end DL
set_option Elab.async false
set_option linter.all false
set_option maxRecDepth 100000
set_option maxHeartbeats 1000000
/-! The data layer, part u: sum and max of a tuple. -/
namespace DL
open PySem PySem.Spec PyProof.Rows L2
section
variable {X : Cx}
theorem cr_sumT (hc : X.calm = true) : CallR X (.builtin "sum") (fun vs H Q => ∃ (a : Addr) (ns : List Int), vs = [V.ref a] ∧ SqT X.K H a (ns.map V.int) ∧ Q (.int ns.sum) H) := by
  rintro pins s σ H vs us Q I r ⟨a, ns, rfl, hs, q⟩
  obtain ⟨its, rv, pl, _⟩ := I.tuple hs
  rw [Vals.ref1 r]
  have hi := rv.ints
  obtain ⟨xs, e⟩ := hi.allInts.items
  have hn : numsOf (intItems xs).toList = ns := by rw [← e]; exact hi.numsOf
  rw [nums_intItems] at hn
  rw [e] at pl
  refine PySem.W.ktm_sumG (I.ok.hd hc) pl fun h' tk t' hk => ?_
  rw [preSum_eq, List.take_of_length_le (by simp), hn]
  exact ⟨.int _, H, I.kept (t' := tk) hk, ⟨_, rfl⟩, q⟩
theorem dpAll_numbers {K : PySem.W.Frag} {H : Hp} : ∀ ns : List Int, DpAll K H (ns.map V.int) (ns.map PyData.int)
  | [] => .nil
  | n :: r => .cons (.int n) (dpAll_numbers r)
theorem depth_numbers : ∀ ns : List Int, PyData.depthAll (ns.map PyData.int) = 0
  | [] => rfl
  | n :: r => by
    show max (PyData.int n).depth (PyData.depthAll (r.map PyData.int)) = 0
    rw [depth_numbers r]; rfl
theorem alike_numbers (ns : List Int) : PySem.W.AlikeAll (ns.map PyData.int) := by
  refine ⟨fun x hx y hy => ?_, fun x hx => ?_⟩
  · obtain ⟨a, _, rfl⟩ := List.mem_map.mp hx
    obtain ⟨b, _, rfl⟩ := List.mem_map.mp hy
    rfl
  · obtain ⟨a, _, rfl⟩ := List.mem_map.mp hx
    exact fun z => nomatch z
theorem cr_maxT (hc : X.calm = true) (hu : X.A.units + 64 < cLine) : CallR X (.builtin "max") (fun vs H Q => ∃ (a : Addr) (n : Int) (ns : List Int), vs = [V.ref a] ∧ SqT X.K H a ((n :: ns).map V.int) ∧ Q (.int (ns.foldl max n)) H) := by
  rintro pins s σ H vs us Q I r ⟨a, n, ns, rfl, hs, q⟩
  obtain ⟨its, rv, pl, _⟩ := I.tuple hs
  rw [Vals.ref1 r]
  obtain ⟨as, ra⟩ := Dp.readsAll I _ _ _ (dpAll_numbers (n :: ns)) rv
  refine PySem.W.max_tuple_data (x := .int n) (xs := ns.map PyData.int) (I.ok.hd hc) pl ra (alike_numbers (n :: ns)) (by rw [← List.map_cons, depth_numbers]; omega) fun i v h' tk bs hi rr hk => ?_
  rw [PySem.W.maxD_ints] at rr
  cases rr with
  | int _ t => exact ⟨.int _, H, I.kept (t' := tk) hk, ⟨t, rfl⟩, q⟩
/-- sum and max of a list or a tuple of ints -/
def oSumA : OC := fun S ds Q => one ds fun d => some! (seqA S d) fun xs => some! (toInts xs) fun bs => Q (.int bs.sum) S
def oMaxA : OC := fun S ds Q => one ds fun d => some! (seqA S d) fun xs => some! (toInts xs) fun bs => 0 < bs.length ∧ ∀ m, m ∈ bs → (∀ y, y ∈ bs → y ≤ m) → Q (.int m) S
theorem rowI {K : PySem.W.Frag} {W : Hp} {S : Sto} {H : Hp} {d : D} {v : V} {k : List Int → Prop} (ok : Ok K W S H) (r : Rep K W d v) (h : some! (seqA S d) fun xs => some! (toInts xs) k) : ∃ a ns, v = .ref a ∧ (SqL K H a (ns.map V.int) ∨ SqT K H a (ns.map V.int)) ∧ k ns := by
  obtain ⟨xs, e1, h⟩ := some!_ex h
  obtain ⟨bs, e2, h⟩ := some!_ex h
  obtain ⟨p, vs, rfl, hq, r1⟩ := seqA_rep ok r e1
  rw [toInts_rep e2 r1] at hq
  exact ⟨p, bs, rfl, hq, h⟩
theorem cd_sumA (hc : X.calm = true) : CallR X (.builtin "sum") (lC X.K oSumA) := CallR.imp ((cr_sum hc).or (cr_sumT hc)) fun vs H Q ⟨W, S, ds, Q0, ok, r, ho, cv⟩ => by
  obtain ⟨d, rfl, ho⟩ := one_ex ho
  obtain ⟨v, rfl, rv⟩ := reps1 r
  obtain ⟨a, bs, rfl, h1, h2⟩ := rowI ok rv ho
  rcases h1 with h1 | h1
  · exact .inl ⟨a, bs, rfl, h1, cv _ S _ W H h2 Stp.refl ok rfl⟩
  · exact .inr ⟨a, bs, rfl, h1, cv _ S _ W H h2 Stp.refl ok rfl⟩
theorem fold_max : ∀ (ns : List Int) (n : Int), ns.foldl max n ∈ n :: ns ∧ ∀ y, y ∈ n :: ns → y ≤ ns.foldl max n
  | [], n => ⟨List.mem_cons_self, fun y hy => by rw [List.mem_singleton.mp hy]; exact Int.le_refl _⟩
  | m :: r, n => by
    obtain ⟨h1, h2⟩ := fold_max r (max n m)
    have hb := h2 (max n m) List.mem_cons_self
    refine ⟨?_, fun y hy => ?_⟩
    · show r.foldl max (max n m) ∈ _
      rcases List.mem_cons.mp h1 with h | h
      · rw [h]
        by_cases z : n ≤ m
        · rw [Int.max_eq_right z]; exact List.mem_cons_of_mem _ List.mem_cons_self
        · rw [Int.max_eq_left (by omega)]; exact List.mem_cons_self
      · exact List.mem_cons_of_mem _ (List.mem_cons_of_mem _ h)
    · show y ≤ r.foldl max (max n m)
      rcases List.mem_cons.mp hy with rfl | hy
      · omega
      · rcases List.mem_cons.mp hy with rfl | hy
        · omega
        · exact h2 y (List.mem_cons_of_mem _ hy)
theorem cd_maxA (hc : X.calm = true) (hu : X.A.units + 64 < cLine) : CallR X (.builtin "max") (lC X.K oMaxA) := CallR.imp ((cr_max hc).or (cr_maxT hc hu)) fun vs H Q ⟨W, S, ds, Q0, ok, r, ho, cv⟩ => by
  obtain ⟨d, rfl, ho⟩ := one_ex ho
  obtain ⟨v, rfl, rv⟩ := reps1 r
  obtain ⟨a, bs, rfl, h1, h2, h3⟩ := rowI ok rv ho
  rcases h1 with h1 | h1
  · exact .inl ⟨a, bs, rfl, h1, h2, fun m q1 q2 => cv _ S _ W H (h3 m q1 q2) Stp.refl ok rfl⟩
  · cases bs with
    | nil => cases h2
    | cons n ns =>
      obtain ⟨m1, m2⟩ := fold_max ns n
      exact .inr ⟨a, n, ns, rfl, h1, cv _ S _ W H (h3 _ m1 m2) Stp.refl ok rfl⟩
end
end DL
set_option Elab.async false
set_option linter.all false
set_option maxRecDepth 100000
set_option maxHeartbeats 4000000
namespace K19
open PySem PySem.Spec PyProof.Rows L2 DL
/-- the errors' classes, and what the written part says of them -/
structure Cl where
  K : PySem.W.Frag
  ServeError : Addr
  InvalidNumber : Addr
  InvalidRow : Addr
  InvalidLot : Addr
  Undefined : Addr
  exN : PySem.W.exmOne K (.ref InvalidNumber) (.ref ServeError) = some true
  exR : PySem.W.exmOne K (.ref InvalidRow) (.ref ServeError) = some true
  rr : PySem.W.kitOne K (.ref InvalidRow) (.ref InvalidRow) = some true
  rn : PySem.W.kitOne K (.ref InvalidRow) (.ref InvalidNumber) = some false
  ru : PySem.W.kitOne K (.ref InvalidRow) (.ref Undefined) = some false
  rl : PySem.W.kitOne K (.ref InvalidRow) (.ref InvalidLot) = some false
  nr : PySem.W.kitOne K (.ref InvalidNumber) (.ref InvalidRow) = some false
  nn : PySem.W.kitOne K (.ref InvalidNumber) (.ref InvalidNumber) = some true
  nu : PySem.W.kitOne K (.ref InvalidNumber) (.ref Undefined) = some false
  nl : PySem.W.kitOne K (.ref InvalidNumber) (.ref InvalidLot) = some false
  isR : IsC K InvalidRow
  isN : IsC K InvalidNumber
  xfR : XfC K InvalidRow ∧ PySem.W.findIn K (.ref InvalidRow) "place" = some none
  xfN : XfC K InvalidNumber ∧ PySem.W.findIn K (.ref InvalidNumber) "number" = some none
/-! ### values -/
/-- a value whose class is known -/
def Kn (S : Sto) (d : D) : Prop := ∃ n, tyN S d = some n
def isInt (d : D) : Bool := match d with
  | .int _ => true
  | _ => false
def inR (l m : Int) (d : D) : Bool := match d with
  | .int v => decide (l ≤ v ∧ v ≤ m)
  | _ => false
/-- a value, and its items if it is a row -/
def KnRow (S : Sto) (d : D) : Prop := Kn S d ∧ ∀ xs, seqA S d = some xs → ∀ x, x ∈ xs → Kn S x
/-- the numbers, or the first wrong place -/
def numsAll (l m : Int) : Nat → List D → (List Int) ⊕ Nat
  | _, [] => .inl []
  | j, d :: r => match d with
    | .int v => if l ≤ v ∧ v ≤ m then (match numsAll l m (j + 1) r with
        | .inl ns => .inl (v :: ns)
        | .inr p => .inr p) else .inr j
    | _ => .inr j
def numsOf (S : Sto) (k l m : Int) (d : D) : (List Int) ⊕ Nat := match seqA S d with
  | some xs => if 1 ≤ (xs.length : Int) ∧ (xs.length : Int) ≤ k then numsAll l m 0 xs else .inr 0
  | none => .inr 0
/-- what stands stands on -/
def Ext (S S' : Sto) : Prop := ∀ a m, S a = some m → S' a = some m
def sp_is_integer (c : Cl) : Ctr := fun ds S Q _ => ∃ d, ds = [d] ∧ Kn S d ∧ Q (.bl (isInt d)) S
def sp_is_from_to (c : Cl) : Ctr := fun ds S Q _ => ∃ d l m, ds = [d, .int l, .int m] ∧ Kn S d ∧ Q (.bl (inR l m d)) S
def sp_is_row (c : Cl) : Ctr := fun ds S Q _ => ∃ d, ds = [d] ∧ Kn S d ∧ Q (.bl (seqA S d).isSome) S
def sp_check_number (c : Cl) : Ctr := fun ds S Q E => ∃ d l m, ds = [d, .int l, .int m] ∧ Kn S d ∧ (inR l m d = true → Q .non S) ∧ (inR l m d = false → E c.InvalidNumber [("number", d)] S)
def lenR (S : Sto) (l m : Int) (d : D) : Bool := match seqA S d with
  | some xs => decide (l ≤ (xs.length : Int) ∧ (xs.length : Int) ≤ m)
  | none => false
def sp_check_length (c : Cl) : Ctr := fun ds S Q E => ∃ d l m, ds = [d, .int l, .int m] ∧ Kn S d ∧ (lenR S l m d = true → Q .non S) ∧ (lenR S l m d = false → E c.InvalidRow [("place", .int 0)] S)
def sp_checked_numbers (c : Cl) : Ctr := fun ds S Q E => ∃ d k l m, ds = [d, .int k, .int l, .int m] ∧ KnRow S d ∧ (∀ ns, numsOf S k l m d = .inl ns → Q (dT ns) S) ∧ (∀ p, numsOf S k l m d = .inr p → E c.InvalidRow [("place", .int (p : Nat))] S)
def sp_checked_needs (c : Cl) : Ctr := fun ds S Q E => ∃ d v, ds = [d, v] ∧ KnRow S d ∧ Kn S v ∧ (∀ p, numsOf S 12 0 30 d = .inr p → E c.InvalidRow [("place", .int (p : Nat))] S) ∧
  (∀ ns, numsOf S 12 0 30 d = .inl ns → (inR 1 8 v = false → E c.InvalidNumber [("number", v)] S) ∧ (inR 1 8 v = true → Q (dT ns) S))
/-! ### the plan -/
def ticksF (ns : List Int) (n : Int) : Int := max (ns.foldl max 0) ((ns.sum + n - 1) / n)
/-- needs as the program lets them -/
def NeedsOk (ns : List Int) : Prop := ns ≠ [] ∧ ns.length ≤ 12 ∧ ∀ x, x ∈ ns → 0 ≤ x ∧ x ≤ 30
def sp_ticks_needed (c : Cl) : Ctr := fun ds S Q _ => ∃ i ns n, ds = [dR i ns, .int n] ∧ NeedsOk ns ∧ (1 ≤ n ∧ n ≤ 8) ∧ Q (.int (ticksF ns n)) S
def sp_fewest_ticks (c : Cl) : Ctr := fun ds S Q E => ∃ d v, ds = [d, v] ∧ KnRow S d ∧ Kn S v ∧ (∀ p, numsOf S 12 0 30 d = .inr p → E c.InvalidRow [("place", .int (p : Nat))] S) ∧
  (∀ ns, numsOf S 12 0 30 d = .inl ns → (inR 1 8 v = false → E c.InvalidNumber [("number", v)] S) ∧ (∀ n, v = .int n → inR 1 8 v = true → Q (.int (ticksF ns n)) S))
structure PlanOk (ns : List Int) (n : Int) (plan : List (List Int)) : Prop where
  len : (plan.length : Int) = ticksF ns n
  lots : ∀ lot, lot ∈ plan → lot.Pairwise (· < ·) ∧ (∀ x, x ∈ lot → 0 ≤ x ∧ x < ns.length) ∧ (lot.length : Int) ≤ n
  all : ∀ (i : Nat) v, ns[i]? = some v → (((plan.map fun lot => lot.count (i : Int)).sum : Nat) : Int) = v
def sp_lane_plan (c : Cl) : Ctr := fun ds S Q E => ∃ d v, ds = [d, v] ∧ KnRow S d ∧ Kn S v ∧ (∀ p, numsOf S 12 0 30 d = .inr p → E c.InvalidRow [("place", .int (p : Nat))] S) ∧
  (∀ ns, numsOf S 12 0 30 d = .inl ns → (inR 1 8 v = false → E c.InvalidNumber [("number", v)] S) ∧ (∀ n, v = .int n → inR 1 8 v = true → ∀ plan, PlanOk ns n plan → ∀ S', Ext S S' → Q (.tup (plan.map dT)) S'))
/-! ### the state of draws -/
structure St5 where
  cells : List Int
  at_ : Int
  big : Int
  left : Int
  seed : Int
  turn : Int
def StOk (h : St5) : Prop := h.cells.length ≤ 63 ∧ 0 ≤ h.at_ ∧ 0 ≤ h.big ∧ 0 ≤ h.seed ∧ h.seed < 2147483647
def stMO (h : St5) : MO := .lst [dL h.cells, .int h.at_, .int h.big, .int h.left, .int h.seed, .int h.turn]
def IsSt (S : Sto) (p : Addr) : Prop := ∃ h, StOk h ∧ S p = some (stMO h)
def sp__law_begin (c : Cl) : Ctr := fun ds S Q _ => ∃ cells : List Int, ds = [.fro (cells.map D.int)] ∧ cells.length ≤ 63 ∧ ∀ p h, S p = none → StOk h → Q (.ref p) (put S p (stMO h))
def sp__law_draw (c : Cl) : Ctr := fun ds S Q _ => ∃ p n, ds = [.ref p, .int n] ∧ IsSt S p ∧ (0 < n ∧ n ≤ 1000000) ∧ ∀ r h, 0 ≤ r → r < n → StOk h → Q (.int r) (put S p (stMO h))
def sp__law_is_int (c : Cl) : Ctr := fun ds S Q _ => ∃ d, ds = [d] ∧ Kn S d ∧ Q (.bl (isInt d)) S
/-! ### the error's words -/
def shownD (S : Sto) (d : D) : Str := (toP (resD S d)).shown
def ReprOk (S : Sto) (d : D) : Prop := layP S d ∧ (toP (resD S d)).showable = true ∧ (shownD S d).length ≤ sizeLine
def sp__law_error (c : Cl) (a dd C : Addr) : Ctr := fun ds S Q _ => ∃ f x, ds = [.exc a dd C f x] ∧ ((C = c.InvalidRow ∧ f = "place" ∧ ∃ p : Int, x = .int p ∧ Q (.tup [.str "row", .int p]) S) ∨
  (C = c.InvalidNumber ∧ f = "number" ∧ ReprOk S x ∧ Q (.tup [.str "number", .str (shownD S x)]) S))
/-- wrong lanes: nothing from 1 to 8 -/
def WrongLanes (d : D) : Prop := inR 1 8 d = false ∧ (∀ S, Kn S d) ∧ (∀ S, ReprOk S d) ∧ ∀ S, PyData.strOk (shownD S d) = true
def sp__law_wrong_lanes (c : Cl) : Ctr := fun ds S Q _ => ∃ p, ds = [.ref p] ∧ IsSt S p ∧ ∀ d h, WrongLanes d → StOk h → Q d (put S p (stMO h))
def sp__law_turning (c : Cl) : Ctr := fun ds S Q _ => ∃ p n m, ds = [.ref p, .int n, .int m] ∧ IsSt S p ∧ (1 ≤ n ∧ n ≤ 8) ∧ (0 ≤ m ∧ m ≤ 1) ∧ ∀ ns, NeedsOk ns → ∀ S', IsSt S' p → Q (dL ns) S'
def sp__law_needs (c : Cl) : Ctr := fun ds S Q _ => ∃ p n, ds = [.ref p, .int n] ∧ IsSt S p ∧ (1 ≤ n ∧ n ≤ 8) ∧ ∀ ns, NeedsOk ns → ∀ S', IsSt S' p → Q (dL ns) S'
def sp__law_ask (c : Cl) : Ctr := fun ds S Q _ => ∃ k d v, ds = [.int k, d, v] ∧ KnRow S d ∧ Kn S v ∧ (∀ p, numsOf S 12 0 30 d = .inr p → Q (.tup [.str "row", .int (p : Nat)]) S) ∧
  (∀ ns, numsOf S 12 0 30 d = .inl ns → (inR 1 8 v = false → ReprOk S v ∧ Q (.tup [.str "number", .str (shownD S v)]) S) ∧
    (∀ n, v = .int n → inR 1 8 v = true → (k = 0 → Q (.tup [.str "told", .int (ticksF ns n)]) S) ∧ (k ≠ 0 → ∀ plan, PlanOk ns n plan → ∀ S', Ext S S' → Q (.tup [.str "told", .tup (plan.map dT)]) S')))
def sp__law_lot (c : Cl) : Ctr := fun ds S Q _ => ∃ lot m, ds = [dT lot, .int m] ∧ lot.Pairwise (· < ·) ∧ (∀ x, x ∈ lot → 0 ≤ x ∧ x < m) ∧ lot.length ≤ 1000 ∧ Q (.bl true) S
def sp__law_done (c : Cl) : Ctr := fun ds S Q _ => ∃ ns n plan, ds = [dL ns, .int n, .int (ticksF ns n), .tup (plan.map dT)] ∧ NeedsOk ns ∧ (1 ≤ n ∧ n ≤ 8) ∧ PlanOk ns n plan ∧ ∀ S', Ext S S' → Q (.bl true) S'
def sp__law_right (c : Cl) : Ctr := fun ds S Q _ => ∃ p ns n, ds = [.ref p, dL ns, .int n] ∧ IsSt S p ∧ NeedsOk ns ∧ (1 ≤ n ∧ n ≤ 8) ∧ ∀ S', IsSt S' p → Q (.bl true) S'
/-- wrong needs: the first wrong place is told -/
def WrongNeeds (d : D) (p : Nat) : Prop := (∀ S, KnRow S d) ∧ ∀ S, numsOf S 12 0 30 d = .inr p
def sp__law_wrong_needs (c : Cl) : Ctr := fun ds S Q _ => ∃ p ns, ds = [.ref p, dL ns] ∧ IsSt S p ∧ NeedsOk ns ∧ ∀ d (k : Nat), WrongNeeds d k → ∀ S', IsSt S' p → Q (.tup [d, .int (k : Nat)]) S'
def sp__law_refused (c : Cl) : Ctr := fun ds S Q _ => ∃ p ns n, ds = [.ref p, dL ns, .int n] ∧ IsSt S p ∧ NeedsOk ns ∧ (1 ≤ n ∧ n ≤ 8) ∧ ∀ S', IsSt S' p → Q (.bl true) S'
def sp_law (c : Cl) : Ctr := fun ds S Q _ => ∃ cells : List Int, ds = [.fro (cells.map D.int)] ∧ cells.length ≤ 63 ∧ ∀ S', Q (.bl true) S'
end K19
set_option Elab.async false
set_option linter.all false
set_option maxRecDepth 100000
set_option maxHeartbeats 4000000
namespace K19
open PySem PySem.Spec PyProof.Rows L2 DL
def N_is_integer_ : List Str := ["value"]
/-- is_integer: slots 0 value, -/
def w_is_integer (c : Cl) : WPs := (wRet (wAndV (wIsi "int" (wVar 0)) (wNotV (wIsi "bool" (wVar 0)))))
def N_is_from_to_ : List Str := ["value", "least", "most"]
/-- is_from_to: slots 0 value, 1 least, 2 most, -/
def w_is_from_to (c : Cl) : WPs := (wRet (wAndV (wCall (sp_is_integer c) (wCons (wVar 0) wNil)) (wChain oLe oLe (wVar 1) (wVar 0) (wVar 2))))
def N_is_row_ : List Str := ["value"]
/-- is_row: slots 0 value, -/
def w_is_row (c : Cl) : WPs := (wRet (wIsiT ["tuple", "list"] (wVar 0)))
def N_check_number_ : List Str := ["value", "least", "most"]
/-- check_number: slots 0 value, 1 least, 2 most, -/
def w_check_number (c : Cl) : WPs := (wIf (wNot (wTest (wCall (sp_is_from_to c) (wCons (wVar 0) (wCons (wVar 1) (wCons (wVar 2) wNil)))))) (wRaise (wMkE c.InvalidNumber "number" (wVar 0))) wNext)
def N_check_length_ : List Str := ["value", "least", "most"]
/-- check_length: slots 0 value, 1 least, 2 most, -/
def w_check_length (c : Cl) : WPs := (wIf (wOr (wNot (wTest (wCall (sp_is_row c) (wCons (wVar 0) wNil)))) (wNot (wTest (wChain oLe oLe (wVar 1) (wCB oLen (wCons (wVar 0) wNil)) (wVar 2))))) (wRaise (wMkE c.InvalidRow "place" (wC (.int 0)))) wNext)
def N_checked_numbers_ : List Str := ["value", "most_members", "least", "most", "place", "number"]
/-- checked_numbers: slots 0 value, 1 most_members, 2 least, 3 most, 4 place, 5 number, -/
def w_checked_numbers (c : Cl) : WPs := (wSeq (wDrop (wCall (sp_check_length c) (wCons (wVar 0) (wCons (wC (.int 1)) (wCons (wVar 1) wNil)))))
  (wSeq (wFor (wEnum (wVar 0)) (gT [(gN 4), (gN 5)]) (wIf (wNot (wTest (wCall (sp_is_from_to c) (wCons (wVar 5) (wCons (wVar 2) (wCons (wVar 3) wNil)))))) (wRaise (wMkE c.InvalidRow "place" (wVar 4))) wNext))
  (wRet (wCB oTuple (wCons (wVar 0) wNil)))))
def N_checked_needs_ : List Str := ["needs", "lanes", "row"]
/-- checked_needs: slots 0 needs, 1 lanes, 2 row, -/
def w_checked_needs (c : Cl) : WPs := (wSeq (wSet 2 (wCall (sp_checked_numbers c) (wCons (wVar 0) (wCons (wC (.int (12))) (wCons (wC (.int 0)) (wCons (wC (.int (30))) wNil))))))
  (wSeq (wDrop (wCall (sp_check_number c) (wCons (wVar 1) (wCons (wC (.int 1)) (wCons (wC (.int (8))) wNil)))))
  (wRet (wVar 2))))
def N_ticks_needed_ : List Str := ["row", "lanes"]
/-- ticks_needed: slots 0 row, 1 lanes, -/
def w_ticks_needed (c : Cl) : WPs := (wRet (wCB oMax2 (wCons (wCB oMaxA (wCons (wVar 0) wNil)) (wCons (wBin oDiv (wBin oSub (wBin oAdd (wCB oSumA (wCons (wVar 0) wNil)) (wVar 1)) (wC (.int 1))) (wVar 1)) wNil))))
def N_fewest_ticks_ : List Str := ["needs", "lanes"]
/-- fewest_ticks: slots 0 needs, 1 lanes, -/
def w_fewest_ticks (c : Cl) : WPs := (wRet (wCall (sp_ticks_needed c) (wCons (wCall (sp_checked_needs c) (wCons (wVar 0) (wCons (wVar 1) wNil))) (wCons (wVar 1) wNil))))
def N_lane_plan_ : List Str := ["needs", "lanes", "row", "many", "ticks", "at", "job", "need", "_", "jobs"]
/-- lane_plan: slots 0 needs, 1 lanes, 2 row, 3 many, 4 ticks, 5 at, 6 job, 7 need, 8 _, 9 jobs, -/
def w_lane_plan (c : Cl) : WPs := (wSeq (wSet 2 (wCall (sp_checked_needs c) (wCons (wVar 0) (wCons (wVar 1) wNil))))
  (wSeq (wSet 3 (wCall (sp_ticks_needed c) (wCons (wVar 2) (wCons (wVar 1) wNil))))
  (wSeq (wSet 4 (wLcM (wRg1 (wVar 3)) (gN 8) wYes (wLstM wNil) [8]))
  (wSeq (wSet 5 (wC (.int 0)))
  (wSeq (wFor (wEnum (wVar 2)) (gT [(gN 6), (gN 7)]) (wFor (wRg1 (wVar 7)) (gN 8) (wSeq (wDrop (wMt oAppend (wBin oIx (wVar 4) (wBin oMod (wVar 5) (wVar 3))) (wCons (wVar 6) wNil)))
  (wAug 5 (oI0 fun i j => .int (i + j)) (wC (.int 1))))))
  (wRet (wCB oTuple (wCons (wLc (wIt (wVar 4)) (gN 9) wYes (wCB oTuple (wCons (wCB oSorted (wCons (wVar 9) wNil)) wNil)) [9]) wNil))))))))
def N__law_begin_ : List Str := ["script", "seed", "cell"]
/-- _law_begin: slots 0 script, 1 seed, 2 cell, -/
def w__law_begin (c : Cl) : WPs := (wSeq (wSet 1 (wC (.int 7)))
  (wSeq (wFor (wIt (wSl (wVar 0) wNoP (wP (wC (.int 63))))) (gN 2) (wSet 1 (wBin oMod (wCB oInt (wCons (wBin oAdd (wBin oAdd (wBin oMul (wVar 1) (wVar 1)) (wCB oInt (wCons (wVar 2) wNil))) (wC (.int 40503))) wNil)) (wC (.int 2147483647)))))
  (wRet (wLstM (wCons (wLc (wIt (wSl (wVar 0) wNoP (wP (wC (.int 63))))) (gN 2) wYes (wCB oInt (wCons (wVar 2) wNil)) [2]) (wCons (wC (.int 0)) (wCons (wC (.int 0)) (wCons (wC (.int 0)) (wCons (wVar 1) (wCons (wC (.int 0)) wNil))))))))))
def N__law_draw_ : List Str := ["state", "many", "cell", "found"]
/-- _law_draw: slots 0 state, 1 many, 2 cell, 3 found, -/
def w__law_draw (c : Cl) : WPs := (wSeq (wIf (wAnd (wTest (wBin oEq (wBin oIx (wVar 0) (wC (.int 2))) (wC (.int 0)))) (wTest (wBin oLt (wBin oIx (wVar 0) (wC (.int 1))) (wCB oLen (wCons (wBin oIx (wVar 0) (wC (.int 0))) wNil))))) (wSeq (wSet 2 (wBin oIx (wBin oIx (wVar 0) (wC (.int 0))) (wBin oIx (wVar 0) (wC (.int 1)))))
  (wSeq (wAugI (oI0 fun i j => .int (i + j)) (wVar 0) (wC (.int 1)) (wC (.int 1)))
  (wIf (wTest (wBin oGe (wCB oAbs (wCons (wVar 2) wNil)) (wBin oPow (wC (.int 10)) (wC (.int 18))))) (wSeq (wSetI (wVar 0) (wC (.int 2)) (wCB oAbs (wCons (wVar 2) wNil)))
  (wSetI (wVar 0) (wC (.int 3)) (wC (.int 60)))) (wSetI (wVar 0) (wC (.int 4)) (wBin oMod (wCB oInt (wCons (wBin oAdd (wBin oMul (wBin oIx (wVar 0) (wC (.int 4))) (wBin oIx (wVar 0) (wC (.int 4)))) (wVar 2)) wNil)) (wC (.int 2147483647))))))) wNext)
  (wSeq (wIf (wTest (wBin oGt (wBin oIx (wVar 0) (wC (.int 2))) (wC (.int 0)))) (wSeq (wSet 3 (wBin oMod (wCB oInt (wCons (wBin oIx (wVar 0) (wC (.int 2))) wNil)) (wVar 1)))
  (wSeq (wAugI oSub (wVar 0) (wC (.int 3)) (wC (.int 1)))
  (wSeq (wSetI (wVar 0) (wC (.int 2)) (wBin oDiv (wBin oIx (wVar 0) (wC (.int 2))) (wVar 1)))
  (wSeq (wIf (wTest (wBin oEq (wBin oIx (wVar 0) (wC (.int 3))) (wC (.int 0)))) (wSetI (wVar 0) (wC (.int 2)) (wC (.int 0))) wNext)
  (wRet (wVar 3)))))) wNext)
  (wSeq (wAugI (oI0 fun i j => .int (i + j)) (wVar 0) (wC (.int 5)) (wC (.int 1)))
  (wSeq (wSetI (wVar 0) (wC (.int 4)) (wBin oMod (wCB oInt (wCons (wBin oAdd (wBin oAdd (wBin oMul (wBin oIx (wVar 0) (wC (.int 4))) (wBin oIx (wVar 0) (wC (.int 4)))) (wC (.int 48271))) (wBin oIx (wVar 0) (wC (.int 5)))) wNil)) (wC (.int 2147483647))))
  (wSeq (wSetI (wVar 0) (wC (.int 4)) (wBin oMod (wCB oInt (wCons (wBin oAdd (wBin oMul (wBin oIx (wVar 0) (wC (.int 4))) (wBin oIx (wVar 0) (wC (.int 4)))) (wC (.int 69621))) wNil)) (wC (.int 2147483647))))
  (wRet (wBin oMod (wCB oInt (wCons (wBin oDiv (wBin oIx (wVar 0) (wC (.int 4))) (wC (.int 8))) wNil)) (wVar 1))))))))
def N__law_is_int_ : List Str := ["x"]
/-- _law_is_int: slots 0 x, -/
def w__law_is_int (c : Cl) : WPs := (wRet (wAndV (wIsi "int" (wVar 0)) (wNotV (wIsi "bool" (wVar 0)))))
def N__law_error_ : List Str := ["wrong", "kinds"]
/-- _law_error: slots 0 wrong, 1 kinds, -/
def w__law_error (c : Cl) (a dd C : Addr) : WPs := (wSeq (wSet 1 (wLst (wCons (wIsE c.K a dd C c.InvalidRow (wVar 0)) (wCons (wIsE c.K a dd C c.InvalidNumber (wVar 0)) wNil))))
  (wSeq (wSet 1 (wBin oAdd (wVar 1) (wLst (wCons (wIsE c.K a dd C c.Undefined (wVar 0)) (wCons (wIsE c.K a dd C c.InvalidLot (wVar 0)) wNil)))))
  (wSeq (wIf (wAnd (wTest (wBin oEq (wVar 1) (wLst (wCons (wC (.bl true)) (wCons (wC (.bl false)) (wCons (wC (.bl false)) (wCons (wC (.bl false)) wNil))))))) (wTest (wCall (sp__law_is_int c) (wCons (wExF c.K a dd C "place" (wVar 0)) wNil)))) (wRet (wTup (wCons (wC (.str "row")) (wCons (wExF c.K a dd C "place" (wVar 0)) wNil)))) wNext)
  (wSeq (wIf (wTest (wBin oEq (wVar 1) (wLst (wCons (wC (.bl false)) (wCons (wC (.bl true)) (wCons (wC (.bl false)) (wCons (wC (.bl false)) wNil))))))) (wRet (wTup (wCons (wC (.str "number")) (wCons (wCB oRepr (wCons (wExF c.K a dd C "number" (wVar 0)) wNil)) wNil)))) wNext)
  (wSeq (wIf (wTest (wBin oEq (wVar 1) (wLst (wCons (wC (.bl false)) (wCons (wC (.bl false)) (wCons (wC (.bl true)) (wCons (wC (.bl false)) wNil))))))) (wRet (wTup (wCons (wC (.str "undefined")) (wCons (wCB oRepr (wCons (wExF c.K a dd C "what" (wVar 0)) wNil)) wNil)))) wNext)
  (wRet (wTup (wCons (wC (.str "other")) (wCons (wC (.int 0)) wNil)))))))))
def N__law_wrong_lanes_ : List Str := ["state", "way"]
/-- _law_wrong_lanes: slots 0 state, 1 way, -/
def w__law_wrong_lanes (c : Cl) : WPs := (wSeq (wSet 1 (wCall (sp__law_draw c) (wCons (wVar 0) (wCons (wC (.int 10)) wNil))))
  (wSeq (wIf (wTest (wBin oLt (wVar 1) (wC (.int 7)))) (wRet (wBin oIx (wTup (wCons (wC .non) (wCons (wC (.bl true)) (wCons (wC (.str "2")) (wCons (wTup (wCons (wC (.int 2)) wNil)) (wCons (wC (.int 0)) (wCons (wC (.int 9)) (wCons (wC (.bl false)) wNil)))))))) (wVar 1))) wNext)
  (wSeq (wIf (wTest (wBin oEq (wVar 1) (wC (.int 7)))) (wRet (wBin oAdd (wC (.int 9)) (wCall (sp__law_draw c) (wCons (wVar 0) (wCons (wBin oPow (wC (.int 10)) (wC (.int 6))) wNil))))) wNext)
  (wSeq (wIf (wTest (wBin oEq (wVar 1) (wC (.int 8)))) (wRet (wBin oAdd (wBin oPow (wC (.int 10)) (wC (.int 50))) (wCall (sp__law_draw c) (wCons (wVar 0) (wCons (wC (.int 1000)) wNil))))) wNext)
  (wRet (wBin oSub (wUn oNeg (wC (.int 1))) (wCall (sp__law_draw c) (wCons (wVar 0) (wCons (wC (.int 100)) wNil)))))))))
def N__law_turning_ : List Str := ["state", "lanes", "more", "need", "rest", "needs", "k", "least", "part", "at"]
/-- _law_turning: slots 0 state, 1 lanes, 2 more, 3 need, 4 rest, 5 needs, 6 k, 7 least, 8 part, 9 at, -/
def w__law_turning (c : Cl) : WPs := (wSeq (wSet 3 (wBin oAdd (wC (.int 1)) (wCall (sp__law_draw c) (wCons (wVar 0) (wCons (wC (.int 30)) wNil)))))
  (wSeq (wSet 4 (wBin oAdd (wBin oMul (wVar 3) (wBin oSub (wVar 1) (wC (.int 1)))) (wVar 2)))
  (wSeq (wSet 5 (wLstM (wCons (wVar 3) wNil)))
  (wSeq (wFor (wRg1 (wC (.int 11))) (gN 6) (wIf (wTest (wBin oGt (wVar 4) (wC (.int 0)))) (wSeq (wSet 7 (wCB oMax2 (wCons (wC (.int 0)) (wCons (wBin oSub (wVar 4) (wBin oMul (wVar 3) (wBin oSub (wC (.int 10)) (wVar 6)))) wNil))))
  (wSeq (wSet 8 (wBin oAdd (wVar 7) (wCall (sp__law_draw c) (wCons (wVar 0) (wCons (wBin oAdd (wBin oSub (wCB oMin2 (wCons (wVar 4) (wCons (wVar 3) wNil))) (wVar 7)) (wC (.int 1))) wNil)))))
  (wSeq (wIf (wTest (wBin oGt (wVar 6) (wC (.int 7)))) (wSet 8 (wCB oMin2 (wCons (wVar 4) (wCons (wVar 3) wNil)))) wNext)
  (wSeq (wDrop (wMt oAppend (wVar 5) (wCons (wVar 8) wNil)))
  (wAug 4 oSub (wVar 8)))))) wNext))
  (wSeq (wSet 9 (wCall (sp__law_draw c) (wCons (wVar 0) (wCons (wCB oLen (wCons (wVar 5) wNil)) wNil))))
  (wRet (wBin oAdd (wSl (wVar 5) (wP (wVar 9)) wNoP) (wSl (wVar 5) wNoP (wP (wVar 9))))))))))
def N__law_needs_ : List Str := ["state", "lanes", "many", "way", "need", "needs", "k"]
/-- _law_needs: slots 0 state, 1 lanes, 2 many, 3 way, 4 need, 5 needs, 6 k, -/
def w__law_needs (c : Cl) : WPs := (wSeq (wSet 2 (wBin oAdd (wC (.int 1)) (wCall (sp__law_draw c) (wCons (wVar 0) (wCons (wC (.int 6)) wNil)))))
  (wSeq (wIf (wTest (wBin oEq (wCall (sp__law_draw c) (wCons (wVar 0) (wCons (wC (.int 4)) wNil))) (wC (.int 0)))) (wSet 2 (wBin oAdd (wC (.int 6)) (wVar 2))) wNext)
  (wSeq (wSet 3 (wCall (sp__law_draw c) (wCons (wVar 0) (wCons (wC (.int 7)) wNil))))
  (wSeq (wIf (wTest (wBin oEq (wVar 3) (wC (.int 0)))) (wRet (wLc (wRg1 (wVar 2)) (gN 6) wYes (wC (.int 0)) [6])) wNext)
  (wSeq (wIf (wTest (wBin oEq (wVar 3) (wC (.int 1)))) (wSeq (wSet 4 (wCall (sp__law_draw c) (wCons (wVar 0) (wCons (wC (.int 31)) wNil))))
  (wRet (wLc (wRg1 (wVar 2)) (gN 6) wYes (wVar 4) [6]))) wNext)
  (wSeq (wIf (wTest (wBin oEq (wVar 3) (wC (.int 2)))) (wSeq (wSet 5 (wLcM (wRg1 (wVar 2)) (gN 6) wYes (wCall (sp__law_draw c) (wCons (wVar 0) (wCons (wC (.int 4)) wNil))) [6]))
  (wSeq (wSetI (wVar 5) (wCall (sp__law_draw c) (wCons (wVar 0) (wCons (wVar 2) wNil))) (wBin oAdd (wC (.int 20)) (wCall (sp__law_draw c) (wCons (wVar 0) (wCons (wC (.int 11)) wNil)))))
  (wRet (wFrz (wVar 5))))) wNext)
  (wSeq (wIf (wTest (wBin oEq (wVar 3) (wC (.int 3)))) (wRet (wLc (wRg1 (wVar 2)) (gN 6) wYes (wCall (sp__law_draw c) (wCons (wVar 0) (wCons (wBin oAdd (wC (.int 2)) (wBin oMul (wC (.int 3)) (wCall (sp__law_draw c) (wCons (wVar 0) (wCons (wC (.int 2)) wNil))))) wNil))) [6])) wNext)
  (wSeq (wIf (wTest (wBin oLt (wVar 3) (wC (.int 6)))) (wRet (wCall (sp__law_turning c) (wCons (wVar 0) (wCons (wVar 1) (wCons (wBin oSub (wVar 3) (wC (.int 4))) wNil))))) wNext)
  (wRet (wLc (wRg1 (wVar 2)) (gN 6) wYes (wCall (sp__law_draw c) (wCons (wVar 0) (wCons (wC (.int 31)) wNil))) [6]))))))))))
def N__law_ask_ : List Str := ["door", "needs", "lanes", "wrong"]
/-- _law_ask: slots 0 door, 1 needs, 2 lanes, 3 wrong, -/
def w__law_ask (c : Cl) : WPs := (wTry c.K c.ServeError 3 (wSeq (wIf (wTest (wBin oEq (wVar 0) (wC (.int 0)))) (wRet (wTup (wCons (wC (.str "told")) (wCons (wCall (sp_fewest_ticks c) (wCons (wVar 1) (wCons (wVar 2) wNil))) wNil)))) wNext)
  (wRet (wTup (wCons (wC (.str "told")) (wCons (wCall (sp_lane_plan c) (wCons (wVar 1) (wCons (wVar 2) wNil))) wNil))))) (fun a dd C => (wRet (wCall (sp__law_error c a dd C) (wCons (wVar 3) wNil)))))
def N__law_lot_ : List Str := ["value", "many", "k"]
/-- _law_lot: slots 0 value, 1 many, 2 k, -/
def w__law_lot (c : Cl) : WPs := (wSeq (wIf (wNot (wTest (wIsi "tuple" (wVar 0)))) (wRet (wC (.bl false))) wNext)
  (wSeq (wFor (wRg1 (wCB oLen (wCons (wVar 0) wNil))) (gN 2) (wSeq (wIf (wOr (wNot (wTest (wCall (sp__law_is_int c) (wCons (wBin oIx (wVar 0) (wVar 2)) wNil)))) (wNot (wTest (wChain oLe oLt (wC (.int 0)) (wBin oIx (wVar 0) (wVar 2)) (wVar 1))))) (wRet (wC (.bl false))) wNext)
  (wIf (wAnd (wTest (wBin oGt (wVar 2) (wC (.int 0)))) (wTest (wBin oGe (wBin oIx (wVar 0) (wBin oSub (wVar 2) (wC (.int 1)))) (wBin oIx (wVar 0) (wVar 2))))) (wRet (wC (.bl false))) wNext)))
  (wRet (wC (.bl true)))))
def N__law_done_ : List Str := ["needs", "lanes", "ticks", "value", "left", "lot", "job", "need"]
/-- _law_done: slots 0 needs, 1 lanes, 2 ticks, 3 value, 4 left, 5 lot, 6 job, 7 need, -/
def w__law_done (c : Cl) : WPs := (wSeq (wIf (wOr (wNot (wTest (wIsi "tuple" (wVar 3)))) (wTest (wBin oNe (wCB oLen (wCons (wVar 3) wNil)) (wVar 2)))) (wRet (wC (.bl false))) wNext)
  (wSeq (wSet 4 (wCB oListM (wCons (wVar 0) wNil)))
  (wSeq (wFor (wIt (wVar 3)) (gN 5) (wSeq (wIf (wOr (wNot (wTest (wCall (sp__law_lot c) (wCons (wVar 5) (wCons (wCB oLen (wCons (wVar 0) wNil)) wNil))))) (wTest (wBin oGt (wCB oLen (wCons (wVar 5) wNil)) (wVar 1)))) (wRet (wC (.bl false))) wNext)
  (wFor (wIt (wVar 5)) (gN 6) (wAugI oSub (wVar 4) (wVar 6) (wC (.int 1))))))
  (wRet (wBin oEq (wVar 4) (wLc (wIt (wVar 0)) (gN 7) wYes (wC (.int 0)) [7]))))))
def N__law_right_ : List Str := ["state", "needs", "lanes", "ticks", "handed", "told", "plan", "again"]
/-- _law_right: slots 0 state, 1 needs, 2 lanes, 3 ticks, 4 handed, 5 told, 6 plan, 7 again, -/
def w__law_right (c : Cl) : WPs := (wSeq (wSet 3 (wCB oMax2 (wCons (wCB oMaxL (wCons (wVar 1) wNil)) (wCons (wBin oDiv (wBin oSub (wBin oAdd (wCB oSum (wCons (wVar 1) wNil)) (wVar 2)) (wC (.int 1))) (wVar 2)) wNil))))
  (wSeq (wSet 4 (wCB oList (wCons (wVar 1) wNil)))
  (wSeq (wIf (wTest (wBin oEq (wCall (sp__law_draw c) (wCons (wVar 0) (wCons (wC (.int 2)) wNil))) (wC (.int 0)))) (wSet 4 (wCB oTuple (wCons (wVar 1) wNil))) wNext)
  (wSeq (wSet 5 (wCall (sp__law_ask c) (wCons (wC (.int 0)) (wCons (wVar 4) (wCons (wVar 2) wNil)))))
  (wSeq (wIf (wOr (wTest (wBin oNe (wBin oIx (wVar 5) (wC (.int 0))) (wC (.str "told")))) (wOr (wNot (wTest (wCall (sp__law_is_int c) (wCons (wBin oIx (wVar 5) (wC (.int 1))) wNil)))) (wTest (wBin oNe (wBin oIx (wVar 5) (wC (.int 1))) (wVar 3))))) (wRet (wC (.bl false))) wNext)
  (wSeq (wSet 6 (wCall (sp__law_ask c) (wCons (wC (.int 1)) (wCons (wVar 4) (wCons (wVar 2) wNil)))))
  (wSeq (wIf (wOr (wTest (wBin oNe (wBin oIx (wVar 6) (wC (.int 0))) (wC (.str "told")))) (wNot (wTest (wCall (sp__law_done c) (wCons (wVar 1) (wCons (wVar 2) (wCons (wVar 3) (wCons (wBin oIx (wVar 6) (wC (.int 1))) wNil)))))))) (wRet (wC (.bl false))) wNext)
  (wSeq (wIf (wOr (wTest (wBin oNe (wCB oList (wCons (wVar 4) wNil)) (wVar 1))) (wTest (wBin oNe (wCallK (sp_fewest_ticks c) 0 2 [1, 0] wNil (wCons (wVar 2) (wCons (wVar 4) wNil))) (wVar 3)))) (wRet (wC (.bl false))) wNext)
  (wSeq (wSet 7 (wCallK (sp_lane_plan c) 0 2 [1, 0] wNil (wCons (wVar 2) (wCons (wCB oList (wCons (wVar 1) wNil)) wNil))))
  (wRet (wAndV (wCall (sp__law_done c) (wCons (wVar 1) (wCons (wVar 2) (wCons (wVar 3) (wCons (wVar 7) wNil))))) (wCall (sp__law_done c) (wCons (wVar 1) (wCons (wVar 2) (wCons (wVar 3) (wCons (wBin oIx (wVar 6) (wC (.int 1))) wNil))))))))))))))))
def N__law_wrong_needs_ : List Str := ["state", "needs", "way", "many", "wrong", "place", "far", "k"]
/-- _law_wrong_needs: slots 0 state, 1 needs, 2 way, 3 many, 4 wrong, 5 place, 6 far, 7 k, -/
def w__law_wrong_needs (c : Cl) : WPs := (wSeq (wSet 2 (wCall (sp__law_draw c) (wCons (wVar 0) (wCons (wC (.int 10)) wNil))))
  (wSeq (wIf (wTest (wBin oLt (wVar 2) (wC (.int 6)))) (wRet (wTup (wCons (wBin oIx (wTup (wCons (wC .non) (wCons (wC (.int 5)) (wCons (wC (.str "")) (wCons (wTup wNil) (wCons (wLst wNil) (wCons (wC (.bl true)) wNil))))))) (wVar 2)) (wCons (wC (.int 0)) wNil)))) wNext)
  (wSeq (wIf (wTest (wBin oEq (wVar 2) (wC (.int 6)))) (wSeq (wSet 3 (wBin oAdd (wC (.int 13)) (wCall (sp__law_draw c) (wCons (wVar 0) (wCons (wC (.int 10)) wNil)))))
  (wRet (wTup (wCons (wLc (wRg1 (wVar 3)) (gN 7) wYes (wBin oIx (wVar 1) (wBin oMod (wCB oInt (wCons (wVar 7) wNil)) (wCB oLen (wCons (wVar 1) wNil)))) [7]) (wCons (wC (.int 0)) wNil))))) wNext)
  (wSeq (wSet 4 (wCB oListM (wCons (wVar 1) wNil)))
  (wSeq (wSet 5 (wCall (sp__law_draw c) (wCons (wVar 0) (wCons (wCB oLen (wCons (wVar 1) wNil)) wNil))))
  (wSeq (wSet 6 (wBin oAdd (wC (.int 31)) (wCall (sp__law_draw c) (wCons (wVar 0) (wCons (wBin oPow (wC (.int 10)) (wC (.int 6))) wNil)))))
  (wSeq (wSetI (wVar 4) (wVar 5) (wBin oIx (wTup (wCons (wVar 6) (wCons (wC (.int 31)) (wCons (wUn oNeg (wC (.int 1))) (wCons (wC (.bl true)) (wCons (wC (.bl false)) (wCons (wC .non) (wCons (wC (.str "3")) (wCons (wTup (wCons (wC (.int 3)) wNil)) (wCons (wLst (wCons (wC (.int 3)) wNil)) (wCons (wBin oPow (wC (.int 10)) (wC (.int 50))) wNil))))))))))) (wCall (sp__law_draw c) (wCons (wVar 0) (wCons (wC (.int 10)) wNil)))))
  (wSeq (wIf (wAnd (wTest (wBin oEq (wVar 2) (wC (.int 7)))) (wTest (wBin oLt (wBin oAdd (wVar 5) (wC (.int 1))) (wCB oLen (wCons (wVar 4) wNil))))) (wSetI (wVar 4) (wBin oAdd (wVar 5) (wC (.int 1))) (wBin oSub (wUn oNeg (wC (.int 1))) (wCall (sp__law_draw c) (wCons (wVar 0) (wCons (wC (.int 50)) wNil))))) wNext)
  (wSeq (wIf (wTest (wBin oEq (wVar 2) (wC (.int 8)))) (wRet (wTup (wCons (wCB oTuple (wCons (wVar 4) wNil)) (wCons (wVar 5) wNil)))) wNext)
  (wRet (wTup (wCons (wFrz (wVar 4)) (wCons (wVar 5) wNil)))))))))))))
def N__law_refused_ : List Str := ["state", "needs", "lanes", "handed", "place", "wrong", "door"]
/-- _law_refused: slots 0 state, 1 needs, 2 lanes, 3 handed, 4 place, 5 wrong, 6 door, -/
def w__law_refused (c : Cl) : WPs := (wSeq (wAsgG (gT [(gN 3), (gN 4)]) (wCall (sp__law_wrong_needs c) (wCons (wVar 0) (wCons (wVar 1) wNil))))
  (wSeq (wSet 5 (wCall (sp__law_wrong_lanes c) (wCons (wVar 0) wNil)))
  (wSeq (wFor (wRg1 (wC (.int 2))) (gN 6) (wSeq (wIf (wTest (wBin oNe (wCall (sp__law_ask c) (wCons (wVar 6) (wCons (wVar 3) (wCons (wVar 2) wNil)))) (wTup (wCons (wC (.str "row")) (wCons (wVar 4) wNil))))) (wRet (wC (.bl false))) wNext)
  (wSeq (wIf (wTest (wBin oNe (wCall (sp__law_ask c) (wCons (wVar 6) (wCons (wCB oList (wCons (wVar 1) wNil)) (wCons (wVar 5) wNil)))) (wTup (wCons (wC (.str "number")) (wCons (wCB oRepr (wCons (wVar 5) wNil)) wNil))))) (wRet (wC (.bl false))) wNext)
  (wIf (wTest (wBin oNe (wCall (sp__law_ask c) (wCons (wVar 6) (wCons (wVar 3) (wCons (wVar 5) wNil)))) (wTup (wCons (wC (.str "row")) (wCons (wVar 4) wNil))))) (wRet (wC (.bl false))) wNext))))
  (wRet (wC (.bl true))))))
def N_law_ : List Str := ["script", "state", "first", "lanes", "k", "needs"]
/-- law: slots 0 script, 1 state, 2 first, 3 lanes, 4 k, 5 needs, -/
def w_law (c : Cl) : WPs := (wSeq (wSet 1 (wCall (sp__law_begin c) (wCons (wVar 0) wNil)))
  (wSeq (wSet 2 (wLst (wCons (wC (.int 0)) wNil)))
  (wSeq (wSet 3 (wC (.int 1)))
  (wSeq (wFor (wRg1 (wC (.int 3))) (gN 4) (wSeq (wSet 3 (wBin oAdd (wC (.int 1)) (wCall (sp__law_draw c) (wCons (wVar 1) (wCons (wC (.int 8)) wNil)))))
  (wSeq (wSet 5 (wCall (sp__law_needs c) (wCons (wVar 1) (wCons (wVar 3) wNil))))
  (wSeq (wIf (wNot (wTest (wCall (sp__law_right c) (wCons (wVar 1) (wCons (wVar 5) (wCons (wVar 3) wNil)))))) (wRet (wC (.bl false))) wNext)
  (wIf (wTest (wBin oEq (wVar 4) (wC (.int 0)))) (wSet 2 (wVar 5)) wNext)))))
  (wSeq (wIf (wOr (wNot (wTest (wCall (sp__law_right c) (wCons (wVar 1) (wCons (wLst (wCons (wC (.int 30)) (wCons (wC (.int 0)) (wCons (wC (.int 29)) (wCons (wC (.int 1)) (wCons (wC (.int 30)) wNil)))))) (wCons (wC (.int 3)) wNil)))))) (wNot (wTest (wCall (sp__law_right c) (wCons (wVar 1) (wCons (wLst (wCons (wBin oAdd (wC (.int 1)) (wVar 3)) (wCons (wC (.int 1)) wNil))) (wCons (wC (.int 2)) wNil))))))) (wRet (wC (.bl false))) wNext)
  (wSeq (wIf (wNot (wTest (wCall (sp__law_refused c) (wCons (wVar 1) (wCons (wVar 2) (wCons (wVar 3) wNil)))))) (wRet (wC (.bl false))) wNext)
  (wRet (wCall (sp__law_right c) (wCons (wVar 1) (wCons (wVar 2) (wCons (wVar 3) wNil)))))))))))
end K19
set_option Elab.async false
set_option linter.all false
set_option maxRecDepth 100000
set_option maxHeartbeats 1000000
namespace K19
open PySem PySem.Spec PyProof.Rows L2 DL
local macro_rules | `(tactic| walk_at "r") => `(tactic| try simp only [wSeq, wNext, wSet, wC, wFor, wIt, wRg1, wRg2, wVar, wIf, wAnd, wOr, wNot, wTest, wChain, wBin, wCB, wCons, wNil, wSl, wP, wNoP, wRet, wRetN, wDrop, wCall, wTup, wLst, wLstM, wUn, wIfE, wAndV, wOrV, wNotV, wIsi, wYes, wSetI, wSetF, wFld, wAugF, wMt, wMeth, wLc, wLcM, wBreak, xcQ, fldD, setD, setIx, mutL, isIns, put_same, put_put, oAppend, oExtend,
  getV, setV, some!, one, two, asI, oLen, oLt, oLe, oGt, oGe, oI0, oI, oSub, oMul, oMod, oDiv, oPow, oAdd, oCatL, oEq, oNe, oIsN, oNotN, oIx, oSl, oTuple, oList, oMax2, oMin2, oInt, gN, seqA, seqL, seqM, dT, dL, List.length_map, decide_eq_true_eq, shD_int, shD_bl, shD_lst, shD_tup, eqD_int, eqD_bl, eqD_lst, eqD_tup, cutD_int, true_and, and_true, if_true, if_false, Bool.false_eq_true, Bool.true_eq_false, eq_self_iff_true,
  List.set_cons_zero, List.set_cons_succ, Bool.not_true, Bool.not_false, tyN, isNon, delVs, delV])
theorem seq_k {w u : WPs} {env : DE} {S : Sto} {q : QS} (h : ∀ q1 : QS, (∀ e s, u e s q → q1.nx e s) → q1.rt = q.rt → q1.bk = q.bk → q1.ct = q.ct → q1.xc = q.xc → w env S q1) : wSeq w u env S q :=
  h { q with nx := fun e s => u e s q } (fun _ _ z => z) rfl rfl rfl rfl
theorem kt1 : kitB "NoneType" "int" = some false := by decide +kernel
theorem kt2 : kitB "bool" "int" = some true := by decide +kernel
theorem kt3 : kitB "int" "int" = some true := by decide +kernel
theorem kt4 : kitB "str" "int" = some false := by decide +kernel
theorem kt5 : kitB "tuple" "int" = some false := by decide +kernel
theorem kt6 : kitB "list" "int" = some false := by decide +kernel
theorem kt7 : kitB "bool" "bool" = some true := by decide +kernel
theorem kt8 : kitB "int" "bool" = some false := by decide +kernel
theorem kr1 : kitAnyB "NoneType" ["tuple", "list"] = some false := by decide +kernel
theorem kr2 : kitAnyB "bool" ["tuple", "list"] = some false := by decide +kernel
theorem kr3 : kitAnyB "int" ["tuple", "list"] = some false := by decide +kernel
theorem kr4 : kitAnyB "str" ["tuple", "list"] = some false := by decide +kernel
theorem kr5 : kitAnyB "tuple" ["tuple", "list"] = some true := by decide +kernel
theorem kr6 : kitAnyB "list" ["tuple", "list"] = some true := by decide +kernel
/-- a value of a known class -/
theorem kn_cases {S : Sto} {d : D} (h : Kn S d) : d = .non ∨ (∃ b, d = .bl b) ∨ (∃ i, d = .int i) ∨ (∃ x, d = .str x) ∨ (∃ xs, d = .tup xs) ∨ (tyN S d = some "list" ∧ ∃ xs, seqL S d = some xs ∧ seqA S d = some xs) := by
  obtain ⟨n, h⟩ := h
  have key : (seqL S d).map (fun _ => "list") = some n → seqA S d = seqL S d → tyN S d = (seqL S d).map (fun _ => "list") → (tyN S d = some "list" ∧ ∃ xs, seqL S d = some xs ∧ seqA S d = some xs) := fun h1 h2 h3 => by
    cases e : seqL S d with
    | none => rw [e] at h1; cases h1
    | some xs => exact ⟨by rw [h3, e]; rfl, xs, rfl, by rw [h2, e]⟩
  cases d with
  | non => exact .inl rfl
  | bl b => exact .inr (.inl ⟨b, rfl⟩)
  | int i => exact .inr (.inr (.inl ⟨i, rfl⟩))
  | str x => exact .inr (.inr (.inr (.inl ⟨x, rfl⟩)))
  | tup xs => exact .inr (.inr (.inr (.inr (.inl ⟨xs, rfl⟩))))
  | lst xs => exact .inr (.inr (.inr (.inr (.inr (key h rfl rfl)))))
  | ref a => exact .inr (.inr (.inr (.inr (.inr (key h rfl rfl)))))
  | fro xs => exact .inr (.inr (.inr (.inr (.inr (key h rfl rfl)))))
  | obj C N xs => exact .inr (.inr (.inr (.inr (.inr (key h rfl rfl)))))
  | exc a dd C f x => exact .inr (.inr (.inr (.inr (.inr (key h rfl rfl)))))
theorem len_is_integer (c : Cl) : ∀ ds S Q E, sp_is_integer c ds S Q E → ds.length = 1 := by
  rintro ds S Q E ⟨_, rfl, _⟩; rfl
theorem list_not_int {S : Sto} {d : D} (h : tyN S d = some "list") : isInt d = false := by
  cases d with
  | int i => exact absurd (Option.some.inj (show some "int" = some "list" from h)) (by decide)
  | _ => rfl
theorem rd_is_integer (c : Cl) : ∀ ds S Q X1, sp_is_integer c ds S Q X1 → w_is_integer c (startD N_is_integer_ ds) S (endQ Q X1) := by
  rintro ds S Q X1 ⟨d, rfl, hk, h⟩
  show w_is_integer c [some d] S (endQ Q X1)
  unfold w_is_integer
  simp only [wRet, wAndV, wIsi, wNotV, wVar, getV, some!]
  rcases kn_cases hk with rfl | ⟨b, rfl⟩ | ⟨i, rfl⟩ | ⟨x, rfl⟩ | ⟨xs, rfl⟩ | ⟨e1, xs, e2, e3⟩
  · simp only [tyN, kt1, Bool.false_eq_true, if_false]; exact h
  · simp only [tyN, kt2, kt7, if_true, Bool.not_true]; exact h
  · simp only [tyN, kt3, kt8, if_true, Bool.not_false]; exact h
  · simp only [tyN, kt4, Bool.false_eq_true, if_false]; exact h
  · simp only [tyN, kt5, Bool.false_eq_true, if_false]; exact h
  · rw [list_not_int e1] at h
    simp only [e1, kt6, Bool.false_eq_true, if_false]; exact h
theorem len_is_from_to (c : Cl) : ∀ ds S Q E, sp_is_from_to c ds S Q E → ds.length = 3 := by
  rintro ds S Q E ⟨_, _, _, rfl, _⟩; rfl
theorem rd_is_from_to (c : Cl) : ∀ ds S Q X1, sp_is_from_to c ds S Q X1 → w_is_from_to c (startD N_is_from_to_ ds) S (endQ Q X1) := by
  rintro ds S Q X1 ⟨d, l, m, rfl, hk, h⟩
  show w_is_from_to c [some d, some (.int l), some (.int m)] S (endQ Q X1)
  unfold w_is_from_to
  simp only [wRet, wAndV, wCall, wCons, wNil, wVar, getV, some!]
  refine ⟨d, rfl, hk, ?_⟩
  cases d with
  | int v =>
    simp only [isInt, if_true, wChain, wVar, getV, some!, oLe, oI0]
    by_cases h1 : l ≤ v
    · simp only [decide_eq_true h1, if_true]
      have e : inR l m (.int v) = decide (v ≤ m) := by unfold inR; simp [h1]
      rw [e] at h
      exact h
    · simp only [decide_eq_false h1, Bool.false_eq_true, if_false]
      have e : inR l m (.int v) = false := by unfold inR; simp [h1]
      rw [e] at h
      exact h
  | _ => exact h
theorem len_is_row (c : Cl) : ∀ ds S Q E, sp_is_row c ds S Q E → ds.length = 1 := by
  rintro ds S Q E ⟨_, rfl, _⟩; rfl
theorem rd_is_row (c : Cl) : ∀ ds S Q X1, sp_is_row c ds S Q X1 → w_is_row c (startD N_is_row_ ds) S (endQ Q X1) := by
  rintro ds S Q X1 ⟨d, rfl, hk, h⟩
  show w_is_row c [some d] S (endQ Q X1)
  unfold w_is_row
  simp only [wRet, wIsiT, wVar, getV, some!]
  rcases kn_cases hk with rfl | ⟨b, rfl⟩ | ⟨i, rfl⟩ | ⟨x, rfl⟩ | ⟨xs, rfl⟩ | ⟨e1, xs, e2, e3⟩
  · simp only [tyN, kr1]; exact h
  · simp only [tyN, kr2]; exact h
  · simp only [tyN, kr3]; exact h
  · simp only [tyN, kr4]; exact h
  · simp only [tyN, kr5]; exact h
  · rw [e3] at h
    simp only [e1, kr6]; exact h
theorem len_check_number (c : Cl) : ∀ ds S Q E, sp_check_number c ds S Q E → ds.length = 3 := by
  rintro ds S Q E ⟨_, _, _, rfl, _⟩; rfl
theorem rd_check_number (c : Cl) : ∀ ds S Q X1, sp_check_number c ds S Q X1 → w_check_number c (startD N_check_number_ ds) S (endQ Q X1) := by
  rintro ds S Q X1 ⟨d, l, m, rfl, hk, h1, h2⟩
  show w_check_number c [some d, some (.int l), some (.int m)] S (endQ Q X1)
  unfold w_check_number
  simp only [wIf, wNot, wTest, wCall, wCons, wNil, wVar, getV, some!]
  refine ⟨d, l, m, rfl, hk, ?_⟩
  cases e : inR l m d with
  | true => simp only [Bool.not_true, Bool.false_eq_true, if_false, wNext]; exact h1 e
  | false => simp only [Bool.not_false, if_true, wRaise, wMkE, wVar, getV, some!, xcQ]; exact h2 e
end K19
set_option Elab.async false
set_option linter.all false
set_option maxRecDepth 100000
set_option maxHeartbeats 1000000
namespace K19
open PySem PySem.Spec PyProof.Rows L2 DL
local macro_rules | `(tactic| walk_at "r") => `(tactic| try simp only [wSeq, wNext, wSet, wC, wFor, wIt, wRg1, wRg2, wVar, wIf, wAnd, wOr, wNot, wTest, wChain, wBin, wCB, wCons, wNil, wSl, wP, wNoP, wRet, wRetN, wDrop, wCall, wTup, wLst, wLstM, wUn, wIfE, wAndV, wOrV, wNotV, wIsi, wYes, wSetI, wSetF, wFld, wAugF, wMt, wMeth, wLc, wLcM, wBreak, xcQ, fldD, setD, setIx, mutL, isIns, put_same, put_put, oAppend, oExtend,
  getV, setV, some!, one, two, asI, oLen, oLt, oLe, oGt, oGe, oI0, oI, oSub, oMul, oMod, oDiv, oPow, oAdd, oCatL, oEq, oNe, oIsN, oNotN, oIx, oSl, oTuple, oList, oMax2, oMin2, oInt, gN, seqA, seqL, seqM, dT, dL, List.length_map, decide_eq_true_eq, shD_int, shD_bl, shD_lst, shD_tup, eqD_int, eqD_bl, eqD_lst, eqD_tup, cutD_int, true_and, and_true, if_true, if_false, Bool.false_eq_true, Bool.true_eq_false, eq_self_iff_true,
  List.set_cons_zero, List.set_cons_succ, Bool.not_true, Bool.not_false, tyN, isNon, delVs, delV])
theorem oLen_of {S : Sto} {d : D} {xs : List D} {Q : Qd} (h : seqA S d = some xs) (q : Q (.int (xs.length : Nat)) S) : oLen S [d] Q := by
  cases d with
  | str x => cases h
  | _ =>
    simp only [oLen, one, h, some!]
    exact q
theorem len_check_length (c : Cl) : ∀ ds S Q E, sp_check_length c ds S Q E → ds.length = 3 := by
  rintro ds S Q E ⟨_, _, _, rfl, _⟩; rfl
theorem rd_check_length (c : Cl) : ∀ ds S Q X1, sp_check_length c ds S Q X1 → w_check_length c (startD N_check_length_ ds) S (endQ Q X1) := by
  rintro ds S Q X1 ⟨d, l, m, rfl, hk, h1, h2⟩
  show w_check_length c [some d, some (.int l), some (.int m)] S (endQ Q X1)
  unfold w_check_length
  simp only [wIf, wOr, wNot, wTest, wCall, wCons, wNil, wVar, getV, some!]
  refine ⟨d, rfl, hk, ?_⟩
  cases e : seqA S d with
  | none =>
    simp only [Option.isSome_none, Bool.not_false, if_true, wRaise, wMkE, wC, xcQ]
    exact h2 (by unfold lenR; rw [e])
  | some xs =>
    have e1 : lenR S l m d = decide (l ≤ (xs.length : Int) ∧ (xs.length : Int) ≤ m) := by unfold lenR; rw [e]
    simp only [Option.isSome_some, Bool.not_true, Bool.false_eq_true, if_false, wChain, wVar, wCB, wCons, wNil, getV, some!]
    refine oLen_of e ?_
    simp only [oLe, oI0]
    by_cases q1 : l ≤ (xs.length : Int)
    · simp only [decide_eq_true q1, if_true]
      by_cases q2 : (xs.length : Int) ≤ m
      · simp only [decide_eq_true q2, Bool.not_true, Bool.false_eq_true, if_false, wNext]
        exact h1 (by rw [e1]; exact decide_eq_true ⟨q1, q2⟩)
      · simp only [decide_eq_false q2, Bool.not_false, if_true, wRaise, wMkE, wC, xcQ]
        exact h2 (by rw [e1]; exact decide_eq_false fun z => q2 z.2)
    · simp only [decide_eq_false q1, Bool.false_eq_true, if_false, Bool.not_false, if_true, wRaise, wMkE, wC, xcQ]
      exact h2 (by rw [e1]; exact decide_eq_false fun z => q1 z.1)
end K19
set_option Elab.async false
set_option linter.all false
set_option maxRecDepth 100000
set_option maxHeartbeats 1000000
namespace K19
open PySem PySem.Spec PyProof.Rows L2 DL
theorem nums_bad {l m : Int} : ∀ (xs : List D) (j i : Nat) (y : D), (∀ (k : Nat) x, k < i → xs[k]? = some x → inR l m x = true) → xs[i]? = some y → inR l m y = false → numsAll l m j xs = .inr (j + i)
  | [], _, _, _, _, h, _ => by cases h
  | x :: r, j, 0, y, _, h, hb => by
    cases h
    unfold numsAll
    cases x with
    | int v =>
      have hb : decide (l ≤ v ∧ v ≤ m) = false := hb
      dsimp only
      rw [if_neg (of_decide_eq_false hb)]; rfl
    | _ => rfl
  | x :: r, j, i + 1, y, h0, h, hb => by
    have hx := h0 0 x (Nat.succ_pos _) rfl
    cases x with
    | int v =>
      have hx : decide (l ≤ v ∧ v ≤ m) = true := hx
      unfold numsAll
      dsimp only
      rw [if_pos (of_decide_eq_true hx), nums_bad r (j + 1) i y (fun k z hk hz => h0 (k + 1) z (Nat.succ_lt_succ hk) hz) h hb]
      dsimp only
      congr 1
      omega
    | _ => cases hx
theorem nums_good {l m : Int} : ∀ (xs : List D) (j : Nat), (∀ x, x ∈ xs → inR l m x = true) → ∃ ns, numsAll l m j xs = .inl ns ∧ xs = ns.map D.int ∧ ∀ n, n ∈ ns → l ≤ n ∧ n ≤ m
  | [], _, _ => ⟨[], rfl, rfl, fun n hn => by cases hn⟩
  | x :: r, j, h => by
    have hx := h x List.mem_cons_self
    cases x with
    | int v =>
      have hx : decide (l ≤ v ∧ v ≤ m) = true := hx
      have hv := of_decide_eq_true hx
      obtain ⟨ns, e1, e2, e3⟩ := nums_good r (j + 1) fun z hz => h z (List.mem_cons_of_mem _ hz)
      refine ⟨v :: ns, ?_, by rw [e2]; rfl, fun n hn => ?_⟩
      · unfold numsAll
        dsimp only
        rw [if_pos hv, e1]
      · rcases List.mem_cons.mp hn with rfl | hn
        · exact hv
        · exact e3 n hn
    | _ => cases hx
/-- what is told of numbers in order -/
theorem nums_of {S : Sto} {k l m : Int} {d : D} {ns : List Int} (h : numsOf S k l m d = .inl ns) : seqA S d = some (ns.map D.int) ∧ 1 ≤ (ns.length : Int) ∧ (ns.length : Int) ≤ k ∧ ∀ n, n ∈ ns → l ≤ n ∧ n ≤ m := by
  unfold numsOf at h
  cases e : seqA S d with
  | none => rw [e] at h; cases h
  | some xs =>
    rw [e] at h
    by_cases z : 1 ≤ (xs.length : Int) ∧ (xs.length : Int) ≤ k
    · have h : (if 1 ≤ (xs.length : Int) ∧ (xs.length : Int) ≤ k then numsAll l m 0 xs else .inr 0) = .inl ns := h
      rw [if_pos z] at h
      have all : ∀ x, x ∈ xs → inR l m x = true := fun x hx => by
        refine Classical.byContradiction fun hn => ?_
        -- the least wrong place
        have key : ∀ n : Nat, (∃ i y, i < n ∧ xs[i]? = some y ∧ inR l m y = false) → ∃ i y, (∀ (k : Nat) x, k < i → xs[k]? = some x → inR l m x = true) ∧ xs[i]? = some y ∧ inR l m y = false := by
          intro n
          induction n with
          | zero => rintro ⟨i, y, hi, _⟩; omega
          | succ n ih =>
            rintro ⟨i, y, hi, h1, h2⟩
            by_cases q : ∃ i y, i < n ∧ xs[i]? = some y ∧ inR l m y = false
            · exact ih q
            · refine ⟨i, y, fun k x hk hx => ?_, h1, h2⟩
              cases e : inR l m x with
              | true => rfl
              | false => exact absurd ⟨k, x, by omega, hx, e⟩ q
        obtain ⟨i, hi⟩ := List.mem_iff_getElem?.mp hx
        obtain ⟨i, y, h1, h2, h3⟩ := key (i + 1) ⟨i, x, Nat.lt_succ_self _, hi, by cases e : inR l m x with
          | true => exact absurd e hn
          | false => rfl⟩
        rw [nums_bad xs 0 i y h1 h2 h3] at h
        cases h
      obtain ⟨ns', e1, e2, e3⟩ := nums_good xs 0 all
      rw [e1] at h
      cases h
      subst e2
      rw [List.length_map] at z
      exact ⟨rfl, z.1, z.2, e3⟩
    · have h : (if 1 ≤ (xs.length : Int) ∧ (xs.length : Int) ≤ k then numsAll l m 0 xs else .inr 0) = .inl ns := h
      rw [if_neg z] at h
      cases h
theorem len_checked_numbers (c : Cl) : ∀ ds S Q E, sp_checked_numbers c ds S Q E → ds.length = 4 := by
  rintro ds S Q E ⟨_, _, _, _, rfl, _⟩; rfl
theorem tup_of {S : Sto} {d : D} {xs : List D} {Q : Qd} (h : seqA S d = some xs) (q : Q (.tup xs) S) : oTuple S [d] Q := by
  simp only [oTuple, one, h, some!]
  exact q
theorem rd_checked_numbers (c : Cl) : ∀ ds S Q X1, sp_checked_numbers c ds S Q X1 → w_checked_numbers c (startD N_checked_numbers_ ds) S (endQ Q X1) := by
  rintro ds S Q X1 ⟨d, k, l, m, rfl, ⟨hk, hk2⟩, h1, h2⟩
  show w_checked_numbers c [some d, some (.int k), some (.int l), some (.int m), none, none] S (endQ Q X1)
  unfold w_checked_numbers
  refine seq_k fun q1 n1 r1 _ _ x1 => ?_
  simp only [wDrop, wCall, wCons, wNil, wVar, wC, getV, some!]
  refine ⟨d, 1, k, rfl, hk, fun hl => n1 _ _ ?_, fun hl => ?_⟩
  · obtain ⟨xs, e, hlen⟩ : ∃ xs, seqA S d = some xs ∧ 1 ≤ (xs.length : Int) ∧ (xs.length : Int) ≤ k := by
      unfold lenR at hl
      cases e : seqA S d with
      | none => rw [e] at hl; cases hl
      | some xs =>
        rw [e] at hl
        exact ⟨xs, rfl, of_decide_eq_true hl⟩
    have eN : numsOf S k l m d = numsAll l m 0 xs := by
      unfold numsOf
      rw [e]
      exact if_pos hlen
    refine seq_k fun q1 n1 r1 _ _ x1 => ?_
    simp only [wFor, wEnum, wVar, getV, some!, e]
    refine forI_invq (fun i e S' => S' = S ∧ (∀ (k : Nat) x, k < i → xs[k]? = some x → inR l m x = true) ∧ ∃ x4 x5, e = [some d, some (.int k), some (.int l), some (.int m), x4, x5]) ⟨rfl, fun k x hk => absurd hk (Nat.not_lt_zero _), none, none, rfl⟩ (fun i e' S' ⟨e1, _⟩ => by rw [e1]; exact e) ?_ ?_
    · rintro i d' e' S' hi ⟨rfl, ha, x4, x5, rfl⟩ q hq hrt hbk hct hxc
      obtain ⟨x, hx, rfl⟩ := enumD_get hi
      have kx := hk2 xs e x (List.mem_of_getElem? hx)
      simp only [gT, gAll, gN, setV, Nat.zero_add]
      refine ⟨rfl, ?_⟩
      simp only [wIf, wNot, wTest, wCall, wCons, wNil, wVar, getV, some!]
      refine ⟨x, l, m, rfl, kx, ?_⟩
      cases ei : inR l m x with
      | true =>
        simp only [Bool.not_true, Bool.false_eq_true, if_false, wNext]
        refine hq _ _ ⟨rfl, fun k z hk hz => ?_, _, _, rfl⟩
        by_cases ek : k = i
        · subst ek; rw [hx] at hz; cases hz; exact ei
        · exact ha k z (by omega) hz
      | false =>
        simp only [Bool.not_false, if_true, wRaise, wMkE, wVar, getV, some!, xcQ]
        have := nums_bad xs 0 i x ha hx ei
        rw [Nat.zero_add] at this
        rw [hxc, x1]
        exact h2 i (by rw [eN]; exact this)
    · rintro e' S' ⟨rfl, ha, x4, x5, rfl⟩
      rw [enumD_length] at ha
      refine n1 _ _ ?_
      obtain ⟨ns, e1, e2, e3⟩ := nums_good (l := l) (m := m) xs 0 fun x hx => by
        obtain ⟨i, hi⟩ := List.mem_iff_getElem?.mp hx
        exact ha i x (lt_of_some hi) hi
      simp only [wRet, wCB, wCons, wNil, wVar, getV, some!]
      refine tup_of e ?_
      rw [e2]
      exact h1 ns (by rw [eN]; exact e1)
  · rw [show xcQ q1 _ = xcQ q1 _ from rfl]
    have : numsOf S k l m d = .inr 0 := by
      unfold lenR at hl
      unfold numsOf
      cases e : seqA S d with
      | none => rfl
      | some xs =>
        rw [e] at hl
        exact if_neg (of_decide_eq_false hl)
    have hq := h2 0 this
    simp only [xcQ]
    rw [x1]
    exact hq
theorem len_checked_needs (c : Cl) : ∀ ds S Q E, sp_checked_needs c ds S Q E → ds.length = 2 := by
  rintro ds S Q E ⟨_, _, rfl, _⟩; rfl
theorem rd_checked_needs (c : Cl) : ∀ ds S Q X1, sp_checked_needs c ds S Q X1 → w_checked_needs c (startD N_checked_needs_ ds) S (endQ Q X1) := by
  rintro ds S Q X1 ⟨d, v, rfl, hk, hv, h1, h2⟩
  show w_checked_needs c [some d, some v, none] S (endQ Q X1)
  unfold w_checked_needs
  refine seq_k fun q1 n1 r1 _ _ x1 => ?_
  simp only [wSet, wCall, wCons, wNil, wVar, wC, getV, setV, some!]
  refine ⟨d, 12, 0, 30, rfl, hk, fun ns hns => n1 _ _ ?_, fun p hp => ?_⟩
  · obtain ⟨g1, g2⟩ := h2 ns hns
    refine seq_k fun q1 n1 r1 _ _ x1 => ?_
    simp only [wDrop, wCall, wCons, wNil, wVar, wC, getV, some!]
    refine ⟨v, 1, 8, rfl, hv, fun hin => n1 _ _ ?_, fun hin => ?_⟩
    · simp only [wRet, wVar, getV, some!]
      exact g2 hin
    · simp only [xcQ]
      rw [x1]
      exact g1 hin
  · simp only [xcQ]
    rw [x1]
    exact h1 p hp
end K19
set_option Elab.async false
set_option linter.all false
set_option maxRecDepth 100000
set_option maxHeartbeats 1000000
namespace K19
open PySem PySem.Spec PyProof.Rows L2 DL
theorem len_ticks_needed (c : Cl) : ∀ ds S Q E, sp_ticks_needed c ds S Q E → ds.length = 2 := by
  rintro ds S Q E ⟨_, _, _, rfl, _⟩; rfl
theorem fold_top {ns : List Int} (h : ns ≠ []) (h0 : ∀ x, x ∈ ns → 0 ≤ x) {m : Int} (h1 : m ∈ ns) (h2 : ∀ y, y ∈ ns → y ≤ m) : m = ns.foldl max 0 := by
  obtain ⟨a, b⟩ := DL.fold_max ns 0
  have c := b m (List.mem_cons_of_mem _ h1)
  rcases List.mem_cons.mp a with z | z
  · have := h0 m h1; omega
  · have := h2 _ z; omega
theorem rd_ticks_needed (c : Cl) : ∀ ds S Q X1, sp_ticks_needed c ds S Q X1 → w_ticks_needed c (startD N_ticks_needed_ ds) S (endQ Q X1) := by
  rintro ds S Q X1 ⟨i, ns, n, rfl, ⟨h0, h12, h30⟩, ⟨n1, n8⟩, h⟩
  show w_ticks_needed c [some (dR i ns), some (.int n)] S (endQ Q X1)
  unfold w_ticks_needed
  have ad : ∀ i j S Q, oAdd S (.int i) (.int j) Q = Q (.int (i + j)) S := fun _ _ _ _ => rfl
  simp only [wRet, wCB, wBin, wCons, wNil, wVar, wC, getV, some!, oMaxA, oSumA, one, seqA_dR, toInts_map]
  refine ⟨List.length_pos_iff.mpr h0, fun m m1 m2 => ?_⟩
  have em := fold_top h0 (fun x hx => (h30 x hx).1) m1 m2
  simp only [ad, oSub, oI0, oDiv, oI, oMax2, two]
  refine ⟨⟨by omega, by
    have e : n = 1 ∨ n = 2 ∨ n = 3 ∨ n = 4 ∨ n = 5 ∨ n = 6 ∨ n = 7 ∨ n = 8 := by omega
    rcases e with rfl | rfl | rfl | rfl | rfl | rfl | rfl | rfl <;> decide⟩, ?_⟩
  simp only [asI]
  unfold ticksF at h
  rw [← em] at h
  exact h
theorem len_fewest_ticks (c : Cl) : ∀ ds S Q E, sp_fewest_ticks c ds S Q E → ds.length = 2 := by
  rintro ds S Q E ⟨_, _, rfl, _⟩; rfl
theorem needs_of {S : Sto} {d : D} {ns : List Int} (h : numsOf S 12 0 30 d = .inl ns) : NeedsOk ns := by
  obtain ⟨_, h1, h2, h3⟩ := nums_of h
  exact ⟨fun z => by rw [z] at h1; exact absurd h1 (by decide), by omega, h3⟩
theorem in8 {v : D} (h : inR 1 8 v = true) : ∃ n, v = .int n ∧ 1 ≤ n ∧ n ≤ 8 := by
  cases v with
  | int n => exact ⟨n, rfl, of_decide_eq_true h⟩
  | _ => cases h
theorem rd_fewest_ticks (c : Cl) : ∀ ds S Q X1, sp_fewest_ticks c ds S Q X1 → w_fewest_ticks c (startD N_fewest_ticks_ ds) S (endQ Q X1) := by
  rintro ds S Q X1 ⟨d, v, rfl, hk, hv, h1, h2⟩
  show w_fewest_ticks c [some d, some v] S (endQ Q X1)
  unfold w_fewest_ticks
  simp only [wRet, wCall, wCons, wNil, wVar, getV, some!]
  refine ⟨d, v, rfl, hk, hv, fun p hp => ?_, fun ns hns => ⟨fun hin => ?_, fun hin => ?_⟩⟩
  · exact h1 p hp
  · exact (h2 ns hns).1 hin
  · obtain ⟨n, rfl, n1, n8⟩ := in8 hin
    exact ⟨true, ns, n, rfl, needs_of hns, ⟨n1, n8⟩, (h2 ns hns).2 n rfl hin⟩
end K19
set_option Elab.async false
set_option linter.all false
set_option maxRecDepth 100000
set_option maxHeartbeats 1000000
namespace K19
open PySem PySem.Spec PyProof.Rows L2 DL
/-- rows filled in turn: u jobs stand, the last t of them of job j -/
structure RR (T u j t : Nat) (rows : List (List Int)) : Prop where
  len : rows.length = T
  lens : 0 < T → ∃ q m, u = T * q + m ∧ m < T ∧ ∀ r row, rows[r]? = some row → row.length = if r < m then q + 1 else q
  ris : ∀ r row, rows[r]? = some row → row.Pairwise (· < ·) ∧ (∀ x, x ∈ row → 0 ≤ x ∧ x ≤ (j : Int)) ∧ ((j : Int) ∈ row → ∃ s, 1 ≤ s ∧ s ≤ t ∧ (r + s) % T = u % T)
def cntR (rows : List (List Int)) (i : Int) : Nat := (rows.map fun lot => lot.count i).sum
theorem cntR_nil {i : Int} : ∀ T, cntR (List.replicate T []) i = 0
  | 0 => rfl
  | T + 1 => by
    have := cntR_nil (i := i) T
    unfold cntR at this ⊢
    rw [List.replicate_succ, List.map_cons, List.sum_cons, this]
    rfl
theorem cntR_set {i j : Int} : ∀ (rows : List (List Int)) (r : Nat) (row : List Int), rows[r]? = some row → cntR (rows.set r (row ++ [j])) i = cntR rows i + (if j = i then 1 else 0)
  | [], r, row, h => by simp at h
  | x :: rs, 0, row, h => by
    cases h
    unfold cntR
    rw [List.set_cons_zero, List.map_cons, List.sum_cons, List.map_cons, List.sum_cons, List.count_append, List.count_singleton]
    have e : ((j == i) = true) = (j = i) := by simp
    simp only [e]
    omega
  | x :: rs, r + 1, row, h => by
    have := cntR_set (i := i) (j := j) rs r row h
    unfold cntR at this ⊢
    rw [List.set_cons_succ, List.map_cons, List.sum_cons, List.map_cons, List.sum_cons, this]
    omega
theorem RR.start (T : Nat) : RR T 0 0 0 (List.replicate T []) where
  len := List.length_replicate
  lens := fun h => ⟨0, 0, by omega, h, fun r row hr => by
    have := List.mem_of_getElem? hr
    rw [List.eq_of_mem_replicate this]; simp⟩
  ris := fun r row hr => by
    have := List.mem_of_getElem? hr
    rw [List.eq_of_mem_replicate this]
    exact ⟨List.Pairwise.nil, ⟨fun x h => (by cases h), fun h => (by cases h)⟩⟩
/-- the job stands not yet where it comes to stand -/
theorem RR.fresh {T u j t : Nat} {rows : List (List Int)} (R : RR T u j t rows) (ht : t < T) {row : List Int} (h : rows[u % T]? = some row) : (j : Int) ∉ row := fun hm => by
  obtain ⟨s, s1, s2, s3⟩ := (R.ris _ _ h).2.2 hm
  have hm2 : u % T < T := Nat.mod_lt _ (by omega)
  have hs : s < T := by omega
  by_cases z : u % T + s < T
  · rw [Nat.mod_eq_of_lt z] at s3; omega
  · rw [Nat.mod_eq_sub_mod (by omega), Nat.mod_eq_of_lt (by omega)] at s3; omega
theorem RR.step {T u j t : Nat} {rows : List (List Int)} (R : RR T u j t rows) (ht : t < T) {row : List Int} (h : rows[u % T]? = some row) : RR T (u + 1) j (t + 1) (rows.set (u % T) (row ++ [(j : Int)])) where
  len := by rw [List.length_set]; exact R.len
  lens := fun h0 => by
    obtain ⟨q, m, hu, hm, hl⟩ := R.lens h0
    have em : u % T = m := by rw [hu, Nat.mul_add_mod, Nat.mod_eq_of_lt hm]
    rw [em] at h ⊢
    have el := hl m row h
    rw [if_neg (Nat.lt_irrefl _)] at el
    by_cases z : m + 1 < T
    · refine ⟨q, m + 1, by omega, z, fun r row' hr => ?_⟩
      rw [List.getElem?_set] at hr
      by_cases e : m = r
      · subst e
        rw [if_pos rfl] at hr
        split at hr
        · cases hr
          rw [List.length_append, el, if_pos (Nat.lt_succ_self _)]; rfl
        · cases hr
      · rw [if_neg e] at hr
        rw [hl r row' hr]
        by_cases y : r < m
        · rw [if_pos y, if_pos (by omega)]
        · rw [if_neg y, if_neg (by omega)]
    · refine ⟨q + 1, 0, by rw [Nat.mul_add, Nat.mul_one]; omega, by omega, fun r row' hr => ?_⟩
      have hr2 : r < rows.length := by have := lt_of_some hr; rw [List.length_set] at this; exact this
      rw [R.len] at hr2
      rw [if_neg (Nat.not_lt_zero _)]
      rw [List.getElem?_set] at hr
      by_cases e : m = r
      · subst e
        rw [if_pos rfl] at hr
        split at hr
        · cases hr
          rw [List.length_append, el]; rfl
        · cases hr
      · rw [if_neg e] at hr
        rw [hl r row' hr, if_pos (by omega)]
  ris := fun r row' hr => by
    have T0 : 0 < T := by omega
    rw [List.getElem?_set] at hr
    by_cases e : u % T = r
    · rw [if_pos e] at hr
      split at hr
      · cases hr
        obtain ⟨a1, a2, _⟩ := R.ris _ _ h
        have nf := R.fresh ht h
        refine ⟨List.pairwise_append.mpr ⟨a1, List.pairwise_singleton _ _, fun x hx y hy => ?_⟩, fun x hx => ?_, fun _ => ⟨1, Nat.le_refl _, by omega, ?_⟩⟩
        · rw [List.mem_singleton] at hy
          subst hy
          have := (a2 x hx).2
          rcases Int.lt_or_eq_of_le this with y | y
          · exact y
          · rw [y] at hx; exact absurd hx nf
        · rcases List.mem_append.mp hx with z | z
          · exact a2 x z
          · rw [List.mem_singleton] at z; subst z; omega
        · rw [← e, Nat.mod_add_mod]
      · cases hr
    · rw [if_neg e] at hr
      obtain ⟨a1, a2, a3⟩ := R.ris _ _ hr
      refine ⟨a1, a2, fun hx => ?_⟩
      obtain ⟨s, s1, s2, s3⟩ := a3 hx
      refine ⟨s + 1, by omega, by omega, ?_⟩
      rw [← Nat.add_assoc, Nat.add_mod, s3, ← Nat.add_mod]
theorem RR.low {T u j : Nat} {rows : List (List Int)} (R : RR T u j 0 rows) {r : Nat} {row : List Int} (h : rows[r]? = some row) {x : Int} (hx : x ∈ row) : 0 ≤ x ∧ x < (j : Int) := by
  obtain ⟨_, a2, a3⟩ := R.ris _ _ h
  have := a2 x hx
  rcases Int.lt_or_eq_of_le this.2 with y | y
  · exact ⟨this.1, y⟩
  · rw [y] at hx
    obtain ⟨s, s1, s2, _⟩ := a3 hx
    omega
theorem RR.next {T u j t : Nat} {rows : List (List Int)} (R : RR T u j t rows) : RR T u (j + 1) 0 rows where
  len := R.len
  lens := R.lens
  ris := fun r row h => by
    obtain ⟨a1, a2, a3⟩ := R.ris _ _ h
    refine ⟨a1, fun x hx => ?_, fun hx => ?_⟩
    · have := a2 x hx; omega
    · have := a2 _ hx; omega
theorem RR.short {T u j t n : Nat} {rows : List (List Int)} (R : RR T u j t rows) (hn : u ≤ n * T) : ∀ row, row ∈ rows → row.length ≤ n := fun row hr => by
  obtain ⟨r, hr⟩ := List.mem_iff_getElem?.mp hr
  have hl := lt_of_some hr
  rw [R.len] at hl
  obtain ⟨q, m, hu, hm, h⟩ := R.lens (by omega)
  have := h r row hr
  rw [Nat.mul_comm n T] at hn
  have hT : 0 < T := by omega
  have hq : q ≤ n := Nat.le_of_mul_le_mul_left (show T * q ≤ T * n by omega) hT
  by_cases y : r < m
  · rw [if_pos y] at this
    have : q ≠ n := fun z => by rw [z] at hu; omega
    omega
  · rw [if_neg y] at this; omega
/-- the invariant of filling -/
structure Fill (ns : List Int) (T j t : Nat) (rows : List (List Int)) (u : Nat) : Prop where
  rr : RR T u j t rows
  su : (u : Int) = (ns.take j).sum + t
  cnt : ∀ i : Nat, (cntR rows (i : Int) : Int) = if i < j then ns.getD i 0 else if i = j then (t : Int) else 0
theorem Fill.start (ns : List Int) (T : Nat) : Fill ns T 0 0 (List.replicate T []) 0 where
  rr := RR.start T
  su := rfl
  cnt := fun i => by
    rw [cntR_nil, if_neg (Nat.not_lt_zero _)]
    split <;> rfl
theorem Fill.step {ns : List Int} {T j t u : Nat} {rows : List (List Int)} (F : Fill ns T j t rows u) (ht : t < T) {row : List Int} (h : rows[u % T]? = some row) : Fill ns T j (t + 1) (rows.set (u % T) (row ++ [(j : Int)])) (u + 1) where
  rr := F.rr.step ht h
  su := by have := F.su; omega
  cnt := fun i => by
    have := F.cnt i
    rw [cntR_set _ _ _ h]
    by_cases z : i < j
    · rw [if_pos z] at this ⊢
      rw [if_neg (by omega)]; omega
    · rw [if_neg z] at this ⊢
      by_cases y : i = j
      · rw [if_pos y] at this ⊢
        rw [if_pos (by omega)]; omega
      · rw [if_neg y] at this ⊢
        rw [if_neg (by omega)]; omega
theorem sum_take_succ {j : Nat} {v : Int} : ∀ (ns : List Int), ns[j]? = some v → (ns.take (j + 1)).sum = (ns.take j).sum + v := fun ns h => by
  rw [List.take_succ, h]
  simp
theorem Fill.next {ns : List Int} {T j t u : Nat} {rows : List (List Int)} (F : Fill ns T j t rows u) (h : ns[j]? = some (t : Int)) : Fill ns T (j + 1) 0 rows u where
  rr := F.rr.next
  su := by have := F.su; rw [sum_take_succ ns h]; omega
  cnt := fun i => by
    have := F.cnt i
    rw [this]
    by_cases z : i < j
    · rw [if_pos z, if_pos (by omega)]
    · rw [if_neg z]
      by_cases y : i = j
      · subst y
        rw [if_pos rfl, if_pos (by omega), List.getD_eq_getElem?_getD, h]; rfl
      · rw [if_neg y, if_neg (by omega)]
        split <;> rfl
theorem ticks_ge {ns : List Int} {n : Int} {x : Int} (h : x ∈ ns) : x ≤ ticksF ns n := by
  have h2 := (DL.fold_max ns 0).2 x (List.mem_cons_of_mem _ h)
  unfold ticksF; omega
theorem ticks_nn (ns : List Int) (n : Int) : 0 ≤ ticksF ns n := by
  have h2 := (DL.fold_max ns 0).2 0 List.mem_cons_self
  unfold ticksF; omega
theorem ticks_sum {ns : List Int} {n : Int} (hn : 1 ≤ n) : ns.sum ≤ n * ticksF ns n := by
  have h : (ns.sum + n - 1) / n ≤ ticksF ns n := by unfold ticksF; omega
  have e := Int.mul_ediv_add_emod (ns.sum + n - 1) n
  have e2 := Int.emod_lt_of_pos (ns.sum + n - 1) (show 0 < n by omega)
  have := Int.mul_le_mul_of_nonneg_left h (show 0 ≤ n by omega)
  omega
theorem Fill.plan {ns : List Int} {n : Int} {T u : Nat} {rows : List (List Int)} (F : Fill ns T ns.length 0 rows u) (hT : (T : Int) = ticksF ns n) (hn : 1 ≤ n) : PlanOk ns n rows where
  len := by rw [F.rr.len]; exact hT
  lots := fun lot hl => by
    obtain ⟨r, hr⟩ := List.mem_iff_getElem?.mp hl
    refine ⟨(F.rr.ris _ _ hr).1, fun x hx => F.rr.low hr hx, ?_⟩
    have su := F.su
    rw [List.take_length] at su
    have hs := ticks_sum (ns := ns) hn
    rw [← hT] at hs
    have : lot.length ≤ n.toNat := F.rr.short (n := n.toNat) (by
      have e : ((n.toNat * T : Nat) : Int) = n * T := by rw [Int.natCast_mul, Int.toNat_of_nonneg (by omega)]
      have : (u : Int) ≤ ((n.toNat * T : Nat) : Int) := by rw [e]; omega
      omega) lot hl
    omega
  all := fun i v hv => by
    have := F.cnt i
    have hi := lt_of_some hv
    rw [if_pos hi, List.getD_eq_getElem?_getD, hv] at this
    exact this
end K19
set_option Elab.async false
set_option linter.all false
set_option maxRecDepth 100000
set_option maxHeartbeats 1000000
namespace K19
open PySem PySem.Spec PyProof.Rows L2 DL
theorem oIx_eq {S : Sto} {x d : D} {i : Int} {xs : List D} (h : seqA S x = some xs) (h2 : atI xs i = some d) (Q : Qd) : oIx S x (.int i) Q = Q d S := by
  show some! (seqA S x) _ = _
  rw [h]
  show some! (atI xs i) _ = _
  rw [h2]
  rfl
theorem at_k {α : Type} {xs : List α} {k : Nat} {x : α} (h : xs[k]? = some x) : atI xs (k : Int) = some x := by
  have hl := lt_of_some h
  unfold atI ixN
  rw [if_pos (by omega), if_pos (by omega)]
  show xs[(k : Int).toNat]? = _
  rw [Int.toNat_natCast]; exact h
theorem seqA_at {S : Sto} {p : Addr} {xs : List D} (h : S p = some (.lst xs)) : seqA S (.ref p) = some xs := by
  show (match S p with | some (MO.lst xs) => some xs | _ => none) = _
  rw [h]
theorem seqL_at {S : Sto} {p : Addr} {xs : List D} (h : S p = some (.lst xs)) : seqL S (.ref p) = some xs := seqA_at h
theorem ext_put {S S' : Sto} {p : Addr} {m : MO} (e : Ext S S') (h : S' p = none) : Ext S (put S' p m) := fun a n z => by
  have := e a n z
  rw [put_ne (fun y => by rw [y, h] at this; cases this)]; exact this
theorem ext_none {S S' : Sto} {p : Addr} (e : Ext S S') (h : S' p = none) : S p = none := by
  cases z : S p with
  | none => rfl
  | some m => rw [e p m z] at h; cases h
theorem ext_chg {S S' : Sto} {p : Addr} {m : MO} (e : Ext S S') (h : S p = none) : Ext S (put S' p m) := fun a n z => by
  rw [put_ne (fun y => by rw [y, h] at z; cases z)]; exact e a n z
theorem len_lane_plan (c : Cl) : ∀ ds S Q E, sp_lane_plan c ds S Q E → ds.length = 2 := by
  rintro ds S Q E ⟨_, _, rfl, _⟩; rfl
/-- rows that stand at addresses of their own -/
structure Rws (S S' : Sto) (cs : List Addr) (rows : List (List Int)) : Prop where
  ext : Ext S S'
  nd : cs.Nodup
  len : cs.length = rows.length
  new : ∀ c, c ∈ cs → S c = none
  is : ∀ (i : Nat) c row, cs[i]? = some c → rows[i]? = some row → S' c = some (.lst (row.map D.int))
theorem Rws.there {S S' : Sto} {cs : List Addr} {rows : List (List Int)} (R : Rws S S' cs rows) {c : Addr} (h : c ∈ cs) : ∃ row : List Int, S' c = some (.lst (row.map D.int)) := by
  obtain ⟨i, hi⟩ := List.mem_iff_getElem?.mp h
  obtain ⟨row, hr⟩ : ∃ row, rows[i]? = some row := ⟨_, List.getElem?_eq_getElem (by rw [← R.len]; exact lt_of_some hi)⟩
  exact ⟨row, R.is i c row hi hr⟩
theorem Rws.add {S S' : Sto} {cs : List Addr} {rows : List (List Int)} (R : Rws S S' cs rows) {p : Addr} (h : S' p = none) : Rws S (put S' p (.lst [])) (cs ++ [p]) (rows ++ [[]]) where
  ext := ext_put R.ext h
  nd := by
    refine List.nodup_append.mpr ⟨R.nd, List.nodup_cons.mpr ⟨fun h => (by cases h), List.nodup_nil⟩, fun a ha b hb e => ?_⟩
    rw [List.mem_singleton] at hb
    subst hb
    subst e
    obtain ⟨row, hr⟩ := R.there ha
    rw [h] at hr; cases hr
  len := by rw [List.length_append, List.length_append, R.len]; rfl
  new := fun c hc => by
    rcases List.mem_append.mp hc with z | z
    · exact R.new c z
    · rw [List.mem_singleton] at z; subst z
      exact ext_none R.ext h
  is := fun i c row h1 h2 => by
    by_cases z : i < cs.length
    · rw [List.getElem?_append_left z] at h1
      rw [List.getElem?_append_left (by rw [← R.len]; exact z)] at h2
      have := R.is i c row h1 h2
      rw [put_ne (fun y => by rw [y, h] at this; cases this)]; exact this
    · have l1 := lt_of_some h1
      rw [List.length_append] at l1
      have ej : i = cs.length := by have : i < cs.length + 1 := l1; omega
      subst ej
      rw [List.getElem?_append_right (Nat.le_refl _), Nat.sub_self] at h1
      rw [R.len, List.getElem?_append_right (Nat.le_refl _), Nat.sub_self] at h2
      cases h1
      cases h2
      exact put_same
theorem Rws.put_at {S S' : Sto} {cs : List Addr} {rows : List (List Int)} (R : Rws S S' cs rows) {i : Nat} {c : Addr} {row : List Int} (h : cs[i]? = some c) : Rws S (put S' c (.lst (row.map D.int))) cs (rows.set i row) where
  ext := ext_chg R.ext (R.new c (List.mem_of_getElem? h))
  nd := R.nd
  len := by rw [List.length_set]; exact R.len
  new := R.new
  is := fun k b row' h1 h2 => by
    by_cases e : k = i
    · subst e
      rw [h] at h1
      cases h1
      rw [List.getElem?_set, if_pos rfl] at h2
      split at h2
      · cases h2; exact put_same
      · cases h2
    · have hb : b ≠ c := fun z => by
        subst z
        obtain ⟨l1, g1⟩ := List.getElem?_eq_some_iff.mp h1
        obtain ⟨l2, g2⟩ := List.getElem?_eq_some_iff.mp h
        have nd := List.pairwise_iff_getElem.mp R.nd
        rcases Nat.lt_or_ge k i with z | z
        · exact nd k i l1 l2 z (g1.trans g2.symm)
        · exact nd i k l2 l1 (by omega) (g2.trans g1.symm)
      rw [List.getElem?_set, if_neg (fun z => e z.symm)] at h2
      rw [put_ne hb]; exact R.is k b row' h1 h2
theorem Rws.put_p {S S' : Sto} {cs : List Addr} {rows : List (List Int)} (R : Rws S S' cs rows) {p : Addr} {m : MO} (h : S' p = none) : Rws S (put S' p m) cs rows where
  ext := ext_put R.ext h
  nd := R.nd
  len := R.len
  new := R.new
  is := fun k b row h1 h2 => by
    have := R.is k b row h1 h2
    rw [put_ne (fun y => by rw [y, h] at this; cases this)]; exact this
theorem sum_le {ns : List Int} (h : ∀ x, x ∈ ns → 0 ≤ x ∧ x ≤ 30) : 0 ≤ ns.sum ∧ ns.sum ≤ 30 * (ns.length : Int) := by
  induction ns with
  | nil => exact ⟨Int.le_refl _, by decide⟩
  | cons a r ih =>
    have := ih fun x hx => h x (List.mem_cons_of_mem _ hx)
    have := h a List.mem_cons_self
    rw [List.sum_cons, List.length_cons]
    omega
theorem perm_same : ∀ {a b : List Int}, a.Perm b → a.Pairwise (· ≤ ·) → b.Pairwise (· < ·) → a = b := fun {a b} p ha hb => by
  refine p.eq_of_pairwise (le := fun x y => decide (x ≤ y)) (fun x y _ _ h1 h2 => ?_) ?_ ?_
  · have := of_decide_eq_true h1
    have := of_decide_eq_true h2
    omega
  · exact ha.imp fun h => decide_eq_true h
  · exact hb.imp fun h => decide_eq_true (Int.le_of_lt h)
theorem rd_lane_plan (c : Cl) : ∀ ds S Q X1, sp_lane_plan c ds S Q X1 → w_lane_plan c (startD N_lane_plan_ ds) S (endQ Q X1) := by
  rintro ds S Q X1 ⟨d, v, rfl, hk, hv, h1, h2⟩
  show w_lane_plan c [some d, some v, none, none, none, none, none, none, none, none] S (endQ Q X1)
  unfold w_lane_plan
  refine seq_k fun q1 n1 r1 _ _ x1 => ?_
  simp only [wSet, wCall, wCons, wNil, wVar, getV, setV, some!]
  refine ⟨d, v, rfl, hk, hv, fun p hp => ?_, fun ns hns => ⟨fun hin => ?_, fun hin => n1 _ _ ?_⟩⟩
  · simp only [xcQ]
    rw [x1]
    exact h1 p hp
  · simp only [xcQ]
    rw [x1]
    exact (h2 ns hns).1 hin
  obtain ⟨n, rfl, n1', n8⟩ := in8 hin
  have hq := (h2 ns hns).2 n rfl hin
  have hok := needs_of hns
  obtain ⟨k0, k12, k30⟩ := hok
  clear h1 h2
  refine seq_k fun q1 n1 r1 _ _ x1 => ?_
  simp only [wSet, wCall, wCons, wNil, wVar, getV, setV, some!]
  refine ⟨true, ns, n, rfl, ⟨k0, k12, k30⟩, ⟨n1', n8⟩, n1 _ _ ?_⟩
  obtain ⟨T, hT⟩ : ∃ T : Nat, ticksF ns n = (T : Int) := ⟨(ticksF ns n).toNat, (Int.toNat_of_nonneg (ticks_nn ns n)).symm⟩
  have hTle : T ≤ 1000 := by
    have hs : ns.sum ≤ 360 := by have := (sum_le k30).2; omega
    have hf : ns.foldl max 0 ≤ 30 := by
      rcases List.mem_cons.mp (DL.fold_max ns 0).1 with z | z
      · omega
      · exact (k30 _ z).2
    have hd : (ns.sum + n - 1) / n ≤ 400 := by
      have : (ns.sum + n - 1) / n ≤ (ns.sum + n - 1) := Int.ediv_le_self _ (by have := (sum_le k30).1; omega)
      omega
    have : ticksF ns n ≤ 400 := by unfold ticksF; omega
    omega
  rw [hT]
  refine seq_k fun q1 n1 r1 _ _ x1 => ?_
  simp only [wSet, wLcM, wRg1, wVar, getV, setV, some!, asI, delVs, delV]
  refine ⟨⟨by omega, by omega⟩, by rw [rngD_length]; unfold sizeLine; omega, ?_⟩
  rw [Int.toNat_natCast]
  refine compI_inv (fun i acc S' => ∃ cs : List Addr, acc = cs.map D.ref ∧ Rws S S' cs (List.replicate i [])) ⟨[], rfl, fun _ _ z => z, List.nodup_nil, rfl, fun c h => (by cases h), fun i c row h => (by simp at h)⟩ (fun _ _ _ _ => trivial) ?_ ?_
  · rintro i d' acc S' hi ⟨cs, rfl, R⟩
    simp only [gN, setV, wYes, wLstM, wNil, if_true]
    refine ⟨by show 0 ≤ sizeLine; exact Nat.zero_le _, fun p hp => ⟨cs ++ [p], by rw [List.map_append]; rfl, ?_⟩⟩
    rw [List.replicate_succ']
    exact R.add hp
  rintro acc S1 ⟨cs, rfl, R⟩
  rw [rngD_length] at R
  refine fun p hp => n1 _ _ ?_
  have R := R.put_p (m := .lst (cs.map D.ref)) hp
  have hpn : S p = none := by
    cases z : S p with
    | none => rfl
    | some m => have := R.ext p m z; rw [put_same] at this; rename_i R0; rw [R0.ext p m z] at hp; cases hp
  have hpc : p ∉ cs := fun z => by
    obtain ⟨row, hr⟩ := (‹Rws S S1 cs _›).there z
    rw [hp] at hr; cases hr
  have hat : put S1 p (.lst (cs.map D.ref)) p = some (.lst (cs.map D.ref)) := put_same
  generalize put S1 p (.lst (cs.map D.ref)) = S2 at R hat
  clear hp
  refine seq_k fun q1 n1 r1 _ _ x1 => ?_
  simp only [wSet, wC, setV]
  refine n1 _ _ ?_
  refine seq_k fun q1 n1 r1 _ _ x1 => ?_
  simp only [wFor, wEnum, wVar, getV, some!, dT, seqA]
  refine forI_invq (fun i e S' => ∃ rows u x6 x7 x8, Fill ns T i 0 rows u ∧ Rws S S' cs rows ∧ S' p = some (.lst (cs.map D.ref)) ∧ e = [some d, some (.int n), some (dT ns), some (.int (T : Nat)), some (.ref p), some (.int (u : Nat)), x6, x7, x8, none]) ⟨_, 0, none, none, none, Fill.start ns T, R, hat, rfl⟩ (fun _ _ _ _ => trivial) ?_ ?_
  · rintro i d' e' S' hi ⟨rows, u, x6, x7, x8, F, R, hat, rfl⟩ q hq hrt hbk hct hxc
    obtain ⟨x, hx, rfl⟩ := enumD_get hi
    rw [List.getElem?_map] at hx
    obtain ⟨v, hv, rfl⟩ := Option.map_eq_some_iff.mp hx
    have vm := List.mem_of_getElem? hv
    have v30 := k30 v vm
    obtain ⟨w, rfl⟩ : ∃ w : Nat, v = (w : Int) := ⟨v.toNat, (Int.toNat_of_nonneg v30.1).symm⟩
    have hwT : w ≤ T := by have := ticks_ge (n := n) vm; omega
    have hil := lt_of_some hv
    simp only [gT, gAll, gN, setV, Nat.zero_add]
    refine ⟨rfl, ?_⟩
    simp only [wFor, wRg1, wVar, getV, some!, asI]
    refine ⟨⟨by omega, by omega⟩, ?_⟩
    rw [Int.toNat_natCast]
    refine forI_invq (fun t e S' => ∃ rows u x8, Fill ns T i t rows u ∧ Rws S S' cs rows ∧ S' p = some (.lst (cs.map D.ref)) ∧ e = [some d, some (.int n), some (dT ns), some (.int (T : Nat)), some (.ref p), some (.int (u : Nat)), some (.int (i : Nat)), some (.int (w : Nat)), x8, none]) ⟨rows, u, _, F, R, hat, rfl⟩ (fun _ _ _ _ => trivial) ?_ ?_
    · rintro t d2 e2 S3 hi2 ⟨rows, u, x8, F, R, hat, rfl⟩ q2 hq2 hrt2 hbk2 hct2 hxc2
      obtain ⟨htw, rfl⟩ := rngD_get hi2
      have htT : t < T := by omega
      have hm : u % T < T := Nat.mod_lt _ (by omega)
      obtain ⟨row, hrow⟩ : ∃ row, rows[u % T]? = some row := ⟨_, List.getElem?_eq_getElem (by rw [F.rr.len]; exact hm)⟩
      obtain ⟨b, hb⟩ : ∃ b, cs[u % T]? = some b := ⟨_, List.getElem?_eq_getElem (by rw [R.len, F.rr.len]; exact hm)⟩
      have hS := R.is _ _ _ hb hrow
      have hbp : b ≠ p := fun z => hpc (z ▸ List.mem_of_getElem? hb)
      have hat2 : atI (cs.map D.ref) ((u : Int) % (T : Int)) = some (.ref b) := by
        rw [show (u : Int) % (T : Int) = ((u % T : Nat) : Int) by omega]
        exact at_k (by rw [List.getElem?_map, hb]; rfl)
      have a := fun Q => oIx_eq (seqA_at hat) hat2 Q
      have hlen : row.length ≤ 1000 := by
        obtain ⟨q, m, hu, hm', hl⟩ := F.rr.lens (by omega)
        have hsu := F.su
        have hs : (ns.take i).sum ≤ 360 := by
          have := (sum_le (ns := ns.take i) fun x hx => k30 x (List.mem_of_mem_take hx)).2
          rw [List.length_take] at this
          omega
        have : row.length ≤ q + 1 := by
          rw [hl _ _ hrow]
          split <;> omega
        have : q ≤ T * q := Nat.le_mul_of_pos_left _ (by omega)
        omega
      simp only [gN, setV]
      refine seq_k fun q3 n3 r3 _ _ x3 => ?_
      simp only [wDrop, wMt, wBin, wCons, wNil, wVar, getV, some!, oMod, oI]
      refine ⟨by omega, ?_⟩
      rw [a]
      simp only [mutL, hS, oAppend, one]
      refine ⟨by rw [List.length_map]; unfold sizeLine; omega, n3 _ _ ?_⟩
      simp only [wAug, wC, getV, setV, some!, oI0]
      refine hq2 _ _ ⟨_, u + 1, _, F.step htT hrow, ?_, ?_, rfl⟩
      · have := R.put_at (row := row ++ [(i : Int)]) hb
        rw [List.map_append] at this
        exact this
      · rw [put_ne (Ne.symm hbp)]; exact hat
    · rintro e2 S3 ⟨rows, u, x8, F, R, hat, rfl⟩
      rw [rngD_length] at F
      refine hq _ _ ⟨rows, u, _, _, _, F.next hv, R, hat, rfl⟩
  · rintro e' S3 ⟨rows, u, x6, x7, x8, F, R, hat, rfl⟩
    rw [enumD_length, List.length_map] at F
    have P := F.plan hT.symm n1'
    refine n1 _ _ ?_
    have e3 := seqA_at hat
    have hrl := F.rr.len
    simp only [wRet, wCB, wCons, wNil, wLc, wIt, wVar, getV, some!, e3, delVs, delV, setV, List.length_map, R.len, hrl]
    refine ⟨by unfold sizeLine; omega, compI_inv (fun i acc S' => S' = S3 ∧ acc = (rows.take i).map dT) ⟨rfl, rfl⟩ (fun i acc S' ⟨h, _⟩ => by rw [h]; exact e3) ?_ ?_⟩
    · rintro i d' acc S' hi ⟨rfl, rfl⟩
      rw [List.getElem?_map] at hi
      obtain ⟨b, hb, rfl⟩ := Option.map_eq_some_iff.mp hi
      obtain ⟨row, hrow⟩ : ∃ row, rows[i]? = some row := ⟨_, List.getElem?_eq_getElem (by rw [← R.len]; exact lt_of_some hb)⟩
      have hS := R.is _ _ _ hb hrow
      have e4 := seqL_at hS
      simp only [gN, setV, wYes, if_true, wCB, wCons, wNil, wVar, getV, some!, oSorted, one, e4, toInts_map]
      intro ms hp1 hp2
      rw [perm_same hp1 hp2 (P.lots row (List.mem_of_getElem? hrow)).1]
      simp only [oTuple, one, seqA, seqL, seqM, some!]
      refine ⟨trivial, ?_⟩
      rw [List.take_add_one, hrow, List.map_append]
      rfl
    · rintro acc S' ⟨rfl, rfl⟩
      rw [List.length_map, R.len, List.take_length]
      simp only [oTuple, one, seqA, seqL, seqM, some!]
      exact hq rows P S' R.ext
end K19
set_option Elab.async false
set_option linter.all false
set_option maxRecDepth 100000
set_option maxHeartbeats 1000000
namespace K19
open PySem PySem.Spec PyProof.Rows L2 DL
section
variable {α : Type} {a b c d e f : α} {l : List α}
theorem at_0 : atI (a :: l) 0 = some a := by
  unfold atI ixN
  rw [if_pos (by decide), if_pos (by simp only [List.length_cons]; omega)]; rfl
theorem at_1 : atI (a :: b :: l) 1 = some b := by
  unfold atI ixN
  rw [if_pos (by decide), if_pos (by simp only [List.length_cons]; omega)]; rfl
theorem at6_2 : atI [a, b, c, d, e, f] 2 = some c := rfl
theorem at6_3 : atI [a, b, c, d, e, f] 3 = some d := rfl
theorem at6_4 : atI [a, b, c, d, e, f] 4 = some e := rfl
theorem at6_5 : atI [a, b, c, d, e, f] 5 = some f := rfl
theorem ix6_1 : ixN [a, b, c, d, e, f].length 1 = some 1 := rfl
theorem ix6_2 : ixN [a, b, c, d, e, f].length 2 = some 2 := rfl
theorem ix6_3 : ixN [a, b, c, d, e, f].length 3 = some 3 := rfl
theorem ix6_4 : ixN [a, b, c, d, e, f].length 4 = some 4 := rfl
theorem ix6_5 : ixN [a, b, c, d, e, f].length 5 = some 5 := rfl
end
local macro_rules | `(tactic| walk_at "r") => `(tactic| try simp only [wSeq, wNext, wSet, wC, wFor, wIt, wRg1, wRg2, wVar, wIf, wAnd, wOr, wNot, wTest, wChain, wBin, wCB, wCons, wNil, wSl, wP, wNoP, wRet, wRetN, wDrop, wTup, wLst, wLstM, wUn, wIfE, wAndV, wOrV, wNotV, wIsi, wYes, wSetI, wAugI, wMt, wLc, wLcM, wBreak, xcQ, setIx, mutL, put_same, put_put, oAppend, oExtend,
  getV, setV, some!, one, two, asI, oLen, oLt, oLe, oGt, oGe, oI0, oI, oSub, oMul, oMod, oDiv, oPow, oAdd, oCatL, oEq, oNe, oIsN, oNotN, oIx, oSl, oTuple, oList, oMax2, oMin2, oInt, oAbs, gN, seqA, seqL, seqM, dT, dL, List.length_map, decide_eq_true_eq, shD_int, shD_bl, shD_lst, shD_tup, eqD_int, eqD_bl, eqD_lst, eqD_tup, cutD_int, true_and, and_true, if_true, if_false, Bool.false_eq_true, Bool.true_eq_false, eq_self_iff_true,
  at_0, at_1, at6_2, at6_3, at6_4, at6_5, ix6_1, ix6_2, ix6_3, ix6_4, ix6_5, List.set_cons_zero, List.set_cons_succ, Bool.not_true, Bool.not_false, delVs, delV])
theorem at_cell {cells : List Int} {i : Int} (h0 : 0 ≤ i) (h : i < cells.length) : ∃ x, atI (cells.map D.int) i = some (.int x) := by
  refine ⟨cells[i.toNat]'(by omega), ?_⟩
  unfold atI ixN
  rw [List.length_map, if_pos h0, if_pos h]
  show (cells.map D.int)[i.toNat]? = _
  rw [List.getElem?_map, List.getElem?_eq_getElem (by omega)]; rfl
theorem mulw {i j : Int} (hi : 0 ≤ i ∧ i < 2147483647) (hj : 0 ≤ j ∧ j < 2147483647) : CMulW i j := by
  have key : ∀ i : Int, 0 ≤ i ∧ i < 2147483647 → i.natAbs.log2 < 61 := fun i hi => by
    by_cases z : i.natAbs = 0
    · rw [z]; decide
    · rw [Nat.log2_lt z]; omega
  have := key i hi
  have := key j hj
  unfold CMulW
  omega
theorem divw {i j : Int} (h : 0 < j ∧ j ≤ 1000000000) : CDivW i j := by
  refine ⟨h.1, ?_⟩
  by_cases z : j.natAbs = 0
  · omega
  · have : j.natAbs.log2 < 61 := by rw [Nat.log2_lt z]; omega
    omega
theorem hmod (x : Int) : 0 ≤ x % 2147483647 ∧ x % 2147483647 < 2147483647 := ⟨Int.emod_nonneg _ (by decide), Int.emod_lt_of_pos _ (by decide)⟩
theorem len__law_begin (c : Cl) : ∀ ds S Q E, sp__law_begin c ds S Q E → ds.length = 1 := by
  rintro ds S Q E ⟨_, rfl, _⟩; rfl
theorem rd__law_begin (c : Cl) : ∀ ds S Q X1, sp__law_begin c ds S Q X1 → w__law_begin c (startD N__law_begin_ ds) S (endQ Q X1) := by
  rintro ds S Q X1 ⟨cells, rfl, hl, h⟩
  show w__law_begin c [some (.fro (cells.map D.int)), none, none] S (endQ Q X1)
  unfold w__law_begin
  refine seq_k fun q1 n1 r1 _ _ x1 => ?_
  simp only [wSet, wC, setV]
  refine n1 _ _ ?_
  refine seq_k fun q1 n1 r1 _ _ x1 => ?_
  simp only [wFor, wIt, wSl, wVar, wNoP, wP, wC, getV, some!, asI, oSl, seqA, seqL, seqM, cutD_int]
  rw [cutI_to (by omega), List.take_of_length_le (by omega)]
  refine forI_invq (fun i e S' => S' = S ∧ ∃ sd x, (0 ≤ sd ∧ sd < 2147483647) ∧ e = [some (.fro (cells.map D.int)), some (.int sd), x]) ⟨rfl, 7, none, by decide, rfl⟩ (fun i e S' _ => trivial) ?_ ?_
  · rintro i d e S' hi ⟨rfl, sd, x, hs, rfl⟩ q hq hrt hbk hct hxc
    rw [List.getElem?_map] at hi
    obtain ⟨cv, hc, rfl⟩ := Option.map_eq_some_iff.mp hi
    walk_at "r"
    refine ⟨mulw hs hs, by decide, hq _ _ ⟨rfl, _, _, hmod _, rfl⟩⟩
  · rintro e S' ⟨rfl, sd, x, hs, rfl⟩
    refine n1 _ _ ?_
    walk_at "r"
    rw [cutI_to (by omega), List.take_of_length_le (by omega)]
    refine ⟨by unfold sizeLine; omega, compI_map (fun e => some e) trivial (fun e he R hR => ?_) ?_⟩
    · obtain ⟨i, _, rfl⟩ := List.mem_map.mp he
      walk_at "r"
      exact hR
    · rw [List.filterMap_some]
      exact ⟨by simp only [List.length_cons, List.length_nil]; unfold sizeLine; omega, fun p hp => h p ⟨cells, 0, 0, 0, sd, 0⟩ hp ⟨hl, Int.le_refl 0, Int.le_refl 0, hs.1, hs.2⟩⟩
theorem len__law_draw (c : Cl) : ∀ ds S Q E, sp__law_draw c ds S Q E → ds.length = 2 := by
  rintro ds S Q E ⟨_, _, rfl, _⟩; rfl
theorem abs_nn (x : Int) : 0 ≤ (if x < 0 then -x else x) := by split <;> omega
theorem rd__law_draw (c : Cl) : ∀ ds S Q X1, sp__law_draw c ds S Q X1 → w__law_draw c (startD N__law_draw_ ds) S (endQ Q X1) := by
  rintro ds S Q X1 ⟨p, n, rfl, ⟨⟨cells, at0, big, left, seed, turn⟩, ⟨k1, k2, k3, k4, k5⟩, hp⟩, ⟨hn, hn2⟩, h⟩
  show w__law_draw c [some (.ref p), some (.int n), none, none] S (endQ Q X1)
  have hp' : S p = some (.lst [.lst (cells.map D.int), .int at0, .int big, .int left, .int seed, .int turn]) := hp
  dsimp only at k1 k2 k3 k4 k5
  have hr : ∀ x : Int, 0 ≤ x % n ∧ x % n < n := fun x => ⟨Int.emod_nonneg _ (by omega), Int.emod_lt_of_pos _ hn⟩
  unfold w__law_draw
  refine seq_k fun q1 n1 r1 _ _ x1 => ?_
  -- what follows the first part
  have last : ∀ (S1 : Sto) at1 big1 left1 seed1 turn1 (x y : Option D), S1 = put S p (stMO ⟨cells, at1, big1, left1, seed1, turn1⟩) → 0 ≤ at1 → 0 ≤ big1 → 0 ≤ seed1 → seed1 < 2147483647 →
      q1.nx [some (.ref p), some (.int n), x, y] S1 := by
    rintro S1 at1 big1 left1 seed1 turn1 x y rfl g1 g2 g3 g4
    refine n1 _ _ ?_
    have hp1 : put S p (stMO ⟨cells, at1, big1, left1, seed1, turn1⟩) p = some (.lst [.lst (cells.map D.int), .int at1, .int big1, .int left1, .int seed1, .int turn1]) := put_same
    generalize hS : put S p (stMO ⟨cells, at1, big1, left1, seed1, turn1⟩) = S1 at *
    have hb : ∀ m, put S1 p m = put S p m := fun m => by rw [← hS, put_put]
    refine seq_k fun q2 n2 r2 _ _ x2 => ?_
    simp only [wIf, wTest, wBin, wVar, wC, getV, some!, oIx, seqA, seqL, seqM, hp1, at6_2, oGt, oI0, decide_eq_true_eq]
    split
    · rename_i g
      walk_at "r"
      simp only [hp1]
      walk_at "r"
      refine ⟨hn, by decide, ?_⟩
      walk_at "r"
      refine ⟨divw ⟨hn, by omega⟩, ?_⟩
      split
      · walk_at "r"
        rw [hb, r2]
        exact h _ ⟨cells, at1, 0, _, seed1, turn1⟩ (hr _).1 (hr _).2 ⟨k1, g1, Int.le_refl 0, g3, g4⟩
      · rw [hb, r2]
        exact h _ ⟨cells, at1, big1 / n, _, seed1, turn1⟩ (hr _).1 (hr _).2 ⟨k1, g1, Int.ediv_nonneg g2 (by omega), g3, g4⟩
    · refine n2 _ _ ?_
      walk_at "r"
      simp only [hp1]
      walk_at "r"
      refine ⟨by decide, mulw ⟨g3, g4⟩ ⟨g3, g4⟩, by decide, mulw (hmod _) (hmod _), by decide, divw (by decide), hn, ?_⟩
      rw [hb]
      exact h _ ⟨cells, at1, big1, left1, _, _⟩ (hr _).1 (hr _).2 ⟨k1, g1, g2, (hmod _).1, (hmod _).2⟩
  clear n1
  have fin : q1.nx [some (.ref p), some (.int n), none, none] S := last S at0 big left seed turn none none (put_self hp).symm k2 k3 k4 k5
  simp only [wIf, wAnd, wTest, wBin, wCB, wCons, wNil, wVar, wC, getV, some!, oIx, seqA, seqL, seqM, hp', at6_2, at_1, at_0, oEq, shD_int, eqD_int, oLen, oLt, oI0, one, decide_eq_true_eq, List.length_map, true_and]
  split
  · split
    · rename_i g
      obtain ⟨x, hx⟩ := at_cell (cells := cells) k2 g
      walk_at "r"
      try simp only [hp']
      walk_at "r"
      try simp only [hx]
      walk_at "r"
      try simp only [hp']
      walk_at "r"
      refine ⟨by decide, ⟨by decide, by decide, by decide⟩, ?_⟩
      have ha := abs_nn x
      generalize (if x < 0 then -x else x) = y at ha ⊢
      split
      · walk_at "r"
        exact last _ _ _ _ _ _ _ _ rfl (by omega) ha k4 k5
      · walk_at "r"
        refine ⟨mulw ⟨k4, k5⟩ ⟨k4, k5⟩, by decide, ?_⟩
        exact last _ _ _ _ _ _ _ _ rfl (by omega) k3 (hmod _).1 (hmod _).2
    · exact fin
  · exact fin
theorem len__law_is_int (c : Cl) : ∀ ds S Q E, sp__law_is_int c ds S Q E → ds.length = 1 := by
  rintro ds S Q E ⟨_, rfl, _⟩; rfl
theorem rd__law_is_int (c : Cl) : ∀ ds S Q X1, sp__law_is_int c ds S Q X1 → w__law_is_int c (startD N__law_is_int_ ds) S (endQ Q X1) := fun ds S Q X1 h => rd_is_integer c ds S Q X1 h
end K19
set_option Elab.async false
set_option linter.all false
set_option maxRecDepth 100000
set_option maxHeartbeats 1000000
namespace K19
open PySem PySem.Spec PyProof.Rows L2 DL
theorem eqD_refl {S : Sto} {d : D} (h : shD S d = true) : eqD S d d = true := SeqAt.eqv_refl _ (SeqAt.canLay_of_shaped h)
theorem z2 : 2 ≤ sizeLine := by decide
section
variable {S : Sto}
theorem sh4 {a b d e : Bool} : shD S (.lst [.bl a, .bl b, .bl d, .bl e]) = true := by cases a <;> cases b <;> cases d <;> cases e <;> rfl
theorem q41 : eqD S (.lst [.bl true, .bl false, .bl false, .bl false]) (.lst [.bl true, .bl false, .bl false, .bl false]) = true := rfl
theorem q42 : eqD S (.lst [.bl false, .bl true, .bl false, .bl false]) (.lst [.bl true, .bl false, .bl false, .bl false]) = false := rfl
theorem q43 : eqD S (.lst [.bl false, .bl true, .bl false, .bl false]) (.lst [.bl false, .bl true, .bl false, .bl false]) = true := rfl
end
theorem len__law_error (c : Cl) : ∀ a dd C ds S Q E, sp__law_error c a dd C ds S Q E → ds.length = 1 := by
  rintro a dd C ds S Q E ⟨_, _, rfl, _⟩; rfl
theorem rd__law_error (c : Cl) : ∀ a dd C ds S Q X1, sp__law_error c a dd C ds S Q X1 → w__law_error c a dd C (startD N__law_error_ ds) S (endQ Q X1) := by
  rintro a dd C ds S Q X1 ⟨f, x, rfl, h⟩
  show w__law_error c a dd C [some (.exc a dd C f x), none] S (endQ Q X1)
  unfold w__law_error
  rcases h with ⟨rfl, rfl, p, rfl, h⟩ | ⟨rfl, rfl, ⟨hr1, hr2, hr3⟩, h⟩
  · refine seq_k fun q1 n1 r1 _ _ x1 => ?_
    simp only [wSet, wLst, wCons, wNil, wIsE, wVar, getV, setV, some!, c.rr, c.rn, c.isR, true_and, and_true]
    refine ⟨z2, n1 _ _ ?_⟩
    refine seq_k fun q1 n1 r1 _ _ x1 => ?_
    simp only [wSet, wBin, wLst, wCons, wNil, wIsE, wVar, getV, setV, some!, c.ru, c.rl, c.isR, true_and, and_true, oAdd, oCatL, seqM]
    refine ⟨z2, by show 4 ≤ sizeLine; decide, n1 _ _ ?_⟩
    simp only [List.cons_append, List.nil_append]
    refine seq_k fun q1 n1 r1 _ _ x1 => ?_
    simp only [wIf, wAnd, wTest, wBin, wLst, wCons, wNil, wC, wVar, getV, some!, oEq, sh4, q41, true_and, if_true, wCall, wExF, c.xfR, and_true]
    refine ⟨by show 4 ≤ sizeLine; decide, ?_⟩
    simp only [xcQ, wTup, wRet, wCons, wNil, wC, wExF, wVar, getV, some!, c.xfR, true_and, and_true]
    refine ⟨_, rfl, ⟨_, rfl⟩, ?_⟩
    simp only [isInt, if_true, r1]
    exact ⟨z2, h⟩
  · refine seq_k fun q1 n1 r1 _ _ x1 => ?_
    simp only [wSet, wLst, wCons, wNil, wIsE, wVar, getV, setV, some!, c.nr, c.nn, c.isN, true_and, and_true]
    refine ⟨z2, n1 _ _ ?_⟩
    refine seq_k fun q1 n1 r1 _ _ x1 => ?_
    simp only [wSet, wBin, wLst, wCons, wNil, wIsE, wVar, getV, setV, some!, c.nu, c.nl, c.isN, true_and, and_true, oAdd, oCatL, seqM]
    refine ⟨z2, by show 4 ≤ sizeLine; decide, n1 _ _ ?_⟩
    simp only [List.cons_append, List.nil_append]
    refine seq_k fun q1 n1 r1 _ _ x1 => ?_
    simp only [wIf, wAnd, wTest, wBin, wLst, wCons, wNil, wC, wVar, getV, some!, oEq, sh4, q42, q43, true_and, Bool.false_eq_true, if_false, if_true]
    refine ⟨by show 4 ≤ sizeLine; decide, ?_⟩
    refine n1 _ _ ?_
    refine seq_k fun q1 n1 r1 _ _ x1 => ?_
    simp only [wIf, wAnd, wTest, wBin, wLst, wCons, wNil, wC, wVar, getV, some!, oEq, sh4, q42, q43, true_and, Bool.false_eq_true, if_false, if_true]
    refine ⟨by show 4 ≤ sizeLine; decide, ?_⟩
    simp only [wTup, wRet, wCB, wCons, wNil, wC, wExF, wVar, getV, some!, c.xfN, true_and, and_true, oRepr, one, r1]
    exact ⟨hr1, hr2, hr3, z2, h⟩
/-! ### wrong lanes -/
theorem strOk_str (x : String) : PyData.strOk (Str.ofString x) = true := by
  rw [Str.ofString_eq_toList]
  unfold PyData.strOk
  simp only [List.all_toArray, List.all_eq_true, decide_eq_true_eq]
  intro n hn
  obtain ⟨ch, _, rfl⟩ := List.mem_map.mp hn
  have := ch.valid
  show ch.val.toNat < 0x110000
  rcases this with h | ⟨_, h⟩
  · have : ch.val.toNat < 0xd800 := h
    omega
  · exact h
theorem repr_int {S : Sto} {i : Int} (h : i.natAbs.log2 < 1920) : ReprOk S (.int i) := ⟨⟨rfl, by show (PyData.int i).depth ≤ 8; exact Nat.le_of_ble_eq_true rfl⟩, by show decide _ = true; exact decide_eq_true h, int_text_fits h⟩
theorem wrong_int {i : Int} (h : ¬ (1 ≤ i ∧ i ≤ 8)) (h2 : i.natAbs.log2 < 1920) : WrongLanes (.int i) := ⟨decide_eq_false h, fun S => ⟨_, rfl⟩, fun S => repr_int h2, fun S => strOk_str _⟩
theorem wrong_non : WrongLanes .non := ⟨rfl, fun S => ⟨_, rfl⟩, fun S => ⟨⟨rfl, by show PyData.none.depth ≤ 8; decide +kernel⟩, rfl, by show (PyData.none.shown).length ≤ sizeLine; decide +kernel⟩, fun S => by show PyData.strOk PyData.none.shown = true; decide +kernel⟩
theorem wrong_bl (b : Bool) : WrongLanes (.bl b) := ⟨rfl, fun S => ⟨_, rfl⟩, fun S => ⟨⟨rfl, by show (PyData.bool b).depth ≤ 8; cases b <;> decide +kernel⟩, rfl, by show ((PyData.bool b).shown).length ≤ sizeLine; cases b <;> decide +kernel⟩, fun S => by show PyData.strOk (PyData.bool b).shown = true; cases b <;> decide +kernel⟩
theorem wrong_two : WrongLanes (.str "2") := ⟨rfl, fun S => ⟨_, rfl⟩, fun S => ⟨⟨by show (PyData.str "2").canLay0 = true; decide +kernel, by show (PyData.str "2").depth ≤ 8; decide +kernel⟩, rfl, by show ((PyData.str "2").shown).length ≤ sizeLine; decide +kernel⟩, fun S => by show PyData.strOk (PyData.str "2").shown = true; decide +kernel⟩
theorem wrong_t2 : WrongLanes (.tup [.int 2]) := ⟨rfl, fun S => ⟨_, rfl⟩, fun S => ⟨⟨by show (PyData.tuple [.int 2]).canLay0 = true; decide +kernel, by show (PyData.tuple [.int 2]).depth ≤ 8; decide +kernel⟩, by show (PyData.tuple [.int 2]).showable = true; decide +kernel, by show ((PyData.tuple [.int 2]).shown).length ≤ sizeLine; decide +kernel⟩, fun S => by show PyData.strOk (PyData.tuple [.int 2]).shown = true; decide +kernel⟩
theorem wrong7 {r : Int} (h : 0 ≤ r ∧ r < 7) : ∃ d, atI [D.non, .bl true, .str "2", .tup [.int 2], .int 0, .int 9, .bl false] r = some d ∧ WrongLanes d := by
  have e : r = 0 ∨ r = 1 ∨ r = 2 ∨ r = 3 ∨ r = 4 ∨ r = 5 ∨ r = 6 := by omega
  rcases e with rfl | rfl | rfl | rfl | rfl | rfl | rfl
  · exact ⟨_, rfl, wrong_non⟩
  · exact ⟨_, rfl, wrong_bl _⟩
  · exact ⟨_, rfl, wrong_two⟩
  · exact ⟨_, rfl, wrong_t2⟩
  · exact ⟨_, rfl, wrong_int (by decide) (by decide)⟩
  · exact ⟨_, rfl, wrong_int (by decide) (by decide)⟩
  · exact ⟨_, rfl, wrong_bl _⟩
theorem len__law_wrong_lanes (c : Cl) : ∀ ds S Q E, sp__law_wrong_lanes c ds S Q E → ds.length = 1 := by
  rintro ds S Q E ⟨_, rfl, _⟩; rfl
theorem is_st {S : Sto} {p : Addr} {h : St5} (k : StOk h) : IsSt (put S p (stMO h)) p := ⟨h, k, put_same⟩
theorem log_lt {i : Int} (h : i.natAbs < 2 ^ 200) : i.natAbs.log2 < 1920 := by
  by_cases z : i.natAbs = 0
  · rw [z]; decide
  · have := (Nat.log2_lt (k := 200) z).mpr h; omega
theorem e1006 : (10 : Int) ^ Int.toNat 6 = 1000000 := by decide +kernel
theorem e1050 : (10 : Int) ^ Int.toNat 50 = 100000000000000000000000000000000000000000000000000 := by decide +kernel
theorem two200 : (2 : Nat) ^ 200 = 1606938044258990275541962092341162602522202993782792835301376 := by decide +kernel
theorem rd__law_wrong_lanes (c : Cl) : ∀ ds S Q X1, sp__law_wrong_lanes c ds S Q X1 → w__law_wrong_lanes c (startD N__law_wrong_lanes_ ds) S (endQ Q X1) := by
  rintro ds S Q X1 ⟨p, rfl, hp, h⟩
  show w__law_wrong_lanes c [some (.ref p), none] S (endQ Q X1)
  unfold w__law_wrong_lanes
  refine seq_k fun q1 n1 r1 _ _ x1 => ?_
  simp only [wSet, wCall, wCons, wNil, wVar, wC, getV, setV, some!]
  refine ⟨p, 10, rfl, hp, by decide, fun r g h0 h9 hg => n1 _ _ ?_⟩
  have hp2 := is_st (S := S) (p := p) hg
  have hput : ∀ m, put (put S p (stMO g)) p m = put S p m := fun m => put_put
  have hst := fun d (hd : WrongLanes d) => h d g hd hg
  generalize put S p (stMO g) = S1 at hp2 hput hst
  refine seq_k fun q1 n1 r1 _ _ x1 => ?_
  simp only [wIf, wTest, wBin, wVar, wC, getV, some!, oLt, oI0, decide_eq_true_eq]
  by_cases z : r < 7
  · rw [if_pos z]
    obtain ⟨d, e, hw⟩ := wrong7 ⟨h0, z⟩
    simp only [wRet, wBin, wTup, wCons, wNil, wC, wVar, getV, some!, oIx, seqA, e, r1]
    exact ⟨by show 1 ≤ sizeLine; decide, by show 7 ≤ sizeLine; decide, hst d hw⟩
  rw [if_neg z]
  refine n1 _ _ ?_
  refine seq_k fun q1 n1 r1 _ _ x1 => ?_
  simp only [wIf, wTest, wBin, wVar, wC, getV, some!, oEq, shD_int, eqD_int, decide_eq_true_eq, true_and]
  by_cases z : r = 7
  · rw [if_pos z]
    simp only [wRet, wBin, wCall, wCons, wNil, wC, wVar, getV, some!, oPow, oI, e1006]
    refine ⟨by unfold CPow; decide, p, 1000000, rfl, hp2, by decide, fun r2 g2 h2 h3 hg2 => ?_⟩
    rw [hput]
    simp only [oAdd, r1]
    exact h _ g2 (wrong_int (by omega) (log_lt (by rw [two200]; omega))) hg2
  rw [if_neg z]
  refine n1 _ _ ?_
  refine seq_k fun q1 n1 r1 _ _ x1 => ?_
  simp only [wIf, wTest, wBin, wVar, wC, getV, some!, oEq, shD_int, eqD_int, decide_eq_true_eq, true_and]
  by_cases z : r = 8
  · rw [if_pos z]
    simp only [wRet, wBin, wCall, wCons, wNil, wC, wVar, getV, some!, oPow, oI, e1050]
    refine ⟨by unfold CPow; decide, p, 1000, rfl, hp2, by decide, fun r2 g2 h2 h3 hg2 => ?_⟩
    rw [hput]
    simp only [oAdd, r1]
    exact h _ g2 (wrong_int (by omega) (log_lt (by rw [two200]; omega))) hg2
  rw [if_neg z]
  refine n1 _ _ ?_
  simp only [wRet, wBin, wUn, wCall, wCons, wNil, wC, wVar, getV, some!, oNeg]
  refine ⟨p, 100, rfl, hp2, by decide, fun r2 g2 h2 h3 hg2 => ?_⟩
  rw [hput]
  simp only [oSub, oI0]
  exact h _ g2 (wrong_int (by omega) (log_lt (by rw [two200]; omega))) hg2
end K19
set_option Elab.async false
set_option linter.all false
set_option maxRecDepth 100000
set_option maxHeartbeats 1000000
namespace K19
open PySem PySem.Spec PyProof.Rows L2 DL
theorem len__law_ask (c : Cl) : ∀ ds S Q E, sp__law_ask c ds S Q E → ds.length = 3 := by
  rintro ds S Q E ⟨_, _, _, rfl, _⟩; rfl
theorem ask_err {c : Cl} {S : Sto} {q : QS} {C : Addr} {f : Str} {x : D} {d0 d1 d2 : D} (he : PySem.W.exmOne c.K (.ref C) (.ref c.ServeError) = some true)
    (h : ∀ a dd, sp__law_error c a dd C [.exc a dd C f x] S q.rt (fun _ _ _ => False)) :
    ∃ b, PySem.W.exmOne c.K (.ref C) (.ref c.ServeError) = some b ∧
  (b = true → ∃ f' x', [(f, x)] = [(f', x')] ∧ ∀ a dd, wRet (wCall (sp__law_error c a dd C) (wCons (wVar 3) wNil)) (setV [some d0, some d1, some d2, none] 3 (.exc a dd C f' x')) S { nx := fun e2 S2 => q.nx (delV e2 3) S2, rt := q.rt, bk := fun e2 S2 => q.bk (delV e2 3) S2, ct := fun e2 S2 => q.ct (delV e2 3) S2, xc := fun _ _ _ _ => False }) ∧
  (b = false → q.xc C [(f, x)] [some d0, some d1, some d2, none] S) :=
  ⟨true, he, fun _ => ⟨f, x, rfl, fun a dd => by
    simp only [wRet, wCall, wCons, wNil, wVar, getV, setV, some!, xcQ]
    exact h a dd⟩, fun z => by cases z⟩
theorem rd__law_ask (c : Cl) : ∀ ds S Q X1, sp__law_ask c ds S Q X1 → w__law_ask c (startD N__law_ask_ ds) S (endQ Q X1) := by
  rintro ds S Q X1 ⟨k, d, v, rfl, hk, hv, h1, h2⟩
  show w__law_ask c [some (.int k), some d, some v, none] S (endQ Q X1)
  unfold w__law_ask
  have row : ∀ p, numsOf S 12 0 30 d = .inr p → ∀ a dd, sp__law_error c a dd c.InvalidRow [.exc a dd c.InvalidRow "place" (.int (p : Nat))] S (endQ Q X1).rt (fun _ _ _ => False) := fun p hp a dd =>
    ⟨_, _, rfl, .inl ⟨rfl, rfl, _, rfl, h1 p hp⟩⟩
  have num : ∀ ns, numsOf S 12 0 30 d = .inl ns → inR 1 8 v = false → ∀ a dd, sp__law_error c a dd c.InvalidNumber [.exc a dd c.InvalidNumber "number" v] S (endQ Q X1).rt (fun _ _ _ => False) := fun ns hns hin a dd =>
    ⟨_, _, rfl, .inr ⟨rfl, rfl, ((h2 ns hns).1 hin).1, ((h2 ns hns).1 hin).2⟩⟩
  simp only [wTry]
  refine seq_k fun q1 n1 r1 _ _ x1 => ?_
  simp only [wIf, wTest, wBin, wVar, wC, getV, some!, oEq, shD_int, eqD_int, decide_eq_true_eq, true_and]
  by_cases z : k = 0
  · rw [if_pos z]
    simp only [wRet, wTup, wCons, wNil, wC, wCall, wVar, getV, some!]
    refine ⟨d, v, rfl, hk, hv, fun p hp => ?_, fun ns hns => ⟨fun hin => ?_, fun n hn hin => ?_⟩⟩
    · simp only [xcQ]
      rw [x1]
      exact ask_err c.exR (row p hp)
    · simp only [xcQ]
      rw [x1]
      exact ask_err c.exN (num ns hns hin)
    · rw [r1]
      exact ⟨z2, ((h2 ns hns).2 n hn hin).1 z⟩
  · rw [if_neg z]
    refine n1 _ _ ?_
    simp only [wRet, wTup, wCons, wNil, wC, wCall, wVar, getV, some!]
    refine ⟨d, v, rfl, hk, hv, fun p hp => ?_, fun ns hns => ⟨fun hin => ?_, fun n hn hin plan P S' E => ?_⟩⟩
    · simp only [xcQ]
      exact ask_err c.exR (row p hp)
    · simp only [xcQ]
      exact ask_err c.exN (num ns hns hin)
    · exact ⟨z2, ((h2 ns hns).2 n hn hin).2 z plan P S' E⟩
theorem kt : kitB "tuple" "tuple" = some true := by decide +kernel
theorem len__law_lot (c : Cl) : ∀ ds S Q E, sp__law_lot c ds S Q E → ds.length = 2 := by
  rintro ds S Q E ⟨_, _, rfl, _⟩; rfl
theorem atI_map {ns : List Int} {k : Nat} {v : Int} (h : ns[k]? = some v) : atI (ns.map D.int) (k : Int) = some (.int v) := at_k (by rw [List.getElem?_map, h]; rfl)
theorem rd__law_lot (c : Cl) : ∀ ds S Q X1, sp__law_lot c ds S Q X1 → w__law_lot c (startD N__law_lot_ ds) S (endQ Q X1) := by
  rintro ds S Q X1 ⟨lot, m, rfl, hp, hr, hl, h⟩
  show w__law_lot c [some (dT lot), some (.int m), none] S (endQ Q X1)
  unfold w__law_lot
  refine seq_k fun q1 n1 r1 _ _ x1 => ?_
  simp only [wIf, wNot, wTest, wIsi, wVar, getV, some!, dT, tyN, kt, Bool.not_true, Bool.false_eq_true, if_false, wNext]
  refine n1 _ _ ?_
  refine seq_k fun q1 n1 r1 _ _ x1 => ?_
  simp only [wFor, wRg1, wCB, wCons, wNil, wVar, getV, some!, oLen, one, seqA, seqL, seqM, asI, List.length_map]
  refine ⟨⟨by omega, by omega⟩, ?_⟩
  rw [Int.toNat_natCast]
  refine forI_invq (fun i e S' => S' = S ∧ ∃ x, e = [some (.tup (lot.map D.int)), some (.int m), x]) ⟨rfl, _, rfl⟩ (fun _ _ _ _ => trivial) ?_ ?_
  · rintro i d e S' hi ⟨rfl, x, rfl⟩ q hq _ _ _ _
    obtain ⟨hlt, rfl⟩ := rngD_get hi
    obtain ⟨v, hv⟩ : ∃ v, lot[i]? = some v := ⟨_, List.getElem?_eq_getElem hlt⟩
    have ev := atI_map hv
    have a := fun Q => oIx_eq (S := S') (x := .tup (lot.map D.int)) rfl ev Q
    have hvr := hr v (List.mem_of_getElem? hv)
    rw [Int.zero_add]
    simp only [gN, setV]
    refine seq_k fun q1 n1 r1 _ _ x1 => ?_
    simp only [wIf, wOr, wNot, wTest, wCall, wCons, wNil, wBin, wVar, getV, some!, a]
    refine ⟨_, rfl, ⟨_, rfl⟩, ?_⟩
    simp only [isInt, Bool.not_true, Bool.false_eq_true, if_false, wChain, wC, wBin, wVar, getV, some!, a, oLe, oLt, oI0]
    rw [decide_eq_true hvr.1, if_pos rfl]
    simp only [decide_eq_true hvr.2, Bool.not_true, Bool.false_eq_true, if_false, wNext]
    refine n1 _ _ ?_
    simp only [wIf, wAnd, wTest, wBin, wVar, wC, getV, some!, oGt, oGe, oSub, oI0, decide_eq_true_eq, a]
    split
    · rename_i hz
      obtain ⟨u, hu⟩ : ∃ u, lot[i - 1]? = some u := ⟨_, List.getElem?_eq_getElem (by omega)⟩
      have eu := atI_map hu
      rw [show ((i - 1 : Nat) : Int) = (i : Int) - 1 by omega] at eu
      have a2 := fun Q => oIx_eq (S := S') (x := .tup (lot.map D.int)) rfl eu Q
      simp only [a2, a]
      have huv : u < v := by
        obtain ⟨l1, g1⟩ := List.getElem?_eq_some_iff.mp hu
        obtain ⟨l2, g2⟩ := List.getElem?_eq_some_iff.mp hv
        have := List.pairwise_iff_getElem.mp hp (i - 1) i l1 l2 (by omega)
        rw [g1, g2] at this
        exact this
      rw [if_neg (by omega)]
      exact hq _ _ ⟨rfl, _, rfl⟩
    · exact hq _ _ ⟨rfl, _, rfl⟩
  · rintro e S' ⟨rfl, x, rfl⟩
    refine n1 _ _ ?_
    simp only [wRet, wC]
    exact h
/-! ### a plan is done -/
theorem res_at {S : Sto} {p : Addr} {xs : List D} (h : S p = some (.lst xs)) : resD S (.ref p) = .lst xs := by
  show (match S p with | some (MO.lst xs) => D.lst xs | _ => .ref p) = _
  rw [h]
theorem eq_at {S : Sto} {p : Addr} {a b : List Int} (h : S p = some (.lst (a.map D.int))) : eqD S (.ref p) (.lst (b.map D.int)) = decide (a = b) := by
  unfold eqD
  rw [res_at h]
  exact eqD_lst (S := S)
theorem sh_at {S : Sto} {p : Addr} {a : List Int} (h : S p = some (.lst (a.map D.int))) : shD S (.ref p) = true := by
  unfold shD
  rw [res_at h]
  exact shD_lst (S := S)
theorem len__law_done (c : Cl) : ∀ ds S Q E, sp__law_done c ds S Q E → ds.length = 4 := by
  rintro ds S Q E ⟨_, _, _, rfl, _⟩; rfl
/-- what is left of the needs -/
def Left (ns : List Int) (f : Nat → Nat) (left : List Int) : Prop := left.length = ns.length ∧ ∀ (j : Nat) v, ns[j]? = some v → left[j]? = some (v - (f j : Int))
theorem Left.step {ns : List Int} {f : Nat → Nat} {left : List Int} (L : Left ns f left) {j : Nat} {v : Int} (h : left[j]? = some v) : Left ns (fun i => f i + if i = j then 1 else 0) (left.set j (v - 1)) :=
  ⟨by rw [List.length_set]; exact L.1, fun i w hw => by
    have := L.2 i w hw
    rw [List.getElem?_set]
    by_cases e : j = i
    · subst e
      have hl := lt_of_some h
      rw [if_pos rfl, if_pos hl]
      rw [h] at this
      have := Option.some.inj this
      show some (v - 1) = some (w - ((f j + if j = j then 1 else 0 : Nat) : Int))
      rw [if_pos rfl]
      have e2 : v - 1 = w - ((f j + 1 : Nat) : Int) := by omega
      rw [e2]
    · rw [if_neg e, this]
      simp only [if_neg (fun z => e z.symm : ¬ i = j)]
      rfl⟩
theorem cntR_take {plan : List (List Int)} {i : Nat} {lot : List Int} {j : Int} (h : plan[i]? = some lot) : cntR (plan.take (i + 1)) j = cntR (plan.take i) j + lot.count j := by
  unfold cntR
  rw [List.take_succ, h]
  simp
theorem count_take {lot : List Int} {t : Nat} {x j : Int} (h : lot[t]? = some x) : (lot.take (t + 1)).count j = (lot.take t).count j + if j = x then 1 else 0 := by
  rw [List.take_succ, h]
  show List.count j (lot.take t ++ [x]) = _
  rw [List.count_append, List.count_singleton]
  by_cases e : j = x
  · subst e; simp
  · rw [if_neg e, if_neg (by intro z; exact e (beq_iff_eq.mp z).symm)]
theorem zeros_of : ∀ ns : List Int, (ns.map D.int).filterMap (fun _ => some (D.int 0)) = (ns.map fun _ => (0 : Int)).map D.int
  | [] => rfl
  | a :: r => by
    show D.int 0 :: (r.map D.int).filterMap (fun _ => some (D.int 0)) = _
    rw [zeros_of r]; rfl
theorem rd__law_done (c : Cl) : ∀ ds S Q X1, sp__law_done c ds S Q X1 → w__law_done c (startD N__law_done_ ds) S (endQ Q X1) := by
  rintro ds S Q X1 ⟨ns, n, plan, rfl, ⟨k0, k12, k30⟩, ⟨n1', n8⟩, P, h⟩
  show w__law_done c [some (dL ns), some (.int n), some (.int (ticksF ns n)), some (.tup (plan.map dT)), none, none, none, none] S (endQ Q X1)
  unfold w__law_done
  refine seq_k fun q1 n1 r1 _ _ x1 => ?_
  simp only [wIf, wOr, wNot, wTest, wIsi, wVar, getV, some!, tyN, kt, Bool.not_true, Bool.false_eq_true, if_false, wBin, wCB, wCons, wNil, oLen, one, seqA, seqL, seqM, List.length_map, P.len, oNe, shD_int, eqD_int, decide_true, true_and, wNext]
  refine n1 _ _ ?_
  refine seq_k fun q1 n1 r1 _ _ x1 => ?_
  simp only [wSet, wCB, wCons, wNil, wVar, getV, setV, some!, oListM, one, dL, seqA, seqL, seqM]
  refine fun p hp => n1 _ _ ?_
  have E : Ext S (put S p (.lst (ns.map D.int))) := ext_put (fun _ _ z => z) hp
  have hat : put S p (.lst (ns.map D.int)) p = some (.lst (ns.map D.int)) := put_same
  generalize put S p (.lst (ns.map D.int)) = S1 at E hat
  refine seq_k fun q1 n1 r1 _ _ x1 => ?_
  simp only [wFor, wIt, wVar, getV, some!, seqA]
  refine forI_invq (fun i e S' => ∃ left x5 x6, Ext S S' ∧ S' p = some (.lst (left.map D.int)) ∧ Left ns (fun j => cntR (plan.take i) (j : Int)) left ∧ e = [some (.lst (ns.map D.int)), some (.int n), some (.int (ticksF ns n)), some (.tup (plan.map dT)), some (.ref p), x5, x6, none])
    ⟨ns, none, none, E, hat, ⟨rfl, fun j v hv => by rw [hv]; congr 1; show v = v - ((0 : Nat) : Int); omega⟩, rfl⟩ (fun _ _ _ _ => trivial) ?_ ?_
  · rintro i d e S' hi ⟨left, x5, x6, E, hat, L, rfl⟩ q hq _ _ _ _
    rw [List.getElem?_map] at hi
    obtain ⟨lot, hlot, rfl⟩ := Option.map_eq_some_iff.mp hi
    obtain ⟨g1, g2, g3⟩ := P.lots lot (List.mem_of_getElem? hlot)
    simp only [gN, setV]
    refine seq_k fun q1 n1 r1 _ _ x1 => ?_
    simp only [wIf, wOr, wNot, wTest, wCall, wCons, wNil, wCB, wVar, getV, some!, oLen, one, seqA, seqL, seqM, List.length_map]
    refine ⟨lot, _, rfl, g1, g2, by omega, ?_⟩
    simp only [Bool.not_true, Bool.false_eq_true, if_false, wBin, wCB, wCons, wNil, wVar, getV, some!, oLen, one, dT, seqA, seqL, seqM, List.length_map, oGt, oI0, decide_eq_true_eq, wNext]
    rw [if_neg (by omega)]
    refine n1 _ _ ?_
    simp only [wFor, wIt, wVar, getV, some!, seqA]
    refine forI_invq (fun t e S' => ∃ left x6, Ext S S' ∧ S' p = some (.lst (left.map D.int)) ∧ Left ns (fun j => cntR (plan.take i) (j : Int) + (lot.take t).count (j : Int)) left ∧ e = [some (.lst (ns.map D.int)), some (.int n), some (.int (ticksF ns n)), some (.tup (plan.map dT)), some (.ref p), some (.tup (lot.map D.int)), x6, none])
      ⟨left, x6, E, hat, by simpa using L, rfl⟩ (fun _ _ _ _ => trivial) ?_ ?_
    · rintro t d e S2 hi2 ⟨left, x6, E, hat, L, rfl⟩ q2 hq2 _ _ _ _
      rw [List.getElem?_map] at hi2
      obtain ⟨x, hx, rfl⟩ := Option.map_eq_some_iff.mp hi2
      have hxr := g2 x (List.mem_of_getElem? hx)
      obtain ⟨w, rfl⟩ : ∃ w : Nat, x = (w : Int) := ⟨x.toNat, (Int.toNat_of_nonneg hxr.1).symm⟩
      obtain ⟨v, hv⟩ : ∃ v, left[w]? = some v := ⟨_, List.getElem?_eq_getElem (by rw [L.1]; omega)⟩
      have ev := atI_map hv
      have hix : ixN (left.map D.int).length (w : Int) = some w := by
        unfold ixN
        rw [if_pos (by omega), if_pos (by rw [List.length_map, L.1]; omega), Int.toNat_natCast]
      simp only [gN, setV, wAugI, wVar, wC, getV, some!, mutL, hat, ev, oSub, oI0, setIx, hix]
      refine ⟨by omega, hq2 _ _ ⟨left.set w (v - 1), _, ext_chg E ?_, ?_, ?_, rfl⟩⟩
      · exact ext_none (S := S) (S' := S) (fun _ _ z => z) hp
      · rw [put_same, List.map_set]
      · have := L.step hv
        refine ⟨this.1, fun j u hu => ?_⟩
        rw [this.2 j u hu]
        have e := count_take (j := (j : Int)) hx
        dsimp only
        rw [e]
        have e2 : (if (j : Int) = (w : Int) then 1 else 0) = if j = w then 1 else 0 := by
          by_cases z : j = w
          · rw [if_pos z, if_pos (by omega)]
          · rw [if_neg z, if_neg (by omega)]
        rw [e2, Nat.add_assoc]
    · rintro e S2 ⟨left, x6, E, hat, L, rfl⟩
      refine hq _ _ ⟨left, _, _, E, hat, ?_, rfl⟩
      rw [List.length_map, List.take_length] at L
      refine ⟨L.1, fun j u hu => ?_⟩
      rw [L.2 j u hu]
      dsimp only
      rw [cntR_take hlot]
  · rintro e S' ⟨left, x5, x6, E, hat, L, rfl⟩
    rw [List.length_map, List.take_length] at L
    refine n1 _ _ ?_
    have z0 : left = ns.map fun _ => (0 : Int) := by
      refine List.ext_getElem? fun j => ?_
      rw [List.getElem?_map]
      cases hj : ns[j]? with
      | none =>
        have : ns.length ≤ j := by rw [← List.getElem?_eq_none_iff]; exact hj
        rw [List.getElem?_eq_none_iff.mpr (by rw [L.1]; exact this)]; rfl
      | some v =>
        rw [L.2 j v hj]
        have := P.all j v hj
        show some (v - ((cntR plan j : Nat) : Int)) = some 0
        unfold cntR
        rw [this]
        congr 1; omega
    simp only [wRet, wBin, wLc, wIt, wVar, getV, some!, seqA, seqL, seqM, delVs, delV, List.length_map]
    refine ⟨by unfold sizeLine; omega, compI_map (fun _ => some (.int 0)) trivial (fun d hd R hR => ?_) ?_⟩
    · simp only [gN, setV, wYes, if_true, wC]; exact hR
    · have e : (ns.map D.int).filterMap (fun _ => some (D.int 0)) = left.map D.int := by
        rw [z0]; exact zeros_of ns
      rw [e]
      simp only [oEq, sh_at hat, shD_lst, eq_at hat, decide_true, true_and]
      exact h S' E
end K19
set_option Elab.async false
set_option linter.all false
set_option maxRecDepth 100000
set_option maxHeartbeats 1000000
namespace K19
open PySem PySem.Spec PyProof.Rows L2 DL
theorem st_new {S : Sto} {p q : Addr} {m : MO} (h : IsSt S p) (hq : S q = none) : IsSt (put S q m) p := by
  obtain ⟨g, k, e⟩ := h
  exact ⟨g, k, by rw [put_ne (fun z => by rw [z, hq] at e; cases e)]; exact e⟩
theorem st_chg {S : Sto} {p q : Addr} {m : MO} (h : IsSt S p) (hq : p ≠ q) : IsSt (put S q m) p := by
  obtain ⟨g, k, e⟩ := h
  exact ⟨g, k, by rw [put_ne hq]; exact e⟩
theorem st_none {S : Sto} {p q : Addr} (h : IsSt S p) (hq : S q = none) : p ≠ q := fun z => by
  obtain ⟨g, k, e⟩ := h
  rw [z, hq] at e; cases e
theorem st_del {S : Sto} {p q : Addr} (h : IsSt S p) (hq : p ≠ q) : IsSt (del S q) p := by
  obtain ⟨g, k, e⟩ := h
  exact ⟨g, k, by show (if p = q then none else S p) = _; rw [if_neg hq]; exact e⟩
/-- a row of drawn numbers -/
theorem nd_comp {te : WPe} {env : DE} {many : Nat} {p : Addr} {S : Sto} {Q : List D → Sto → Prop} {i : Nat} (hs : IsSt S p)
    (h : ∀ d S' (Q : Qd), IsSt S' p → (∀ x S'', 0 ≤ x ∧ x ≤ 30 → IsSt S'' p → Q (.int x) S'') → te (setV env i d) S' Q X0)
    (hq : ∀ (ns : List Int) S', ns.length = many → (∀ x, x ∈ ns → 0 ≤ x ∧ x ≤ 30) → IsSt S' p → Q (ns.map D.int) S') : compI (gN i) wYes te (fun _ => True) env (rngD 0 many) S Q := by
  refine compI_inv (fun k acc S' => IsSt S' p ∧ ∃ ns : List Int, acc = ns.map D.int ∧ ns.length = k ∧ ∀ x, x ∈ ns → 0 ≤ x ∧ x ≤ 30) ⟨hs, [], rfl, rfl, fun x h => (by cases h)⟩ (fun _ _ _ _ => trivial) ?_ ?_
  · rintro k d acc S' hi ⟨h1, ns, rfl, rfl, h3⟩
    simp only [gN, wYes, if_true]
    refine h d S' _ h1 fun x S'' hx h2 => ⟨h2, ns ++ [x], by rw [List.map_append]; rfl, by rw [List.length_append]; rfl, fun y hy => ?_⟩
    rcases List.mem_append.mp hy with z | z
    · exact h3 y z
    · rw [List.mem_singleton] at z; subst z; exact hx
  · rintro acc S' ⟨h1, ns, rfl, h2, h3⟩
    rw [rngD_length] at h2
    exact hq ns S' h2 h3 h1
theorem needs_ok {ns : List Int} {many : Nat} (h : ns.length = many) (h1 : 1 ≤ many ∧ many ≤ 12) (h2 : ∀ x, x ∈ ns → 0 ≤ x ∧ x ≤ 30) : NeedsOk ns :=
  ⟨fun z => by rw [z] at h; simp at h; omega, by omega, h2⟩
theorem len__law_turning (c : Cl) : ∀ ds S Q E, sp__law_turning c ds S Q E → ds.length = 3 := by
  rintro ds S Q E ⟨_, _, _, rfl, _⟩; rfl
theorem mulw2 {i j : Int} (hi : 0 ≤ i ∧ i < 1000) (hj : 0 ≤ j ∧ j < 1000) : CMulW i j := mulw ⟨hi.1, by omega⟩ ⟨hj.1, by omega⟩
theorem rd__law_turning (c : Cl) : ∀ ds S Q X1, sp__law_turning c ds S Q X1 → w__law_turning c (startD N__law_turning_ ds) S (endQ Q X1) := by
  rintro ds S Q X1 ⟨p, n, m, rfl, hp, ⟨n1', n8⟩, ⟨m0, m1⟩, h⟩
  show w__law_turning c [some (.ref p), some (.int n), some (.int m), none, none, none, none, none, none, none] S (endQ Q X1)
  unfold w__law_turning
  refine seq_k fun q1 n1 r1 _ _ x1 => ?_
  simp only [wSet, wBin, wCall, wCons, wNil, wVar, wC, getV, setV, some!]
  refine ⟨p, 30, rfl, hp, by decide, fun r g r0 r30 hg => ?_⟩
  simp only [oAdd]
  refine n1 _ _ ?_
  have hp := is_st (S := S) (p := p) hg
  generalize put S p (stMO g) = S at hp
  obtain ⟨need, hneed, d1, d30⟩ : ∃ need, 1 + r = need ∧ 1 ≤ need ∧ need ≤ 30 := ⟨_, rfl, by omega, by omega⟩
  rw [hneed]
  refine seq_k fun q1 n1 r1 _ _ x1 => ?_
  simp only [wSet, wBin, wVar, wC, getV, setV, some!, oSub, oI0, oMul, oI, oAdd]
  refine ⟨mulw2 ⟨by omega, by omega⟩ ⟨by omega, by omega⟩, n1 _ _ ?_⟩
  have hrest : 0 ≤ need * (n - 1) + m ∧ need * (n - 1) + m ≤ need * 11 := by
    have h1 : 0 ≤ need * (n - 1) := Int.mul_nonneg (by omega) (by omega)
    have h2 : need * (n - 1) ≤ need * 7 := Int.mul_le_mul_of_nonneg_left (by omega) (by omega)
    omega
  generalize need * (n - 1) + m = rest at hrest
  refine seq_k fun q1 n1 r1 _ _ x1 => ?_
  simp only [wSet, wLstM, wCons, wNil, wVar, getV, setV, some!]
  refine ⟨by show 1 ≤ sizeLine; decide, fun b hb => n1 _ _ ?_⟩
  have hpb := st_none hp hb
  have hp := st_new (m := .lst [.int need]) hp hb
  have hat : put S b (.lst [.int need]) b = some (.lst ([need].map D.int)) := put_same
  generalize put S b (.lst [.int need]) = S at hp hat
  refine seq_k fun q1 n1 r1 _ _ x1 => ?_
  simp only [wFor, wRg1, wC, asI]
  refine ⟨⟨by decide, by decide⟩, ?_⟩
  refine forI_invq (fun k e S' => IsSt S' p ∧ ∃ ns rest x6 x7 x8, S' b = some (.lst (ns.map D.int)) ∧ (1 ≤ ns.length ∧ ns.length ≤ k + 1) ∧ (∀ x, x ∈ ns → 0 ≤ x ∧ x ≤ 30) ∧ (0 ≤ rest ∧ rest ≤ need * (11 - (k : Int))) ∧
    e = [some (.ref p), some (.int n), some (.int m), some (.int need), some (.int rest), some (.ref b), x6, x7, x8, none])
    ⟨hp, [need], rest, none, none, none, hat, ⟨Nat.le_refl 1, Nat.le_refl 1⟩, fun x hx => by rw [List.mem_singleton] at hx; subst hx; omega, by simpa using hrest, rfl⟩ (fun _ _ _ _ => trivial) ?_ ?_
  · rintro k d e S1 hi ⟨hp, ns, rest, x6, x7, x8, hat, hlen, hns, hrest, rfl⟩ q hq _ _ _ _
    obtain ⟨hlt, rfl⟩ := rngD_get hi
    have hlt' : k < 11 := hlt
    rw [Int.zero_add]
    simp only [gN, setV]
    have hm : need * (11 - (k : Int)) = need * (10 - (k : Int)) + need := by
      rw [show (11 - (k : Int)) = (10 - (k : Int)) + 1 by omega, Int.mul_add, Int.mul_one]
    have hm2 : (11 : Int) - ((k + 1 : Nat) : Int) = 10 - (k : Int) := by omega
    have hm0 : 0 ≤ need * (10 - (k : Int)) := Int.mul_nonneg (by omega) (by omega)
    have hw : CMulW need (10 - (k : Int)) := mulw2 ⟨by omega, by omega⟩ ⟨by omega, by omega⟩
    simp only [wIf, wTest, wBin, wVar, wC, getV, some!, oGt, oI0, decide_eq_true_eq]
    by_cases z : 0 < rest
    · rw [if_pos z]
      refine seq_k fun q1 n1 r1 _ _ x1 => ?_
      simp only [wSet, wCB, wCons, wNil, wBin, wVar, wC, getV, setV, some!, oSub, oI0, oMul, oI, oMax2, two, asI]
      refine ⟨hw, n1 _ _ ?_⟩
      generalize hM : need * (10 - (k : Int)) = M at hm hm0 hw
      refine seq_k fun q1 n1 r1 _ _ x1 => ?_
      simp only [wSet, wCB, wCall, wCons, wNil, wBin, wVar, wC, getV, setV, some!, oSub, oI0, oMin2, two, asI, oAdd]
      refine ⟨p, _, rfl, hp, by omega, fun r g r0 r1' hg => n1 _ _ ?_⟩
      have hp2 := is_st (S := S1) (p := p) hg
      have hat2 : put S1 p (stMO g) b = some (.lst (ns.map D.int)) := by rw [put_ne (Ne.symm hpb)]; exact hat
      generalize put S1 p (stMO g) = S2 at hp2 hat2
      refine seq_k fun q1 n1 r1 _ _ x1 => ?_
      -- the part
      have after : ∀ part, (0 ≤ part ∧ part ≤ rest ∧ part ≤ need ∧ rest - part ≤ M) → q1.nx [some (.ref p), some (.int n), some (.int m), some (.int need), some (.int rest), some (.ref b), some (.int (k : Int)), some (.int (max 0 (rest - M))), some (.int part), none] S2 := fun part hpart => by
        refine n1 _ _ ?_
        refine seq_k fun q1 n1 r1 _ _ x1 => ?_
        simp only [wDrop, wMt, wCons, wNil, wVar, getV, some!, mutL, hat2, oAppend, one]
        refine ⟨by rw [List.length_map]; unfold sizeLine; omega, n1 _ _ ?_⟩
        simp only [wAug, wVar, getV, setV, some!, oSub, oI0]
        refine hq _ _ ⟨st_chg hp2 hpb, ns ++ [part], _, _, _, _, by rw [put_same, List.map_append]; rfl, by rw [List.length_append]; simp; omega, fun x hx => ?_, ?_, rfl⟩
        · rcases List.mem_append.mp hx with y | y
          · exact hns x y
          · rw [List.mem_singleton] at y; subst y; omega
        · rw [hm2, hM]
          omega
      simp only [wIf, wTest, wBin, wVar, wC, getV, some!, oGt, oI0, decide_eq_true_eq]
      split
      · simp only [wSet, wCB, wCons, wNil, wVar, getV, setV, some!, oMin2, two, asI]
        exact after _ (by omega)
      · simp only [wNext]
        exact after _ (by omega)
    · rw [if_neg z]
      simp only [wNext]
      refine hq _ _ ⟨hp, ns, rest, _, _, _, hat, by omega, hns, ?_, rfl⟩
      rw [hm2]
      omega
  · rintro e S1 ⟨hp, ns, rest, x6, x7, x8, hat, hlen, hns, hrest, rfl⟩
    rw [rngD_length] at hlen
    have hlen : 1 ≤ ns.length ∧ ns.length ≤ 12 := hlen
    refine n1 _ _ ?_
    refine seq_k fun q1 n1 r1 _ _ x1 => ?_
    have e1 := seqA_at hat
    simp only [wSet, wCall, wCB, wCons, wNil, wVar, getV, setV, some!]
    have ol := fun Q => (oLen_of (S := S1) (d := .ref b) (Q := Q) e1)
    refine ol _ ?_
    rw [List.length_map]
    refine ⟨p, _, rfl, hp, by omega, fun r g r0 r1' hg => n1 _ _ ?_⟩
    have hp2 := is_st (S := S1) (p := p) hg
    have hat2 : put S1 p (stMO g) b = some (.lst (ns.map D.int)) := by rw [put_ne (Ne.symm hpb)]; exact hat
    generalize put S1 p (stMO g) = S2 at hp2 hat2
    have e2 := seqL_at hat2
    simp only [wRet, wBin, wSl, wP, wNoP, wVar, getV, some!, asI, oSl, e2, cutD_int]
    rw [cutI_from r0, cutI_to r0]
    simp only [oAdd, oCatL, seqM, some!, List.length_map, ← List.map_append]
    refine ⟨by rw [List.length_drop, List.length_take]; unfold sizeLine; omega, h _ (needs_ok (many := ns.length) ?_ hlen fun x hx => ?_) S2 hp2⟩
    · rw [List.length_append, List.length_drop, List.length_take]; omega
    · rcases List.mem_append.mp hx with y | y
      · exact hns x (List.mem_of_mem_drop y)
      · exact hns x (List.mem_of_mem_take y)
end K19
set_option Elab.async false
set_option linter.all false
set_option maxRecDepth 100000
set_option maxHeartbeats 1000000
namespace K19
open PySem PySem.Spec PyProof.Rows L2 DL
theorem len__law_needs (c : Cl) : ∀ ds S Q E, sp__law_needs c ds S Q E → ds.length = 2 := by
  rintro ds S Q E ⟨_, _, rfl, _⟩; rfl
theorem rd__law_needs (c : Cl) : ∀ ds S Q X1, sp__law_needs c ds S Q X1 → w__law_needs c (startD N__law_needs_ ds) S (endQ Q X1) := by
  rintro ds S Q X1 ⟨p, n, rfl, hp, ⟨n1', n8⟩, h⟩
  show w__law_needs c [some (.ref p), some (.int n), none, none, none, none, none] S (endQ Q X1)
  unfold w__law_needs
  refine seq_k fun q1 n1 r1 _ _ x1 => ?_
  simp only [wSet, wBin, wCall, wCons, wNil, wVar, wC, getV, setV, some!]
  refine ⟨p, 6, rfl, hp, by decide, fun r g r0 r6 hg => ?_⟩
  simp only [oAdd]
  refine n1 _ _ ?_
  have hp := is_st (S := S) (p := p) hg
  generalize put S p (stMO g) = S at hp
  refine seq_k fun q1 n1 r1 _ _ x1 => ?_
  simp only [wIf, wTest, wBin, wCall, wCons, wNil, wVar, wC, getV, some!]
  refine ⟨p, 4, rfl, hp, by decide, fun r2 g2 r20 r24 hg2 => ?_⟩
  have hp := is_st (S := S) (p := p) hg2
  generalize put S p (stMO g2) = S at hp
  simp only [oEq, shD_int, eqD_int, true_and, decide_eq_true_eq]
  -- so many
  have rest : ∀ many : Nat, 1 ≤ many ∧ many ≤ 12 → q1.nx [some (.ref p), some (.int n), some (.int (many : Nat)), none, none, none, none] S := fun many hmany => by
    refine n1 _ _ ?_
    refine seq_k fun q1 n1 r1 _ _ x1 => ?_
    simp only [wSet, wCall, wCons, wNil, wVar, wC, getV, setV, some!]
    refine ⟨p, 7, rfl, hp, by decide, fun way g3 w0 w7 hg3 => n1 _ _ ?_⟩
    have hp := is_st (S := S) (p := p) hg3
    generalize put S p (stMO g3) = S at hp
    have hrg : (-(2 ^ 62) : Int) ≤ ((many : Nat) : Int) ∧ ((many : Nat) : Int) < 2 ^ 62 := ⟨by omega, by omega⟩
    have hsz : (rngD 0 many).length ≤ sizeLine := by rw [rngD_length]; unfold sizeLine; omega
    refine seq_k fun q1 n1 r1 _ _ x1 => ?_
    simp only [wIf, wTest, wBin, wVar, wC, getV, some!, oEq, shD_int, eqD_int, true_and, decide_eq_true_eq]
    by_cases z : way = 0
    · rw [if_pos z]
      simp only [wRet, wLc, wRg1, wVar, getV, some!, asI, delVs, delV, Int.toNat_natCast]
      refine ⟨hrg, hsz, nd_comp hp (fun d S' Q hp h => h 0 S' (by decide) hp) fun ns S' e1 e2 hp => ?_⟩
      rw [r1]
      exact h ns (needs_ok e1 hmany e2) S' hp
    rw [if_neg z]
    refine n1 _ _ ?_
    refine seq_k fun q1 n1 r1 _ _ x1 => ?_
    simp only [wIf, wTest, wBin, wVar, wC, getV, some!, oEq, shD_int, eqD_int, true_and, decide_eq_true_eq]
    by_cases z : way = 1
    · rw [if_pos z]
      refine seq_k fun q2 n2 r2 _ _ x2 => ?_
      simp only [wSet, wCall, wCons, wNil, wVar, wC, getV, setV, some!]
      refine ⟨p, 31, rfl, hp, by decide, fun x g4 x0 x31 hg4 => n2 _ _ ?_⟩
      have hp := is_st (S := S) (p := p) hg4
      generalize put S p (stMO g4) = S at hp
      simp only [wRet, wLc, wRg1, wVar, getV, some!, asI, delVs, delV, Int.toNat_natCast]
      refine ⟨hrg, hsz, nd_comp hp (fun d S' Q hp h => h x S' (by omega) hp) fun ns S' e1 e2 hp => ?_⟩
      rw [r1]
      exact h ns (needs_ok e1 hmany e2) S' hp
    rw [if_neg z]
    refine n1 _ _ ?_
    refine seq_k fun q1 n1 r1 _ _ x1 => ?_
    simp only [wIf, wTest, wBin, wVar, wC, getV, some!, oEq, shD_int, eqD_int, true_and, decide_eq_true_eq]
    by_cases z : way = 2
    · rw [if_pos z]
      refine seq_k fun q2 n2 r2 _ _ x2 => ?_
      simp only [wSet, wLcM, wRg1, wVar, getV, setV, some!, asI, delVs, delV, Int.toNat_natCast]
      refine ⟨hrg, hsz, nd_comp hp (fun d S' Q hp h => ?_) fun ns S' e1 e2 hp => ?_⟩
      · simp only [wCall, wCons, wNil, wVar, wC, getV, setV, some!]
        exact ⟨p, 4, rfl, hp, by decide, fun x g x0 x4 hg => h x _ (by omega) (is_st hg)⟩
      refine fun b hb => n2 _ _ ?_
      have hpb := st_none hp hb
      have hp := st_new (m := .lst (ns.map D.int)) hp hb
      have hat : put S' b (.lst (ns.map D.int)) b = some (.lst (ns.map D.int)) := put_same
      generalize put S' b (.lst (ns.map D.int)) = S at hp hat
      refine seq_k fun q2 n2 r2 _ _ x2 => ?_
      simp only [wSetI, wBin, wCall, wCons, wNil, wVar, wC, getV, setV, some!]
      refine ⟨p, 11, rfl, hp, by decide, fun x g x0 x11 hg => ?_⟩
      have hp := is_st (S := S) (p := p) hg
      have hat : put S p (stMO g) b = some (.lst (ns.map D.int)) := by rw [put_ne (Ne.symm hpb)]; exact hat
      generalize put S p (stMO g) = S at hp hat
      simp only [oAdd]
      refine ⟨p, _, rfl, hp, by omega, fun y g y0 y1 hg => ?_⟩
      have hp := is_st (S := S) (p := p) hg
      have hat : put S p (stMO g) b = some (.lst (ns.map D.int)) := by rw [put_ne (Ne.symm hpb)]; exact hat
      generalize put S p (stMO g) = S at hp hat
      obtain ⟨w, rfl⟩ : ∃ w : Nat, y = (w : Int) := ⟨y.toNat, (Int.toNat_of_nonneg y0).symm⟩
      have hix : ixN (ns.map D.int).length (w : Int) = some w := by
        unfold ixN
        rw [if_pos (by omega), if_pos (by rw [List.length_map, e1]; omega), Int.toNat_natCast]
      simp only [setIx, hat, hix, some!]
      refine n2 _ _ ?_
      have hp := st_chg (m := .lst ((ns.map D.int).set w (.int (20 + x)))) hp hpb
      have hat : put S b (.lst ((ns.map D.int).set w (.int (20 + x)))) b = some (.lst ((ns.set w (20 + x)).map D.int)) := by rw [put_same, List.map_set]
      generalize put S b (.lst ((ns.map D.int).set w (.int (20 + x)))) = S at hp hat
      simp only [wRet, wFrz, wVar, getV, some!, frzD, hat]
      rw [r1]
      exact h _ (needs_ok (by rw [List.length_set]; exact e1) hmany fun v hv => by
        rcases List.mem_or_eq_of_mem_set hv with y | y
        · exact e2 v y
        · subst y; omega) _ (st_del hp hpb)
    rw [if_neg z]
    refine n1 _ _ ?_
    refine seq_k fun q1 n1 r1 _ _ x1 => ?_
    simp only [wIf, wTest, wBin, wVar, wC, getV, some!, oEq, shD_int, eqD_int, true_and, decide_eq_true_eq]
    by_cases z : way = 3
    · rw [if_pos z]
      simp only [wRet, wLc, wRg1, wVar, getV, some!, asI, delVs, delV, Int.toNat_natCast]
      refine ⟨hrg, hsz, nd_comp hp (fun d S' Q hp h => ?_) fun ns S' e1 e2 hp => ?_⟩
      · simp only [wBin, wCall, wCons, wNil, wVar, wC, getV, setV, some!]
        refine ⟨p, 2, rfl, hp, by decide, fun x g x0 x2 hg => ?_⟩
        have hp := is_st (S := S') (p := p) hg
        simp only [oMul, oI, oAdd]
        exact ⟨mulw2 (by decide) (by omega), p, _, rfl, hp, by omega, fun y g y0 y4 hg => h y _ (by omega) (is_st hg)⟩
      rw [r1]
      exact h ns (needs_ok e1 hmany e2) S' hp
    rw [if_neg z]
    refine n1 _ _ ?_
    refine seq_k fun q1 n1 r1 _ _ x1 => ?_
    simp only [wIf, wTest, wBin, wVar, wC, getV, some!, oLt, oI0, decide_eq_true_eq]
    by_cases z : way < 6
    · rw [if_pos z]
      simp only [wRet, wCall, wCons, wNil, wBin, wVar, wC, getV, some!, oSub, oI0]
      refine ⟨p, n, _, rfl, hp, ⟨n1', n8⟩, by omega, fun ns hns S' hp => ?_⟩
      rw [r1]
      exact h ns hns S' hp
    rw [if_neg z]
    refine n1 _ _ ?_
    simp only [wRet, wLc, wRg1, wVar, getV, some!, asI, delVs, delV, Int.toNat_natCast]
    refine ⟨hrg, hsz, nd_comp hp (fun d S' Q hp h => ?_) fun ns S' e1 e2 hp => ?_⟩
    · simp only [wCall, wCons, wNil, wVar, wC, getV, setV, some!]
      exact ⟨p, 31, rfl, hp, by decide, fun x g x0 x4 hg => h x _ (by omega) (is_st hg)⟩
    exact h ns (needs_ok e1 hmany e2) S' hp
  split
  · simp only [wSet, wBin, wVar, wC, getV, setV, some!, oAdd]
    have := rest (7 + r.toNat) (by omega)
    rw [show ((7 + r.toNat : Nat) : Int) = 6 + (1 + r) by omega] at this
    exact this
  · have := rest (1 + r.toNat) (by omega)
    rw [show ((1 + r.toNat : Nat) : Int) = 1 + r by omega] at this
    exact this
end K19
set_option Elab.async false
set_option linter.all false
set_option maxRecDepth 100000
set_option maxHeartbeats 1000000
namespace K19
open PySem PySem.Spec PyProof.Rows L2 DL
theorem ext_st {S S' : Sto} {p : Addr} (h : IsSt S p) (E : Ext S S') : IsSt S' p := by
  obtain ⟨g, k, e⟩ := h
  exact ⟨g, k, E _ _ e⟩
theorem kn_row {S : Sto} {i : Bool} {ns : List Int} : KnRow S (dR i ns) := by
  refine ⟨by cases i <;> exact ⟨_, rfl⟩, fun xs hx x hm => ?_⟩
  rw [seqA_dR] at hx
  cases hx
  obtain ⟨v, _, rfl⟩ := List.mem_map.mp hm
  exact ⟨_, rfl⟩
theorem nums_all : ∀ (ns : List Int) (j : Nat), (∀ x, x ∈ ns → 0 ≤ x ∧ x ≤ 30) → numsAll 0 30 j (ns.map D.int) = .inl ns
  | [], _, _ => rfl
  | v :: r, j, h => by
    show (if 0 ≤ v ∧ v ≤ 30 then _ else _) = _
    rw [if_pos (h v List.mem_cons_self), nums_all r (j + 1) fun x hx => h x (List.mem_cons_of_mem _ hx)]
theorem nums_needs {S : Sto} {i : Bool} {ns : List Int} (h : NeedsOk ns) : numsOf S 12 0 30 (dR i ns) = .inl ns := by
  unfold numsOf
  rw [seqA_dR]
  show (if _ then _ else _) = _
  have := List.length_pos_iff.mpr h.1
  have := h.2.1
  rw [if_pos (by rw [List.length_map]; omega)]
  exact nums_all ns 0 h.2.2
theorem in8_yes {n : Int} (h : 1 ≤ n ∧ n ≤ 8) : inR 1 8 (.int n) = true := decide_eq_true h
theorem inl_inr {α β : Type} {x : α ⊕ β} {a : α} {b : β} (h : x = .inl a) (h2 : x = .inr b) {P : Prop} : P := by rw [h] at h2; cases h2
theorem divw8 {i n : Int} (h : 1 ≤ n ∧ n ≤ 8) : CDivW i n := divw ⟨by omega, by omega⟩
/-- a plan is asked for -/
theorem ask_go {c : Cl} {S : Sto} {i : Bool} {ns : List Int} {n k : Int} {Q : Qd} {E : XQ} (hok : NeedsOk ns) (hn : 1 ≤ n ∧ n ≤ 8) (h0 : k = 0 → Q (.tup [.str "told", .int (ticksF ns n)]) S)
    (h1 : k ≠ 0 → ∀ plan, PlanOk ns n plan → ∀ S', Ext S S' → Q (.tup [.str "told", .tup (plan.map dT)]) S') : sp__law_ask c [.int k, dR i ns, .int n] S Q E :=
  ⟨k, _, _, rfl, kn_row, ⟨_, rfl⟩, fun p hp => inl_inr (nums_needs hok) hp, fun ns' hns => by
    rw [nums_needs hok] at hns
    cases hns
    exact ⟨fun hin => (by rw [in8_yes hn] at hin; cases hin), fun n' hn' _ => by cases hn'; exact ⟨h0, h1⟩⟩⟩
theorem few_go {c : Cl} {S : Sto} {i : Bool} {ns : List Int} {n : Int} {Q : Qd} {E : XQ} (hok : NeedsOk ns) (hn : 1 ≤ n ∧ n ≤ 8) (h0 : Q (.int (ticksF ns n)) S) : sp_fewest_ticks c [dR i ns, .int n] S Q E :=
  ⟨_, _, rfl, kn_row, ⟨_, rfl⟩, fun p hp => inl_inr (nums_needs hok) hp, fun ns' hns => by
    rw [nums_needs hok] at hns
    cases hns
    exact ⟨fun hin => (by rw [in8_yes hn] at hin; cases hin), fun n' hn' _ => by cases hn'; exact h0⟩⟩
theorem plan_go {c : Cl} {S : Sto} {i : Bool} {ns : List Int} {n : Int} {Q : Qd} {E : XQ} (hok : NeedsOk ns) (hn : 1 ≤ n ∧ n ≤ 8) (h0 : ∀ plan, PlanOk ns n plan → ∀ S', Ext S S' → Q (.tup (plan.map dT)) S') : sp_lane_plan c [dR i ns, .int n] S Q E :=
  ⟨_, _, rfl, kn_row, ⟨_, rfl⟩, fun p hp => inl_inr (nums_needs hok) hp, fun ns' hns => by
    rw [nums_needs hok] at hns
    cases hns
    exact ⟨fun hin => (by rw [in8_yes hn] at hin; cases hin), fun n' hn' _ => by cases hn'; exact h0⟩⟩
theorem sh_str {S : Sto} {x : Str} (h : PyData.strOk x = true) : shD S (.str x) = true := by
  show ((PyData.str x).canLay0 && decide ((PyData.str x).depth ≤ 64)) = true
  simp [PyData.canLay0, PyData.depth, h]
theorem sh_told {S : Sto} : shD S (.str "told") = true := sh_str (strOk_str _)
theorem sh_word {S : Sto} {x y : Str} (h : PyData.strOk x = true) (h2 : PyData.strOk y = true) : shD S (.tup [.str x, .str y]) = true := by
  show ((PyData.tuple [.str x, .str y]).canLay0 && decide ((PyData.tuple [.str x, .str y]).depth ≤ 64)) = true
  simp [PyData.canLay0, PyData.canLayAll0, PyData.depth, PyData.depthAll, h, h2]
theorem sh_place {S : Sto} {x : Str} {i : Int} (h : PyData.strOk x = true) : shD S (.tup [.str x, .int i]) = true := by
  show ((PyData.tuple [.str x, .int i]).canLay0 && decide ((PyData.tuple [.str x, .int i]).depth ≤ 64)) = true
  simp [PyData.canLay0, PyData.canLayAll0, PyData.depth, PyData.depthAll, h]
theorem at2_1 {α : Type} {a b : α} : atI [a, b] 1 = some b := rfl
theorem pick10 {a b : D} : pickK 0 2 [1, 0] [] [a, b] = [b, a] := rfl
theorem len__law_right (c : Cl) : ∀ ds S Q E, sp__law_right c ds S Q E → ds.length = 3 := by
  rintro ds S Q E ⟨_, _, _, rfl, _⟩; rfl
theorem rd__law_right (c : Cl) : ∀ ds S Q X1, sp__law_right c ds S Q X1 → w__law_right c (startD N__law_right_ ds) S (endQ Q X1) := by
  rintro ds S Q X1 ⟨p, ns, n, rfl, hp, hok, hn, h⟩
  obtain ⟨k0, k12, k30⟩ := id hok
  show w__law_right c [some (.ref p), some (dL ns), some (.int n), none, none, none, none, none] S (endQ Q X1)
  unfold w__law_right
  refine seq_k fun q1 n1 r1 _ _ x1 => ?_
  simp only [wSet, wCB, wBin, wCons, wNil, wVar, wC, getV, setV, some!, oMaxL, oSum, one, dL, seqL, seqM, seqA, toInts_map]
  refine ⟨List.length_pos_iff.mpr k0, fun m m1 m2 => ?_⟩
  have em := fold_top k0 (fun x hx => (k30 x hx).1) m1 m2
  simp only [oAdd, oSub, oI0, oDiv, oI, oMax2, two, asI]
  refine ⟨divw8 hn, n1 _ _ ?_⟩
  have et : max m ((ns.sum + n - 1) / n) = ticksF ns n := by unfold ticksF; rw [← em]
  rw [et]
  refine seq_k fun q1 n1 r1 _ _ x1 => ?_
  simp only [wSet, wCB, wCons, wNil, wVar, getV, setV, some!, oList, one, seqA, seqL, seqM]
  refine n1 _ _ ?_
  refine seq_k fun q1 n1 r1 _ _ x1 => ?_
  simp only [wIf, wTest, wBin, wCall, wCons, wNil, wVar, wC, getV, some!]
  refine ⟨p, 2, rfl, hp, by decide, fun r g r0 r2 hg => ?_⟩
  have hp := is_st (S := S) (p := p) hg
  generalize put S p (stMO g) = S at hp
  simp only [oEq, shD_int, eqD_int, true_and, decide_eq_true_eq]
  have rest : ∀ i : Bool, q1.nx [some (.ref p), some (.lst (ns.map D.int)), some (.int n), some (.int (ticksF ns n)), some (dR i ns), none, none, none] S := fun i => by
    refine n1 _ _ ?_
    refine seq_k fun q1 n1 r1 _ _ x1 => ?_
    simp only [wSet, wCall, wCons, wNil, wVar, wC, getV, setV, some!]
    refine ask_go hok hn (fun _ => n1 _ _ ?_) (fun z => absurd rfl z)
    refine seq_k fun q1 n1 r1 _ _ x1 => ?_
    simp only [wIf, wOr, wNot, wTest, wBin, wCall, wCons, wNil, wVar, wC, getV, some!, oIx, seqA, at_0, at2_1, oNe, sh_told, eqD_refl sh_told, shD_int, eqD_int, Bool.not_true, Bool.false_eq_true, if_false, true_and]
    refine ⟨_, rfl, ⟨_, rfl⟩, ?_⟩
    simp only [isInt, Bool.not_true, Bool.false_eq_true, if_false, decide_true, wNext]
    refine n1 _ _ ?_
    refine seq_k fun q1 n1 r1 _ _ x1 => ?_
    simp only [wSet, wCall, wCons, wNil, wVar, wC, getV, setV, some!]
    refine ask_go hok hn (fun z => absurd z (by decide)) (fun _ plan P S2 E => n1 _ _ ?_)
    have hp := ext_st hp E
    clear E
    refine seq_k fun q1 n1 r1 _ _ x1 => ?_
    simp only [wIf, wOr, wNot, wTest, wBin, wCall, wCons, wNil, wVar, wC, getV, some!, oIx, seqA, at_0, at2_1, oNe, sh_told, eqD_refl sh_told, Bool.not_true, Bool.false_eq_true, if_false, true_and]
    refine ⟨ns, n, plan, rfl, hok, hn, P, fun S3 E => ?_⟩
    have hp := ext_st hp E
    clear E
    simp only [Bool.not_true, Bool.false_eq_true, if_false, wNext]
    refine n1 _ _ ?_
    refine seq_k fun q1 n1 r1 _ _ x1 => ?_
    simp only [wIf, wOr, wTest, wBin, wCB, wCallK, wCons, wNil, wVar, getV, some!, oList, one, seqA_dR, oNe, shD_lst, eqD_lst, decide_true, Bool.not_true, Bool.false_eq_true, if_false, true_and, pick10]
    refine few_go hok hn ?_
    simp only [shD_int, eqD_int, decide_true, Bool.not_true, Bool.false_eq_true, if_false, true_and, wNext]
    refine n1 _ _ ?_
    refine seq_k fun q1 n1 r1 _ _ x1 => ?_
    simp only [wSet, wCB, wCallK, wCons, wNil, wVar, getV, setV, some!, oList, one, seqA, seqL, seqM, pick10]
    refine plan_go (i := false) hok hn fun plan2 P2 S4 E => n1 _ _ ?_
    have hp := ext_st hp E
    clear E
    simp only [wRet, wAndV, wBin, wCall, wCons, wNil, wVar, wC, getV, some!]
    refine ⟨ns, n, plan2, rfl, hok, hn, P2, fun S5 E => ?_⟩
    have hp := ext_st hp E
    clear E
    simp only [if_true, oIx, seqA, at2_1, some!]
    refine ⟨ns, n, plan, rfl, hok, hn, P, fun S6 E => ?_⟩
    exact h S6 (ext_st hp E)
  split
  · simp only [wSet, wCB, wCons, wNil, wVar, getV, setV, some!, oTuple, one, seqA, seqL, seqM]
    exact rest true
  · exact rest false
end K19
set_option Elab.async false
set_option linter.all false
set_option maxRecDepth 100000
set_option maxHeartbeats 1000000
namespace K19
open PySem PySem.Spec PyProof.Rows L2 DL
/-- a row with its first wrong place -/
structure Bad (n : Nat) (i : Nat) (xs : List D) : Prop where
  len : xs.length = n
  ok : ∀ (k : Nat) x, k < i → xs[k]? = some x → inR 0 30 x = true
  no : ∃ y, xs[i]? = some y ∧ inR 0 30 y = false
  kn : ∀ x, x ∈ xs → ∀ S, Kn S x
theorem Bad.nums {n i : Nat} {xs : List D} (B : Bad n i xs) (h1 : 1 ≤ n ∧ n ≤ 12) {S : Sto} {d : D} (hd : seqA S d = some xs) : numsOf S 12 0 30 d = .inr i := by
  unfold numsOf
  rw [hd]
  show (if _ then _ else _) = _
  rw [if_pos (by rw [B.len]; omega)]
  obtain ⟨y, e1, e2⟩ := B.no
  rw [nums_bad xs 0 i y B.ok e1 e2, Nat.zero_add]
theorem Bad.lst {n i : Nat} {xs : List D} (B : Bad n i xs) (h1 : 1 ≤ n ∧ n ≤ 12) : WrongNeeds (.lst xs) i :=
  ⟨fun S => ⟨⟨_, rfl⟩, fun ys hy x hx => by cases hy; exact B.kn x hx S⟩, fun S => B.nums h1 rfl⟩
theorem Bad.tup {n i : Nat} {xs : List D} (B : Bad n i xs) (h1 : 1 ≤ n ∧ n ≤ 12) : WrongNeeds (.tup xs) i :=
  ⟨fun S => ⟨⟨_, rfl⟩, fun ys hy x hx => by cases hy; exact B.kn x hx S⟩, fun S => B.nums h1 rfl⟩
theorem Bad.make {ns : List Int} {i : Nat} {y : D} (h : NeedsOk ns) (hi : i < ns.length) (hy : inR 0 30 y = false) (hk : ∀ S, Kn S y) : Bad ns.length i ((ns.map D.int).set i y) where
  len := by rw [List.length_set, List.length_map]
  ok := fun k x hk2 hx => by
    rw [List.getElem?_set, if_neg (by omega), List.getElem?_map] at hx
    obtain ⟨v, hv, rfl⟩ := Option.map_eq_some_iff.mp hx
    exact decide_eq_true (h.2.2 v (List.mem_of_getElem? hv))
  no := ⟨y, by rw [List.getElem?_set, if_pos rfl, if_pos (by rw [List.length_map]; exact hi)], hy⟩
  kn := fun x hx S => by
    rcases List.mem_or_eq_of_mem_set hx with z | z
    · obtain ⟨v, _, rfl⟩ := List.mem_map.mp z
      exact ⟨_, rfl⟩
    · rw [z]; exact hk S
theorem Bad.more {n i : Nat} {xs : List D} (B : Bad n i xs) {v : Int} : Bad n i (xs.set (i + 1) (.int v)) where
  len := by rw [List.length_set]; exact B.len
  ok := fun k x hk2 hx => by
    rw [List.getElem?_set, if_neg (by omega)] at hx
    exact B.ok k x hk2 hx
  no := by
    obtain ⟨y, e1, e2⟩ := B.no
    exact ⟨y, by rw [List.getElem?_set, if_neg (by omega)]; exact e1, e2⟩
  kn := fun x hx S => by
    rcases List.mem_or_eq_of_mem_set hx with z | z
    · exact B.kn x z S
    · rw [z]; exact ⟨_, rfl⟩
theorem bad10 {r far big : Int} (h : 0 ≤ r ∧ r < 10) (hf : 31 ≤ far) (hb : 31 ≤ big) : ∃ y, atI [D.int far, .int 31, .int (-1), .bl true, .bl false, .non, .str "3", .tup [.int 3], .lst [.int 3], .int big] r = some y ∧ inR 0 30 y = false ∧ ∀ S, Kn S y := by
  have e : r = 0 ∨ r = 1 ∨ r = 2 ∨ r = 3 ∨ r = 4 ∨ r = 5 ∨ r = 6 ∨ r = 7 ∨ r = 8 ∨ r = 9 := by omega
  rcases e with rfl | rfl | rfl | rfl | rfl | rfl | rfl | rfl | rfl | rfl
  · exact ⟨_, rfl, decide_eq_false (by omega), fun S => ⟨_, rfl⟩⟩
  · exact ⟨_, rfl, by decide, fun S => ⟨_, rfl⟩⟩
  · exact ⟨_, rfl, by decide, fun S => ⟨_, rfl⟩⟩
  · exact ⟨_, rfl, rfl, fun S => ⟨_, rfl⟩⟩
  · exact ⟨_, rfl, rfl, fun S => ⟨_, rfl⟩⟩
  · exact ⟨_, rfl, rfl, fun S => ⟨_, rfl⟩⟩
  · exact ⟨_, rfl, rfl, fun S => ⟨_, rfl⟩⟩
  · exact ⟨_, rfl, rfl, fun S => ⟨_, rfl⟩⟩
  · exact ⟨_, rfl, rfl, fun S => ⟨_, rfl⟩⟩
  · exact ⟨_, rfl, decide_eq_false (by omega), fun S => ⟨_, rfl⟩⟩
theorem none6 {r : Int} (h : 0 ≤ r ∧ r < 6) : ∃ y, atI [D.non, .int 5, .str "", .tup [], .lst [], .bl true] r = some y ∧ WrongNeeds y 0 := by
  have e : r = 0 ∨ r = 1 ∨ r = 2 ∨ r = 3 ∨ r = 4 ∨ r = 5 := by omega
  rcases e with rfl | rfl | rfl | rfl | rfl | rfl
  · exact ⟨_, rfl, fun S => ⟨⟨_, rfl⟩, fun xs hx => by cases hx⟩, fun S => rfl⟩
  · exact ⟨_, rfl, fun S => ⟨⟨_, rfl⟩, fun xs hx => by cases hx⟩, fun S => rfl⟩
  · exact ⟨_, rfl, fun S => ⟨⟨_, rfl⟩, fun xs hx => by cases hx⟩, fun S => rfl⟩
  · exact ⟨_, rfl, fun S => ⟨⟨_, rfl⟩, fun xs hx x hm => by cases hx; cases hm⟩, fun S => rfl⟩
  · exact ⟨_, rfl, fun S => ⟨⟨_, rfl⟩, fun xs hx x hm => by cases hx; cases hm⟩, fun S => rfl⟩
  · exact ⟨_, rfl, fun S => ⟨⟨_, rfl⟩, fun xs hx => by cases hx⟩, fun S => rfl⟩
theorem many_wrong {ns : List Int} (h : 13 ≤ ns.length) : WrongNeeds (.lst (ns.map D.int)) 0 :=
  ⟨fun S => ⟨⟨_, rfl⟩, fun ys hy x hx => by
    cases hy
    obtain ⟨v, _, rfl⟩ := List.mem_map.mp hx
    exact ⟨_, rfl⟩⟩, fun S => by
    unfold numsOf
    show (if _ then _ else _) = _
    rw [if_neg (by rw [List.length_map]; omega)]⟩
theorem len__law_wrong_needs (c : Cl) : ∀ ds S Q E, sp__law_wrong_needs c ds S Q E → ds.length = 2 := by
  rintro ds S Q E ⟨_, _, rfl, _⟩; rfl
theorem rd__law_wrong_needs (c : Cl) : ∀ ds S Q X1, sp__law_wrong_needs c ds S Q X1 → w__law_wrong_needs c (startD N__law_wrong_needs_ ds) S (endQ Q X1) := by
  rintro ds S Q X1 ⟨p, ns, rfl, hp, hok, h⟩
  obtain ⟨k0, k12, k30⟩ := id hok
  have kp := List.length_pos_iff.mpr k0
  show w__law_wrong_needs c [some (.ref p), some (dL ns), none, none, none, none, none, none] S (endQ Q X1)
  unfold w__law_wrong_needs
  refine seq_k fun q1 n1 r1 _ _ x1 => ?_
  simp only [wSet, wCall, wCons, wNil, wVar, wC, getV, setV, some!]
  refine ⟨p, 10, rfl, hp, by decide, fun way g w0 w10 hg => n1 _ _ ?_⟩
  have hp := is_st (S := S) (p := p) hg
  generalize put S p (stMO g) = S at hp
  refine seq_k fun q1 n1 r1 _ _ x1 => ?_
  simp only [wIf, wTest, wBin, wVar, wC, getV, some!, oLt, oI0, decide_eq_true_eq]
  by_cases z : way < 6
  · rw [if_pos z]
    obtain ⟨y, e, hw⟩ := none6 ⟨w0, z⟩
    simp only [wRet, wBin, wTup, wLst, wCons, wNil, wC, wVar, getV, some!, oIx, seqA, e, r1]
    exact ⟨Nat.zero_le _, Nat.zero_le _, by show 6 ≤ sizeLine; decide, z2, h y 0 hw S hp⟩
  rw [if_neg z]
  refine n1 _ _ ?_
  refine seq_k fun q1 n1 r1 _ _ x1 => ?_
  simp only [wIf, wTest, wBin, wVar, wC, getV, some!, oEq, shD_int, eqD_int, true_and, decide_eq_true_eq]
  by_cases z : way = 6
  · rw [if_pos z]
    refine seq_k fun q2 n2 r2 _ _ x2 => ?_
    simp only [wSet, wBin, wCall, wCons, wNil, wVar, wC, getV, setV, some!]
    refine ⟨p, 10, rfl, hp, by decide, fun r g r0 r10 hg => ?_⟩
    simp only [oAdd]
    refine n2 _ _ ?_
    have hp := is_st (S := S) (p := p) hg
    generalize put S p (stMO g) = S at hp
    obtain ⟨many, hm, hm1, hm2⟩ : ∃ many : Nat, 13 + r = (many : Int) ∧ 13 ≤ many ∧ many < 23 := ⟨(13 + r).toNat, by omega, by omega, by omega⟩
    rw [hm]
    simp only [wRet, wTup, wLc, wRg1, wCons, wNil, wVar, wC, getV, some!, asI, delVs, delV, Int.toNat_natCast]
    refine ⟨⟨by omega, by omega⟩, by rw [rngD_length]; unfold sizeLine; omega, compI_inv (fun k acc S' => S' = S ∧ ∃ ms : List Int, acc = ms.map D.int ∧ ms.length = k) ⟨rfl, [], rfl, rfl⟩ (fun _ _ _ _ => trivial) ?_ ?_⟩
    · rintro k d acc S' hi ⟨rfl, ms, rfl, rfl⟩
      obtain ⟨hlt, rfl⟩ := rngD_get hi
      obtain ⟨v, hv⟩ : ∃ v, ns[ms.length % ns.length]? = some v := ⟨_, List.getElem?_eq_getElem (Nat.mod_lt _ kp)⟩
      have ev := atI_map hv
      have a := fun Q => oIx_eq (S := S') (x := dL ns) rfl (show atI (ns.map D.int) ((0 + (ms.length : Int)) % (ns.length : Int)) = some (.int v) by rw [Int.zero_add]; exact ev) Q
      have ol := fun Q => oLen_of (S := S') (d := dL ns) (xs := ns.map D.int) (Q := Q) rfl
      simp only [gN, setV, wYes, if_true, wBin, wCB, wCons, wNil, wVar, getV, some!, oInt, one]
      refine ol _ ?_
      simp only [oMod, oI, List.length_map]
      refine ⟨by omega, ?_⟩
      rw [a]
      exact ⟨rfl, ms ++ [v], by rw [List.map_append]; rfl, by rw [List.length_append]; rfl⟩
    · rintro acc S' ⟨rfl, ms, rfl, hl⟩
      rw [rngD_length] at hl
      simp only [r1, r2]
      exact ⟨z2, h _ 0 (many_wrong (by omega)) _ hp⟩
  rw [if_neg z]
  refine n1 _ _ ?_
  refine seq_k fun q1 n1 r1 _ _ x1 => ?_
  simp only [wSet, wCB, wCons, wNil, wVar, getV, setV, some!, oListM, one, dL, seqA, seqL, seqM]
  refine fun b hb => n1 _ _ ?_
  have hpb := st_none hp hb
  have hp := st_new (m := .lst (ns.map D.int)) hp hb
  have hat : put S b (.lst (ns.map D.int)) b = some (.lst (ns.map D.int)) := put_same
  generalize put S b (.lst (ns.map D.int)) = S at hp hat
  refine seq_k fun q1 n1 r1 _ _ x1 => ?_
  simp only [wSet, wCall, wCB, wCons, wNil, wVar, wC, getV, setV, some!, oLen, one, seqA, seqL, seqM, List.length_map]
  refine ⟨p, _, rfl, hp, by omega, fun r g r0 r10 hg => n1 _ _ ?_⟩
  have hp := is_st (S := S) (p := p) hg
  have hat : put S p (stMO g) b = some (.lst (ns.map D.int)) := by rw [put_ne (Ne.symm hpb)]; exact hat
  generalize put S p (stMO g) = S at hp hat
  obtain ⟨place, rfl⟩ : ∃ w : Nat, r = (w : Int) := ⟨r.toNat, (Int.toNat_of_nonneg r0).symm⟩
  have hpl : place < ns.length := by omega
  refine seq_k fun q1 n1 r1 _ _ x1 => ?_
  simp only [wSet, wBin, wCall, wCons, wNil, wVar, wC, getV, setV, some!, oPow, oI, e1006]
  refine ⟨by unfold CPow; decide, p, _, rfl, hp, by decide, fun r g r0 r10 hg => ?_⟩
  simp only [oAdd]
  refine n1 _ _ ?_
  have hp := is_st (S := S) (p := p) hg
  have hat : put S p (stMO g) b = some (.lst (ns.map D.int)) := by rw [put_ne (Ne.symm hpb)]; exact hat
  generalize put S p (stMO g) = S at hp hat
  have hfar : 31 ≤ 31 + r := by omega
  generalize 31 + r = far at hfar
  refine seq_k fun q1 n1 r1 _ _ x1 => ?_
  simp only [wSetI, wBin, wTup, wLst, wUn, wCall, wCons, wNil, wVar, wC, getV, some!, oNeg, oPow, oI, e1050]
  refine ⟨by show 1 ≤ sizeLine; decide, by show 1 ≤ sizeLine; decide, by unfold CPow; decide, by show 10 ≤ sizeLine; decide, p, _, rfl, hp, by decide, fun r g r0 r10 hg => ?_⟩
  have hp := is_st (S := S) (p := p) hg
  have hat : put S p (stMO g) b = some (.lst (ns.map D.int)) := by rw [put_ne (Ne.symm hpb)]; exact hat
  generalize put S p (stMO g) = S at hp hat
  obtain ⟨y, ey, hy, hk⟩ := bad10 (far := far) (big := 100000000000000000000000000000000000000000000000000) ⟨r0, r10⟩ hfar (by decide)
  have hix : ∀ xs : List D, xs.length = ns.length → ixN xs.length (place : Int) = some place := fun xs hx => by
    unfold ixN
    rw [if_pos (by omega), if_pos (by omega), Int.toNat_natCast]
  simp only [oIx, seqA, some!, ey, setIx, hat, hix _ (List.length_map ..)]
  refine n1 _ _ ?_
  have B := Bad.make hok hpl hy hk
  have hp := st_chg (m := .lst ((ns.map D.int).set place y)) hp hpb
  have hat : put S b (.lst ((ns.map D.int).set place y)) b = some (.lst ((ns.map D.int).set place y)) := put_same
  generalize put S b (.lst ((ns.map D.int).set place y)) = S at hp hat
  generalize (ns.map D.int).set place y = xs at B hat
  refine seq_k fun q1 n1 r1 _ _ x1 => ?_
  -- the end
  have rest : ∀ xs S, Bad ns.length place xs → IsSt S p → S b = some (.lst xs) → q1.nx [some (.ref p), some (.lst (ns.map D.int)), some (.int way), none, some (.ref b), some (.int (place : Nat)), some (.int far), none] S := fun xs S B hp hat => by
    refine n1 _ _ ?_
    refine seq_k fun q1 n1 r1 _ _ x1 => ?_
    simp only [wIf, wTest, wBin, wVar, wC, getV, some!, oEq, shD_int, eqD_int, true_and, decide_eq_true_eq]
    split
    · simp only [wRet, wTup, wCB, wCons, wNil, wVar, getV, some!, oTuple, one, seqA_at hat, r1]
      exact ⟨z2, h _ place (B.tup (by omega)) S hp⟩
    · refine n1 _ _ ?_
      simp only [wRet, wTup, wFrz, wCons, wNil, wVar, getV, some!, frzD, hat]
      exact ⟨z2, h _ place (B.lst (by omega)) _ (st_del hp hpb)⟩
  have ol := fun Q => oLen_of (S := S) (d := .ref b) (Q := Q) (seqA_at hat)
  simp only [wIf, wAnd, wTest, wBin, wCB, wCons, wNil, wVar, wC, getV, some!, oEq, shD_int, eqD_int, true_and, decide_eq_true_eq, oAdd]
  split
  · refine ol _ ?_
    simp only [oLt, oI0, decide_eq_true_eq]
    split
    · rename_i hl
      simp only [wSetI, wBin, wUn, wCall, wCons, wNil, wVar, wC, getV, some!, oNeg]
      refine ⟨p, _, rfl, hp, by decide, fun r g r0 r50 hg => ?_⟩
      have hp := is_st (S := S) (p := p) hg
      have hat : put S p (stMO g) b = some (.lst xs) := by rw [put_ne (Ne.symm hpb)]; exact hat
      generalize put S p (stMO g) = S at hp hat
      have hix2 : ixN xs.length ((place : Int) + 1) = some (place + 1) := by
        unfold ixN
        rw [if_pos (by omega), if_pos hl]
        congr 1
      simp only [oSub, oI0, oAdd, setIx, hat, hix2, some!]
      exact rest _ _ B.more (st_chg hp hpb) put_same
    · simp only [wNext]
      exact rest _ _ B hp hat
  · simp only [wNext]
    exact rest _ _ B hp hat
end K19
set_option Elab.async false
set_option linter.all false
set_option maxRecDepth 100000
set_option maxHeartbeats 1000000
namespace K19
open PySem PySem.Spec PyProof.Rows L2 DL
theorem oNe_same {S : Sto} {d : D} {Q : Qd} (h : shD S d = true) (q : Q (.bl false) S) : oNe S d d Q := by
  refine ⟨h, h, ?_⟩
  rw [eqD_refl h]
  exact q
theorem len__law_refused (c : Cl) : ∀ ds S Q E, sp__law_refused c ds S Q E → ds.length = 3 := by
  rintro ds S Q E ⟨_, _, _, rfl, _⟩; rfl
theorem rd__law_refused (c : Cl) : ∀ ds S Q X1, sp__law_refused c ds S Q X1 → w__law_refused c (startD N__law_refused_ ds) S (endQ Q X1) := by
  rintro ds S Q X1 ⟨p, ns, n, rfl, hp, hok, hn, h⟩
  show w__law_refused c [some (.ref p), some (dL ns), some (.int n), none, none, none, none] S (endQ Q X1)
  unfold w__law_refused
  refine seq_k fun q1 n1 r1 _ _ x1 => ?_
  simp only [wAsgG, wCall, wCons, wNil, wVar, getV, some!]
  refine ⟨p, ns, rfl, hp, hok, fun d place ⟨hd1, hd2⟩ S hp => ?_⟩
  simp only [gT, gAll, gN, setV]
  refine ⟨rfl, n1 _ _ ?_⟩
  refine seq_k fun q1 n1 r1 _ _ x1 => ?_
  simp only [wSet, wCall, wCons, wNil, wVar, getV, setV, some!]
  refine ⟨p, rfl, hp, fun v g ⟨w1, w2, w3, w4⟩ hg => n1 _ _ ?_⟩
  have hp := is_st (S := S) (p := p) hg
  generalize put S p (stMO g) = S at hp
  refine seq_k fun q1 n1 r1 _ _ x1 => ?_
  simp only [wFor, wRg1, wC, asI]
  refine ⟨⟨by decide, by decide⟩, ?_⟩
  refine forI_invq (fun k e S' => S' = S ∧ ∃ x, e = [some (.ref p), some (dL ns), some (.int n), some d, some (.int (place : Nat)), some v, x]) ⟨rfl, _, rfl⟩ (fun _ _ _ _ => trivial) ?_ ?_
  · rintro k d2 e S' hi ⟨rfl, x, rfl⟩ q hq _ _ _ _
    obtain ⟨hlt, rfl⟩ := rngD_get hi
    rw [Int.zero_add]
    simp only [gN, setV]
    have row : ∀ (v : D) (Q : Qd) E, Kn S' v → Q (.tup [.str "row", .int (place : Nat)]) S' → sp__law_ask c [.int (k : Int), d, v] S' Q E := fun v Q E hv hq =>
      ⟨_, _, _, rfl, hd1 S', hv, fun p' hp' => by rw [hd2 S'] at hp'; cases hp'; exact hq, fun ns' hns => by rw [hd2 S'] at hns; cases hns⟩
    have hsh : shD S' (.tup [.str "row", .int (place : Nat)]) = true := sh_place (strOk_str _)
    refine seq_k fun q1 n1 r1 _ _ x1 => ?_
    simp only [wIf, wTest, wBin, wCall, wTup, wCons, wNil, wC, wVar, getV, some!]
    refine row _ _ _ ⟨_, rfl⟩ ⟨z2, oNe_same hsh ?_⟩
    simp only [Bool.false_eq_true, if_false, wNext]
    refine n1 _ _ ?_
    refine seq_k fun q1 n1 r1 _ _ x1 => ?_
    simp only [wIf, wTest, wBin, wCall, wTup, wCB, wCons, wNil, wC, wVar, getV, some!, oList, one, dL, seqA, seqL, seqM]
    obtain ⟨l1, l2, l3⟩ := w3 S'
    refine ⟨_, _, _, rfl, kn_row (i := false), w2 S', fun p' hp' => inl_inr (nums_needs (i := false) hok) hp', fun ns' hns => ⟨fun _ => ⟨⟨l1, l2, l3⟩, ?_⟩, fun n' hn' hin => by rw [w1] at hin; cases hin⟩⟩
    simp only [oRepr, one]
    refine ⟨l1, l2, l3, z2, oNe_same (sh_word (strOk_str _) (w4 S')) ?_⟩
    simp only [Bool.false_eq_true, if_false, wNext]
    refine n1 _ _ ?_
    simp only [wIf, wTest, wBin, wCall, wTup, wCons, wNil, wC, wVar, getV, some!]
    refine row _ _ _ (w2 S') ⟨z2, oNe_same hsh ?_⟩
    simp only [Bool.false_eq_true, if_false, wNext]
    exact hq _ _ ⟨rfl, _, rfl⟩
  · rintro e S' ⟨rfl, x, rfl⟩
    refine n1 _ _ ?_
    simp only [wRet, wC]
    exact h S' hp
theorem len_law (c : Cl) : ∀ ds S Q E, sp_law c ds S Q E → ds.length = 1 := by
  rintro ds S Q E ⟨_, rfl, _⟩; rfl
theorem rd_law (c : Cl) : ∀ ds S Q X1, sp_law c ds S Q X1 → w_law c (startD N_law_ ds) S (endQ Q X1) := by
  rintro ds S Q X1 ⟨cells, rfl, hl, h⟩
  show w_law c [some (.fro (cells.map D.int)), none, none, none, none, none] S (endQ Q X1)
  unfold w_law
  refine seq_k fun q1 n1 r1 _ _ x1 => ?_
  simp only [wSet, wCall, wCons, wNil, wVar, getV, setV, some!]
  refine ⟨cells, rfl, hl, fun p g hpn hg => n1 _ _ ?_⟩
  have hp := is_st (S := S) (p := p) hg
  generalize put S p (stMO g) = S at hp
  refine seq_k fun q1 n1 r1 _ _ x1 => ?_
  simp only [wSet, wLst, wCons, wNil, wC, setV]
  refine ⟨by show 1 ≤ sizeLine; decide, n1 _ _ ?_⟩
  refine seq_k fun q1 n1 r1 _ _ x1 => ?_
  simp only [wSet, wC, setV]
  refine n1 _ _ ?_
  refine seq_k fun q1 n1 r1 _ _ x1 => ?_
  simp only [wFor, wRg1, wC, asI]
  refine ⟨⟨by decide, by decide⟩, ?_⟩
  refine forI_invq (fun k e S' => IsSt S' p ∧ ∃ d0 ns n x y, NeedsOk ns ∧ (1 ≤ n ∧ n ≤ 8) ∧ e = [d0, some (.ref p), some (dL ns), some (.int n), x, y]) ⟨hp, _, [0], 1, none, none, ⟨by decide, by decide, by decide⟩, by decide, rfl⟩ (fun _ _ _ _ => trivial) ?_ ?_
  · rintro k d2 e S hi ⟨hp, d0, ns, n, x, y, hok, hn, rfl⟩ q hq hrt _ _ _
    obtain ⟨hlt, rfl⟩ := rngD_get hi
    simp only [gN, setV]
    refine seq_k fun q1 n1 r1 _ _ x1 => ?_
    simp only [wSet, wBin, wCall, wCons, wNil, wVar, wC, getV, setV, some!]
    refine ⟨p, 8, rfl, hp, by decide, fun r g r0 r8 hg => ?_⟩
    simp only [oAdd]
    refine n1 _ _ ?_
    have hp := is_st (S := S) (p := p) hg
    generalize put S p (stMO g) = S at hp
    have hn : 1 ≤ 1 + r ∧ 1 + r ≤ 8 := by omega
    generalize 1 + r = n at hn
    refine seq_k fun q1 n1 r1 _ _ x1 => ?_
    simp only [wSet, wCall, wCons, wNil, wVar, wC, getV, setV, some!]
    refine ⟨p, n, rfl, hp, hn, fun ms hms S hp => n1 _ _ ?_⟩
    refine seq_k fun q1 n1 r1 _ _ x1 => ?_
    simp only [wIf, wNot, wTest, wCall, wCons, wNil, wVar, getV, some!]
    refine ⟨p, ms, n, rfl, hp, hms, hn, fun S hp => ?_⟩
    simp only [Bool.not_true, Bool.false_eq_true, if_false, wNext]
    refine n1 _ _ ?_
    simp only [wIf, wTest, wBin, wVar, wC, getV, some!, oEq, shD_int, eqD_int, true_and, decide_eq_true_eq]
    split
    · simp only [wSet, wVar, getV, setV, some!]
      exact hq _ _ ⟨hp, _, ms, n, _, _, hms, hn, rfl⟩
    · exact hq _ _ ⟨hp, _, ns, n, _, _, hok, hn, rfl⟩
  · rintro e S ⟨hp, d0, ns, n, x, y, hok, hn, rfl⟩
    refine n1 _ _ ?_
    refine seq_k fun q1 n1 r1 _ _ x1 => ?_
    simp only [wIf, wOr, wNot, wTest, wCall, wBin, wLst, wCons, wNil, wVar, wC, getV, some!]
    refine ⟨by show 5 ≤ sizeLine; decide, p, [30, 0, 29, 1, 30], 3, rfl, hp, ⟨by decide, by decide, by decide⟩, by decide, fun S hp => ?_⟩
    simp only [Bool.not_true, Bool.false_eq_true, if_false, oAdd]
    refine ⟨by show 2 ≤ sizeLine; decide, p, [1 + n, 1], 2, rfl, hp, ⟨by simp, by simp, fun x hx => ?_⟩, by decide, fun S hp => ?_⟩
    · rcases List.mem_cons.mp hx with z | z
      · omega
      · rw [List.mem_singleton] at z; omega
    simp only [Bool.not_true, Bool.false_eq_true, if_false, wNext]
    refine n1 _ _ ?_
    refine seq_k fun q1 n1 r1 _ _ x1 => ?_
    simp only [wIf, wNot, wTest, wCall, wCons, wNil, wVar, getV, some!]
    refine ⟨p, ns, n, rfl, hp, hok, hn, fun S hp => ?_⟩
    simp only [Bool.not_true, Bool.false_eq_true, if_false, wNext]
    refine n1 _ _ ?_
    simp only [wRet, wCall, wCons, wNil, wVar, getV, some!]
    exact ⟨p, ns, n, rfl, hp, hok, hn, fun S hp => h S⟩
end K19
set_option Elab.async false
set_option linter.all false
set_option maxRecDepth 100000
set_option maxHeartbeats 4000000
namespace K19
open PySem PySem.Spec PyProof.Rows L2 DL
def topS (i : Nat) : Stmt := PySem.Challenge.pw_everyasked_k19_whole_lane_plans.main.body.getD i (.Pass ⟨0, 0, 0, 0⟩)
abbrev s_is_integer : Stmt := topS 7
abbrev s_is_from_to : Stmt := topS 8
abbrev s_is_row : Stmt := topS 9
abbrev s_check_number : Stmt := topS 10
abbrev s_check_length : Stmt := topS 11
abbrev s_checked_numbers : Stmt := topS 12
abbrev s_checked_needs : Stmt := topS 17
abbrev s_ticks_needed : Stmt := topS 18
abbrev s_fewest_ticks : Stmt := topS 19
abbrev s_lane_plan : Stmt := topS 20
abbrev s__law_begin : Stmt := topS 22
abbrev s__law_draw : Stmt := topS 23
abbrev s__law_is_int : Stmt := topS 24
abbrev s__law_error : Stmt := topS 25
abbrev s__law_wrong_lanes : Stmt := topS 26
abbrev s__law_turning : Stmt := topS 28
abbrev s__law_needs : Stmt := topS 27
abbrev s__law_ask : Stmt := topS 29
abbrev s__law_lot : Stmt := topS 30
abbrev s__law_done : Stmt := topS 31
abbrev s__law_right : Stmt := topS 32
abbrev s__law_wrong_needs : Stmt := topS 33
abbrev s__law_refused : Stmt := topS 34
abbrev s_law : Stmt := topS 35
theorem sc_is_integer : FnScope N_is_integer_ ["value"] (defScope s_is_integer) := ⟨rfl, rfl, rfl, by decide +kernel, rfl, by decide +kernel, by decide +kernel⟩
theorem sc_is_from_to : FnScope N_is_from_to_ ["value", "least", "most"] (defScope s_is_from_to) := ⟨rfl, rfl, rfl, by decide +kernel, rfl, by decide +kernel, by decide +kernel⟩
theorem sc_is_row : FnScope N_is_row_ ["value"] (defScope s_is_row) := ⟨rfl, rfl, rfl, by decide +kernel, rfl, by decide +kernel, by decide +kernel⟩
theorem sc_check_number : FnScope N_check_number_ ["value", "least", "most"] (defScope s_check_number) := ⟨rfl, rfl, rfl, by decide +kernel, rfl, by decide +kernel, by decide +kernel⟩
theorem sc_check_length : FnScope N_check_length_ ["value", "least", "most"] (defScope s_check_length) := ⟨rfl, rfl, rfl, by decide +kernel, rfl, by decide +kernel, by decide +kernel⟩
theorem sc_checked_numbers : FnScope N_checked_numbers_ ["value", "most_members", "least", "most"] (defScope s_checked_numbers) := ⟨rfl, rfl, rfl, by decide +kernel, rfl, by decide +kernel, by decide +kernel⟩
theorem sc_checked_needs : FnScope N_checked_needs_ ["needs", "lanes"] (defScope s_checked_needs) := ⟨rfl, rfl, rfl, by decide +kernel, rfl, by decide +kernel, by decide +kernel⟩
theorem sc_ticks_needed : FnScope N_ticks_needed_ ["row", "lanes"] (defScope s_ticks_needed) := ⟨rfl, rfl, rfl, by decide +kernel, rfl, by decide +kernel, by decide +kernel⟩
theorem sc_fewest_ticks : FnScope N_fewest_ticks_ ["needs", "lanes"] (defScope s_fewest_ticks) := ⟨rfl, rfl, rfl, by decide +kernel, rfl, by decide +kernel, by decide +kernel⟩
theorem sc_lane_plan : FnScope N_lane_plan_ ["needs", "lanes"] (defScope s_lane_plan) := ⟨rfl, rfl, rfl, by decide +kernel, rfl, by decide +kernel, by decide +kernel⟩
theorem sc__law_begin : FnScope N__law_begin_ ["script"] (defScope s__law_begin) := ⟨rfl, rfl, rfl, by decide +kernel, rfl, by decide +kernel, by decide +kernel⟩
theorem sc__law_draw : FnScope N__law_draw_ ["state", "many"] (defScope s__law_draw) := ⟨rfl, rfl, rfl, by decide +kernel, rfl, by decide +kernel, by decide +kernel⟩
theorem sc__law_is_int : FnScope N__law_is_int_ ["x"] (defScope s__law_is_int) := ⟨rfl, rfl, rfl, by decide +kernel, rfl, by decide +kernel, by decide +kernel⟩
theorem sc__law_error : FnScope N__law_error_ ["wrong"] (defScope s__law_error) := ⟨rfl, rfl, rfl, by decide +kernel, rfl, by decide +kernel, by decide +kernel⟩
theorem sc__law_wrong_lanes : FnScope N__law_wrong_lanes_ ["state"] (defScope s__law_wrong_lanes) := ⟨rfl, rfl, rfl, by decide +kernel, rfl, by decide +kernel, by decide +kernel⟩
theorem sc__law_turning : FnScope N__law_turning_ ["state", "lanes", "more"] (defScope s__law_turning) := ⟨rfl, rfl, rfl, by decide +kernel, rfl, by decide +kernel, by decide +kernel⟩
theorem sc__law_needs : FnScope N__law_needs_ ["state", "lanes"] (defScope s__law_needs) := ⟨rfl, rfl, rfl, by decide +kernel, rfl, by decide +kernel, by decide +kernel⟩
theorem sc__law_ask : FnScope N__law_ask_ ["door", "needs", "lanes"] (defScope s__law_ask) := ⟨rfl, rfl, rfl, by decide +kernel, rfl, by decide +kernel, by decide +kernel⟩
theorem sc__law_lot : FnScope N__law_lot_ ["value", "many"] (defScope s__law_lot) := ⟨rfl, rfl, rfl, by decide +kernel, rfl, by decide +kernel, by decide +kernel⟩
theorem sc__law_done : FnScope N__law_done_ ["needs", "lanes", "ticks", "value"] (defScope s__law_done) := ⟨rfl, rfl, rfl, by decide +kernel, rfl, by decide +kernel, by decide +kernel⟩
theorem sc__law_right : FnScope N__law_right_ ["state", "needs", "lanes"] (defScope s__law_right) := ⟨rfl, rfl, rfl, by decide +kernel, rfl, by decide +kernel, by decide +kernel⟩
theorem sc__law_wrong_needs : FnScope N__law_wrong_needs_ ["state", "needs"] (defScope s__law_wrong_needs) := ⟨rfl, rfl, rfl, by decide +kernel, rfl, by decide +kernel, by decide +kernel⟩
theorem sc__law_refused : FnScope N__law_refused_ ["state", "needs", "lanes"] (defScope s__law_refused) := ⟨rfl, rfl, rfl, by decide +kernel, rfl, by decide +kernel, by decide +kernel⟩
theorem sc_law : FnScope N_law_ ["script"] (defScope s_law) := ⟨rfl, rfl, rfl, by decide +kernel, rfl, by decide +kernel, by decide +kernel⟩
structure Txt (mg : Str → Option Value) (c : Cl) : Prop where
  b_abs : mg "abs" = none
  b_bool : mg "bool" = none
  b_enumerate : mg "enumerate" = none
  b_int : mg "int" = none
  b_isinstance : mg "isinstance" = none
  b_len : mg "len" = none
  b_list : mg "list" = none
  b_max : mg "max" = none
  b_min : mg "min" = none
  b_range : mg "range" = none
  b_repr : mg "repr" = none
  b_sorted : mg "sorted" = none
  b_sum : mg "sum" = none
  b_tuple : mg "tuple" = none
  d_is_integer : DefAt c.K mg "is_integer" "is_integer" s_is_integer ["value"]
  d_is_from_to : DefAt c.K mg "is_from_to" "is_from_to" s_is_from_to ["value", "least", "most"]
  d_is_row : DefAt c.K mg "is_row" "is_row" s_is_row ["value"]
  d_check_number : DefAt c.K mg "check_number" "check_number" s_check_number ["value", "least", "most"]
  d_check_length : DefAt c.K mg "check_length" "check_length" s_check_length ["value", "least", "most"]
  d_checked_numbers : DefAt c.K mg "checked_numbers" "checked_numbers" s_checked_numbers ["value", "most_members", "least", "most"]
  d_checked_needs : DefAt c.K mg "checked_needs" "checked_needs" s_checked_needs ["needs", "lanes"]
  d_ticks_needed : DefAt c.K mg "ticks_needed" "ticks_needed" s_ticks_needed ["row", "lanes"]
  d_fewest_ticks : DefAt c.K mg "fewest_ticks" "fewest_ticks" s_fewest_ticks ["needs", "lanes"]
  d_lane_plan : DefAt c.K mg "lane_plan" "lane_plan" s_lane_plan ["needs", "lanes"]
  d__law_begin : DefAt c.K mg "_law_begin" "_law_begin" s__law_begin ["script"]
  d__law_draw : DefAt c.K mg "_law_draw" "_law_draw" s__law_draw ["state", "many"]
  d__law_is_int : DefAt c.K mg "_law_is_int" "_law_is_int" s__law_is_int ["x"]
  d__law_error : DefAt c.K mg "_law_error" "_law_error" s__law_error ["wrong"]
  d__law_wrong_lanes : DefAt c.K mg "_law_wrong_lanes" "_law_wrong_lanes" s__law_wrong_lanes ["state"]
  d__law_turning : DefAt c.K mg "_law_turning" "_law_turning" s__law_turning ["state", "lanes", "more"]
  d__law_needs : DefAt c.K mg "_law_needs" "_law_needs" s__law_needs ["state", "lanes"]
  d__law_ask : DefAt c.K mg "_law_ask" "_law_ask" s__law_ask ["door", "needs", "lanes"]
  d__law_lot : DefAt c.K mg "_law_lot" "_law_lot" s__law_lot ["value", "many"]
  d__law_done : DefAt c.K mg "_law_done" "_law_done" s__law_done ["needs", "lanes", "ticks", "value"]
  d__law_right : DefAt c.K mg "_law_right" "_law_right" s__law_right ["state", "needs", "lanes"]
  d__law_wrong_needs : DefAt c.K mg "_law_wrong_needs" "_law_wrong_needs" s__law_wrong_needs ["state", "needs"]
  d__law_refused : DefAt c.K mg "_law_refused" "_law_refused" s__law_refused ["state", "needs", "lanes"]
  d_law : DefAt c.K mg "law" "law" s_law ["script"]
  dk_fewest_ticks_0_lanes_needs : DefAtK c.K mg "fewest_ticks" "fewest_ticks" s_fewest_ticks ["needs", "lanes"] ["lanes", "needs"] 0 2 [1, 0]
  dk_lane_plan_0_lanes_needs : DefAtK c.K mg "lane_plan" "lane_plan" s_lane_plan ["needs", "lanes"] ["lanes", "needs"] 0 2 [1, 0]
  c_MOST_JOBS : ∃ u, mg "MOST_JOBS" = some u ∧ RelV (.int (12)) u
  c_MOST_LANES : ∃ u, mg "MOST_LANES" = some u ∧ RelV (.int (8)) u
  c_MOST_NEED : ∃ u, mg "MOST_NEED" = some u ∧ RelV (.int (30)) u
  g_InvalidLot : mg "InvalidLot" = some (.ref c.InvalidLot)
  g_InvalidNumber : mg "InvalidNumber" = some (.ref c.InvalidNumber)
  g_InvalidRow : mg "InvalidRow" = some (.ref c.InvalidRow)
  g_ServeError : mg "ServeError" = some (.ref c.ServeError)
  g_Undefined : mg "Undefined" = some (.ref c.Undefined)
  x_InvalidNumber : ExAt c.K mg "InvalidNumber" c.InvalidNumber "number" "number" "InvalidNumber.__init__" (inClass (topS 2) 0)
  x_InvalidRow : ExAt c.K mg "InvalidRow" c.InvalidRow "place" "place" "InvalidRow.__init__" (inClass (topS 3) 0)
section
variable {P : Program} {w : World} {mg : Str → Option Value} {base : Heap} {c : Cl}
theorem scx_InvalidNumber : FnScope ["self", "number"] ["self", "number"] (defScope (inClass (topS 2) 0)) := ⟨rfl, rfl, rfl, by decide +kernel, rfl, by decide +kernel, by decide +kernel⟩
theorem xc_InvalidNumber (T : Txt mg c) : ExC P w c.K mg base "InvalidNumber" c.InvalidNumber "number" :=
  ExC.mk T.x_InvalidNumber scx_InvalidNumber fun fI cdv A outer s H E => pss_one (ps_ost (pv 0) (pv 1) rfl)
theorem scx_InvalidRow : FnScope ["self", "place"] ["self", "place"] (defScope (inClass (topS 3) 0)) := ⟨rfl, rfl, rfl, by decide +kernel, rfl, by decide +kernel, by decide +kernel⟩
theorem xc_InvalidRow (T : Txt mg c) : ExC P w c.K mg base "InvalidRow" c.InvalidRow "place" :=
  ExC.mk T.x_InvalidRow scx_InvalidRow fun fI cdv A outer s H E => pss_one (ps_ost (pv 0) (pv 1) rfl)
theorem ok_is_integer (T : Txt mg c) : FnC P w c.K mg base 1 "is_integer" ["value"] (sp_is_integer c) :=
  FnC.mk T.d_is_integer sc_is_integer (by decide) (len_is_integer c) (fun f cdv A outer s H E hr => (pss_oneD (pds_ret (pd_and (pd_isi (T := "int") (pd_var 0) (pe_bltn rfl T.b_int (by decide +kernel) rfl) T.b_isinstance) (pd_one (pd_not (pd_isi (T := "bool") (pd_var 0) (pe_bltn rfl T.b_bool (by decide +kernel) rfl) T.b_isinstance))))))) (rd_is_integer c)
theorem ok_is_from_to (T : Txt mg c) : FnC P w c.K mg base 2 "is_from_to" ["value", "least", "most"] (sp_is_from_to c) :=
  FnC.mk T.d_is_from_to sc_is_from_to (by decide) (len_is_from_to c) (fun f cdv A outer s H E hr => (pss_oneD (pds_ret (pd_and (pd_fn (ok_is_integer T) (hr.mono (by decide)) (pda_cons (pd_var 0) pda_nil)) (pd_one (pd_chain opd_le opd_le (pd_var 1) (pd_var 0) (pd_var 2))))))) (rd_is_from_to c)
theorem ok_is_row (T : Txt mg c) : FnC P w c.K mg base 1 "is_row" ["value"] (sp_is_row c) :=
  FnC.mk T.d_is_row sc_is_row (by decide) (len_is_row c) (fun f cdv A outer s H E hr => (pss_oneD (pds_ret (pd_isiT (Ts := ["tuple", "list"]) (pd_var 0) (pa_tys (T := "tuple") (pe_bltn rfl T.b_tuple (by decide +kernel) rfl) (pa_tys (T := "list") (pe_bltn rfl T.b_list (by decide +kernel) rfl) pa_tys0)) T.b_isinstance)))) (rd_is_row c)
theorem ok_check_number (T : Txt mg c) : FnC P w c.K mg base 3 "check_number" ["value", "least", "most"] (sp_check_number c) :=
  FnC.mk T.d_check_number sc_check_number (by decide) (len_check_number c) (fun f cdv A outer s H E hr => (pss_oneD (pds_if (pdt_not (pdt_val (pd_fn (ok_is_from_to T) (hr.mono (by decide)) (pda_cons (pd_var 0) (pda_cons (pd_var 1) (pda_cons (pd_var 2) pda_nil)))))) (pss_oneD (pds_raise rfl (pdx_mk (xc_InvalidNumber T) (hr.mono (by decide)) (pd_var 0)))) pss_nilD))) (rd_check_number c)
theorem ok_check_length (T : Txt mg c) : FnC P w c.K mg base 3 "check_length" ["value", "least", "most"] (sp_check_length c) :=
  FnC.mk T.d_check_length sc_check_length (by decide) (len_check_length c) (fun f cdv A outer s H E hr => (pss_oneD (pds_if (PDw.pt (pdw_or (pdt_not (pdt_val (pd_fn (ok_is_row T) (hr.mono (by decide)) (pda_cons (pd_var 0) pda_nil)))) (pdw_or1 (pdt_not (pdt_chain opd_le opd_le (pd_var 1) (pd_callB cd_len T.b_len (by decide +kernel) (pda_cons (pd_var 0) pda_nil)) (pd_var 2)))))) (pss_oneD (pds_raise rfl (pdx_mk (xc_InvalidRow T) (hr.mono (by decide)) pd_int))) pss_nilD))) (rd_check_length c)
theorem ok_checked_numbers (T : Txt mg c) : FnC P w c.K mg base 4 "checked_numbers" ["value", "most_members", "least", "most"] (sp_checked_numbers c) :=
  FnC.mk T.d_checked_numbers sc_checked_numbers (by decide) (len_checked_numbers c) (fun f cdv A outer s H E hr => (pss_consD (pds_drop (pd_fn (ok_check_length T) (hr.mono (by decide)) (pda_cons (pd_var 0) (pda_cons pd_int (pda_cons (pd_var 1) pda_nil)))))
  (pss_consD (pds_for (vs := (List.range 6)) rfl (passes_of rfl) (pdi_enum T.b_enumerate (pd_var 0)) (pdg_tup rfl (pdgs_cons (pdg_name (i := 4) sc_checked_numbers.nd rfl (by first | exact Or.inl rfl | exact Or.inr rfl) (by decide)) (pdgs_cons (pdg_name (i := 5) sc_checked_numbers.nd rfl (by first | exact Or.inl rfl | exact Or.inr rfl) (by decide)) pdgs_nil))) (pss_oneD (pds_if (pdt_not (pdt_val (pd_fn (ok_is_from_to T) (hr.mono (by decide)) (pda_cons (pd_var 5) (pda_cons (pd_var 2) (pda_cons (pd_var 3) pda_nil)))))) (pss_oneD (pds_raise rfl (pdx_mk (xc_InvalidRow T) (hr.mono (by decide)) (pd_var 4)))) pss_nilD)))
  (pss_oneD (pds_ret (pd_callTy cd_tuple T.b_tuple (by decide +kernel) (pda_cons (pd_var 0) pda_nil))))))) (rd_checked_numbers c)
theorem ok_checked_needs (T : Txt mg c) : FnC P w c.K mg base 5 "checked_needs" ["needs", "lanes"] (sp_checked_needs c) :=
  FnC.mk T.d_checked_needs sc_checked_needs (by decide) (len_checked_needs c) (fun f cdv A outer s H E hr => (pss_consD (pds_set (i := 2) sc_checked_needs.nd rfl (by first | exact Or.inl rfl | exact Or.inr rfl) (pd_fn (ok_checked_numbers T) (hr.mono (by decide)) (pda_cons (pd_var 0) (pda_cons (pd_glob T.c_MOST_JOBS) (pda_cons pd_int (pda_cons (pd_glob T.c_MOST_NEED) pda_nil))))))
  (pss_consD (pds_drop (pd_fn (ok_check_number T) (hr.mono (by decide)) (pda_cons (pd_var 1) (pda_cons pd_int (pda_cons (pd_glob T.c_MOST_LANES) pda_nil)))))
  (pss_oneD (pds_ret (pd_var 2)))))) (rd_checked_needs c)
theorem ok_ticks_needed (T : Txt mg c) : FnC P w c.K mg base 1 "ticks_needed" ["row", "lanes"] (sp_ticks_needed c) :=
  FnC.mk T.d_ticks_needed sc_ticks_needed (by decide) (len_ticks_needed c) (fun f cdv A outer s H E hr => (pss_oneD (pds_ret (pd_callB (cd_max2 rfl) T.b_max (by decide +kernel) (pda_cons (pd_callB (cd_maxA rfl hr.units) T.b_max (by decide +kernel) (pda_cons (pd_var 0) pda_nil)) (pda_cons (pd_op opd_div (pd_op opd_sub (pd_op opd_add (pd_callB (cd_sumA rfl) T.b_sum (by decide +kernel) (pda_cons (pd_var 0) pda_nil)) (pd_var 1)) pd_int) (pd_var 1)) pda_nil)))))) (rd_ticks_needed c)
theorem okK_fewest_ticks_0_lanes_needs (T : Txt mg c) : FnCK P w c.K mg base 6 "fewest_ticks" ["needs", "lanes"] ["lanes", "needs"] 0 2 [1, 0] (sp_fewest_ticks c) :=
  FnCK.mk T.dk_fewest_ticks_0_lanes_needs sc_fewest_ticks (by decide) (len_fewest_ticks c) (fun f cdv A outer s H E hr => (pss_oneD (pds_ret (pd_fn (ok_ticks_needed T) (hr.mono (by decide)) (pda_cons (pd_fn (ok_checked_needs T) (hr.mono (by decide)) (pda_cons (pd_var 0) (pda_cons (pd_var 1) pda_nil))) (pda_cons (pd_var 1) pda_nil)))))) (rd_fewest_ticks c)
theorem ok_fewest_ticks (T : Txt mg c) : FnC P w c.K mg base 6 "fewest_ticks" ["needs", "lanes"] (sp_fewest_ticks c) :=
  FnC.mk T.d_fewest_ticks sc_fewest_ticks (by decide) (len_fewest_ticks c) (fun f cdv A outer s H E hr => (pss_oneD (pds_ret (pd_fn (ok_ticks_needed T) (hr.mono (by decide)) (pda_cons (pd_fn (ok_checked_needs T) (hr.mono (by decide)) (pda_cons (pd_var 0) (pda_cons (pd_var 1) pda_nil))) (pda_cons (pd_var 1) pda_nil)))))) (rd_fewest_ticks c)
theorem okK_lane_plan_0_lanes_needs (T : Txt mg c) : FnCK P w c.K mg base 6 "lane_plan" ["needs", "lanes"] ["lanes", "needs"] 0 2 [1, 0] (sp_lane_plan c) :=
  FnCK.mk T.dk_lane_plan_0_lanes_needs sc_lane_plan (by decide) (len_lane_plan c) (fun f cdv A outer s H E hr => (pss_consD (pds_set (i := 2) sc_lane_plan.nd rfl (by first | exact Or.inl rfl | exact Or.inr rfl) (pd_fn (ok_checked_needs T) (hr.mono (by decide)) (pda_cons (pd_var 0) (pda_cons (pd_var 1) pda_nil))))
  (pss_consD (pds_set (i := 3) sc_lane_plan.nd rfl (by first | exact Or.inl rfl | exact Or.inr rfl) (pd_fn (ok_ticks_needed T) (hr.mono (by decide)) (pda_cons (pd_var 2) (pda_cons (pd_var 1) pda_nil))))
  (pss_consD (by first | exact pds_setLcM (i := 4) rfl sc_lane_plan.nd rfl rfl (sw_true rfl rfl rfl (by decide +kernel)) (own := [("_", 8)]) (pdi_rg1 T.b_range (pd_var 3)) (blkOk_by (N := N_lane_plan_) (sc := defScope s_lane_plan) (by decide +kernel)) (fun _ _ _ _ _ => (pdg_name (i := 8) sc_lane_plan.nd rfl (by first | exact Or.inl rfl | exact Or.inr rfl) (by decide))) (fun _ _ _ _ _ => pdts_nil) (fun _ _ _ _ _ => (pd_lstM pda_nil)) | exact pds_set (i := 4) sc_lane_plan.nd rfl (by first | exact Or.inl rfl | exact Or.inr rfl) (pd_lcM (own := [("_", 8)]) rfl sc_lane_plan.nd (pdi_rg1 T.b_range (pd_var 3)) (blkOk_by (N := N_lane_plan_) (sc := defScope s_lane_plan) (by decide +kernel)) (fun _ _ _ _ _ => (pdg_name (i := 8) sc_lane_plan.nd rfl (by first | exact Or.inl rfl | exact Or.inr rfl) (by decide))) (fun _ _ _ _ _ => pdts_nil) (fun _ _ _ _ _ => (pd_lstM pda_nil))))
  (pss_consD (pds_set (i := 5) sc_lane_plan.nd rfl (by first | exact Or.inl rfl | exact Or.inr rfl) pd_int)
  (pss_consD (pds_for (vs := (List.range 10)) rfl (passes_of rfl) (pdi_enum T.b_enumerate (pd_var 2)) (pdg_tup rfl (pdgs_cons (pdg_name (i := 6) sc_lane_plan.nd rfl (by first | exact Or.inl rfl | exact Or.inr rfl) (by decide)) (pdgs_cons (pdg_name (i := 7) sc_lane_plan.nd rfl (by first | exact Or.inl rfl | exact Or.inr rfl) (by decide)) pdgs_nil))) (pss_oneD (pds_for (vs := (List.range 10)) rfl (passes_of rfl) (pdi_rg1 T.b_range (pd_var 7)) (pdg_name (i := 8) sc_lane_plan.nd rfl (by first | exact Or.inl rfl | exact Or.inr rfl) (by decide)) (pss_consD (pds_drop (pd_lm PySem.F.slot_list_append PySem.F.type_list_append md_append (pd_ix ixd (pd_var 4) (pd_op opd_mod (pd_var 5) (pd_var 3))) (pda_cons (pd_var 6) pda_nil)))
  (pss_oneD (pds_aug (i := 5) sc_lane_plan.nd rfl (by first | exact Or.inl rfl | exact Or.inr rfl) pd_int iopd_add))))))
  (pss_oneD (pds_ret (pd_callTy cd_tuple T.b_tuple (by decide +kernel) (pda_cons (pd_lc (own := [("jobs", 9)]) rfl sc_lane_plan.nd (pdi_seq (pd_var 4)) (blkOk_by (N := N_lane_plan_) (sc := defScope s_lane_plan) (by decide +kernel)) (fun _ _ _ _ _ => (pdg_name (i := 9) sc_lane_plan.nd rfl (by first | exact Or.inl rfl | exact Or.inr rfl) (by decide))) (fun _ _ _ _ _ => pdts_nil) (fun _ _ _ _ _ => (pd_callTy cd_tuple T.b_tuple (by decide +kernel) (pda_cons (pd_callB cd_sorted T.b_sorted (by decide +kernel) (pda_cons (pd_var 9) pda_nil)) pda_nil)))) pda_nil)))))))))) (rd_lane_plan c)
theorem ok_lane_plan (T : Txt mg c) : FnC P w c.K mg base 6 "lane_plan" ["needs", "lanes"] (sp_lane_plan c) :=
  FnC.mk T.d_lane_plan sc_lane_plan (by decide) (len_lane_plan c) (fun f cdv A outer s H E hr => (pss_consD (pds_set (i := 2) sc_lane_plan.nd rfl (by first | exact Or.inl rfl | exact Or.inr rfl) (pd_fn (ok_checked_needs T) (hr.mono (by decide)) (pda_cons (pd_var 0) (pda_cons (pd_var 1) pda_nil))))
  (pss_consD (pds_set (i := 3) sc_lane_plan.nd rfl (by first | exact Or.inl rfl | exact Or.inr rfl) (pd_fn (ok_ticks_needed T) (hr.mono (by decide)) (pda_cons (pd_var 2) (pda_cons (pd_var 1) pda_nil))))
  (pss_consD (by first | exact pds_setLcM (i := 4) rfl sc_lane_plan.nd rfl rfl (sw_true rfl rfl rfl (by decide +kernel)) (own := [("_", 8)]) (pdi_rg1 T.b_range (pd_var 3)) (blkOk_by (N := N_lane_plan_) (sc := defScope s_lane_plan) (by decide +kernel)) (fun _ _ _ _ _ => (pdg_name (i := 8) sc_lane_plan.nd rfl (by first | exact Or.inl rfl | exact Or.inr rfl) (by decide))) (fun _ _ _ _ _ => pdts_nil) (fun _ _ _ _ _ => (pd_lstM pda_nil)) | exact pds_set (i := 4) sc_lane_plan.nd rfl (by first | exact Or.inl rfl | exact Or.inr rfl) (pd_lcM (own := [("_", 8)]) rfl sc_lane_plan.nd (pdi_rg1 T.b_range (pd_var 3)) (blkOk_by (N := N_lane_plan_) (sc := defScope s_lane_plan) (by decide +kernel)) (fun _ _ _ _ _ => (pdg_name (i := 8) sc_lane_plan.nd rfl (by first | exact Or.inl rfl | exact Or.inr rfl) (by decide))) (fun _ _ _ _ _ => pdts_nil) (fun _ _ _ _ _ => (pd_lstM pda_nil))))
  (pss_consD (pds_set (i := 5) sc_lane_plan.nd rfl (by first | exact Or.inl rfl | exact Or.inr rfl) pd_int)
  (pss_consD (pds_for (vs := (List.range 10)) rfl (passes_of rfl) (pdi_enum T.b_enumerate (pd_var 2)) (pdg_tup rfl (pdgs_cons (pdg_name (i := 6) sc_lane_plan.nd rfl (by first | exact Or.inl rfl | exact Or.inr rfl) (by decide)) (pdgs_cons (pdg_name (i := 7) sc_lane_plan.nd rfl (by first | exact Or.inl rfl | exact Or.inr rfl) (by decide)) pdgs_nil))) (pss_oneD (pds_for (vs := (List.range 10)) rfl (passes_of rfl) (pdi_rg1 T.b_range (pd_var 7)) (pdg_name (i := 8) sc_lane_plan.nd rfl (by first | exact Or.inl rfl | exact Or.inr rfl) (by decide)) (pss_consD (pds_drop (pd_lm PySem.F.slot_list_append PySem.F.type_list_append md_append (pd_ix ixd (pd_var 4) (pd_op opd_mod (pd_var 5) (pd_var 3))) (pda_cons (pd_var 6) pda_nil)))
  (pss_oneD (pds_aug (i := 5) sc_lane_plan.nd rfl (by first | exact Or.inl rfl | exact Or.inr rfl) pd_int iopd_add))))))
  (pss_oneD (pds_ret (pd_callTy cd_tuple T.b_tuple (by decide +kernel) (pda_cons (pd_lc (own := [("jobs", 9)]) rfl sc_lane_plan.nd (pdi_seq (pd_var 4)) (blkOk_by (N := N_lane_plan_) (sc := defScope s_lane_plan) (by decide +kernel)) (fun _ _ _ _ _ => (pdg_name (i := 9) sc_lane_plan.nd rfl (by first | exact Or.inl rfl | exact Or.inr rfl) (by decide))) (fun _ _ _ _ _ => pdts_nil) (fun _ _ _ _ _ => (pd_callTy cd_tuple T.b_tuple (by decide +kernel) (pda_cons (pd_callB cd_sorted T.b_sorted (by decide +kernel) (pda_cons (pd_var 9) pda_nil)) pda_nil)))) pda_nil)))))))))) (rd_lane_plan c)
theorem ok__law_begin (T : Txt mg c) : FnC P w c.K mg base 1 "_law_begin" ["script"] (sp__law_begin c) :=
  FnC.mk T.d__law_begin sc__law_begin (by decide) (len__law_begin c) (fun f cdv A outer s H E hr => (pss_consD (pds_set (i := 1) sc__law_begin.nd rfl (by first | exact Or.inl rfl | exact Or.inr rfl) pd_int)
  (pss_consD (pds_for (vs := (List.range 3)) rfl (passes_of rfl) (pdi_seq (pd_slice (pd_var 0) pdo_none (pdo_some pd_int))) (pdg_name (i := 2) sc__law_begin.nd rfl (by first | exact Or.inl rfl | exact Or.inr rfl) (by decide)) (pss_oneD (pds_set (i := 1) sc__law_begin.nd rfl (by first | exact Or.inl rfl | exact Or.inr rfl) (pd_op opd_mod (pd_callTy cd_int T.b_int (by decide +kernel) (pda_cons (pd_op opd_add (pd_op opd_add (pd_op opd_mul (pd_var 1) (pd_var 1)) (pd_callTy cd_int T.b_int (by decide +kernel) (pda_cons (pd_var 2) pda_nil))) pd_int) pda_nil)) pd_int))))
  (pss_oneD (pds_ret (pd_lstM (pda_cons (pd_lc (own := [("cell", 2)]) rfl sc__law_begin.nd (pdi_seq (pd_slice (pd_var 0) pdo_none (pdo_some pd_int))) (blkOk_by (N := N__law_begin_) (sc := defScope s__law_begin) (by decide +kernel)) (fun _ _ _ _ _ => (pdg_name (i := 2) sc__law_begin.nd rfl (by first | exact Or.inl rfl | exact Or.inr rfl) (by decide))) (fun _ _ _ _ _ => pdts_nil) (fun _ _ _ _ _ => (pd_callTy cd_int T.b_int (by decide +kernel) (pda_cons (pd_var 2) pda_nil)))) (pda_cons pd_int (pda_cons pd_int (pda_cons pd_int (pda_cons (pd_var 1) (pda_cons pd_int pda_nil)))))))))))) (rd__law_begin c)
theorem ok__law_draw (T : Txt mg c) : FnC P w c.K mg base 1 "_law_draw" ["state", "many"] (sp__law_draw c) :=
  FnC.mk T.d__law_draw sc__law_draw (by decide) (len__law_draw c) (fun f cdv A outer s H E hr => (pss_consD (pds_if (PDw.pt (pdw_and (pdt_cmp (opd_eq hr.units) (pd_ix ixd (pd_var 0) pd_int) pd_int (nomark _)) (pdw_and1 (pdt_cmp opd_lt (pd_ix ixd (pd_var 0) pd_int) (pd_callB cd_len T.b_len (by decide +kernel) (pda_cons (pd_ix ixd (pd_var 0) pd_int) pda_nil)) (nomark _))))) (pss_consD (pds_set (i := 2) sc__law_draw.nd rfl (by first | exact Or.inl rfl | exact Or.inr rfl) (pd_ix ixd (pd_ix ixd (pd_var 0) pd_int) (pd_ix ixd (pd_var 0) pd_int)))
  (pss_consD (pds_augI (pd_var 0) pd_int pd_int iopd_add)
  (pss_oneD (pds_if (pdt_cmp opd_ge (pd_callB cd_abs T.b_abs (by decide +kernel) (pda_cons (pd_var 2) pda_nil)) (pd_op opd_pow pd_int pd_int) (nomark _)) (pss_consD (pds_setI (pd_var 0) pd_int (pd_callB cd_abs T.b_abs (by decide +kernel) (pda_cons (pd_var 2) pda_nil)))
  (pss_oneD (pds_setI (pd_var 0) pd_int pd_int))) (pss_oneD (pds_setI (pd_var 0) pd_int (pd_op opd_mod (pd_callTy cd_int T.b_int (by decide +kernel) (pda_cons (pd_op opd_add (pd_op opd_mul (pd_ix ixd (pd_var 0) pd_int) (pd_ix ixd (pd_var 0) pd_int)) (pd_var 2)) pda_nil)) pd_int))))))) pss_nilD)
  (pss_consD (pds_if (pdt_cmp opd_gt (pd_ix ixd (pd_var 0) pd_int) pd_int (nomark _)) (pss_consD (pds_set (i := 3) sc__law_draw.nd rfl (by first | exact Or.inl rfl | exact Or.inr rfl) (pd_op opd_mod (pd_callTy cd_int T.b_int (by decide +kernel) (pda_cons (pd_ix ixd (pd_var 0) pd_int) pda_nil)) (pd_var 1)))
  (pss_consD (pds_augI (pd_var 0) pd_int pd_int iopd_sub)
  (pss_consD (pds_setI (pd_var 0) pd_int (pd_op opd_div (pd_ix ixd (pd_var 0) pd_int) (pd_var 1)))
  (pss_consD (pds_if (pdt_cmp (opd_eq hr.units) (pd_ix ixd (pd_var 0) pd_int) pd_int (nomark _)) (pss_oneD (pds_setI (pd_var 0) pd_int pd_int)) pss_nilD)
  (pss_oneD (pds_ret (pd_var 3))))))) pss_nilD)
  (pss_consD (pds_augI (pd_var 0) pd_int pd_int iopd_add)
  (pss_consD (pds_setI (pd_var 0) pd_int (pd_op opd_mod (pd_callTy cd_int T.b_int (by decide +kernel) (pda_cons (pd_op opd_add (pd_op opd_add (pd_op opd_mul (pd_ix ixd (pd_var 0) pd_int) (pd_ix ixd (pd_var 0) pd_int)) pd_int) (pd_ix ixd (pd_var 0) pd_int)) pda_nil)) pd_int))
  (pss_consD (pds_setI (pd_var 0) pd_int (pd_op opd_mod (pd_callTy cd_int T.b_int (by decide +kernel) (pda_cons (pd_op opd_add (pd_op opd_mul (pd_ix ixd (pd_var 0) pd_int) (pd_ix ixd (pd_var 0) pd_int)) pd_int) pda_nil)) pd_int))
  (pss_oneD (pds_ret (pd_op opd_mod (pd_callTy cd_int T.b_int (by decide +kernel) (pda_cons (pd_op opd_div (pd_ix ixd (pd_var 0) pd_int) pd_int) pda_nil)) (pd_var 1)))))))))) (rd__law_draw c)
theorem okT__law_is_int (T : Txt mg c) : FnTC P w c.K mg base 1 "_law_is_int" ["x"] (fun _ _ _ => sp__law_is_int c) :=
  FnTC.mk T.d__law_is_int sc__law_is_int (by decide) (fun _ _ _ _ _ _ _ _ h => h) (fun _ _ _ => len__law_is_int c) (fun f cdv A outer s H E a dd C oe ca hr gd => by
    obtain ⟨hz, hf⟩ := ca
    exact (pss_oneD (pds_ret (pd_and (pd_isi (T := "int") (pd_var 0) (pe_bltn rfl T.b_int (by decide +kernel) rfl) T.b_isinstance) (pd_one (pd_not (pd_isi (T := "bool") (pd_var 0) (pe_bltn rfl T.b_bool (by decide +kernel) rfl) T.b_isinstance))))))) (ws := fun _ _ _ => w__law_is_int c) (fun _ _ _ => rd__law_is_int c)
theorem ok__law_is_int (T : Txt mg c) : FnC P w c.K mg base 1 "_law_is_int" ["x"] (sp__law_is_int c) :=
  FnC.mk T.d__law_is_int sc__law_is_int (by decide) (len__law_is_int c) (fun f cdv A outer s H E hr => (pss_oneD (pds_ret (pd_and (pd_isi (T := "int") (pd_var 0) (pe_bltn rfl T.b_int (by decide +kernel) rfl) T.b_isinstance) (pd_one (pd_not (pd_isi (T := "bool") (pd_var 0) (pe_bltn rfl T.b_bool (by decide +kernel) rfl) T.b_isinstance))))))) (rd__law_is_int c)
theorem okT__law_error (T : Txt mg c) : FnTC P w c.K mg base 2 "_law_error" ["wrong"] (sp__law_error c) :=
  FnTC.mk T.d__law_error sc__law_error (by decide) (fun _ _ _ _ _ _ _ _ h => h) (len__law_error c) (fun f cdv A outer s H E a dd C oe ca hr gd => by
    obtain ⟨hz, hf⟩ := ca
    exact (pss_consD (pds_set (i := 1) sc__law_error.nd rfl (by first | exact Or.inl rfl | exact Or.inr rfl) (pd_lst (pda_cons (pd_isE (T := c.InvalidRow) hz hf (pd_var 0) (pe_cls T.g_InvalidRow) T.b_isinstance) (pda_cons (pd_isE (T := c.InvalidNumber) hz hf (pd_var 0) (pe_cls T.g_InvalidNumber) T.b_isinstance) pda_nil))))
  (pss_consD (pds_set (i := 1) sc__law_error.nd rfl (by first | exact Or.inl rfl | exact Or.inr rfl) (pd_op opd_add (pd_var 1) (pd_lst (pda_cons (pd_isE (T := c.Undefined) hz hf (pd_var 0) (pe_cls T.g_Undefined) T.b_isinstance) (pda_cons (pd_isE (T := c.InvalidLot) hz hf (pd_var 0) (pe_cls T.g_InvalidLot) T.b_isinstance) pda_nil)))))
  (pss_consD (pds_if (PDw.pt (pdw_and (pdt_cmp (opd_eq hr.units) (pd_var 1) (pd_lst (pda_cons pd_bl (pda_cons pd_bl (pda_cons pd_bl (pda_cons pd_bl pda_nil))))) (nomark _)) (pdw_and1 (pdt_val (pd_fnT (X := cxOf (L2.CX P w) P w c.K mg base N__law_error_ "_law_error" (defScope s__law_error) f cdv A outer s H E) (pn := []) (okT__law_is_int T) (hr.mono (by decide)) gd ⟨hz, hf⟩ (pda_cons (pd_exf (f := "place") hz hf (pd_var 0)) pda_nil)))))) (pss_oneD (pds_ret (pd_tup (pda_cons pd_str (pda_cons (pd_exf (f := "place") hz hf (pd_var 0)) pda_nil))))) pss_nilD)
  (pss_consD (pds_if (pdt_cmp (opd_eq hr.units) (pd_var 1) (pd_lst (pda_cons pd_bl (pda_cons pd_bl (pda_cons pd_bl (pda_cons pd_bl pda_nil))))) (nomark _)) (pss_oneD (pds_ret (pd_tup (pda_cons pd_str (pda_cons (pd_callB (cd_repr gd hr.units) T.b_repr (by decide +kernel) (pda_cons (pd_exf (f := "number") hz hf (pd_var 0)) pda_nil)) pda_nil))))) pss_nilD)
  (pss_consD (pds_if (pdt_cmp (opd_eq hr.units) (pd_var 1) (pd_lst (pda_cons pd_bl (pda_cons pd_bl (pda_cons pd_bl (pda_cons pd_bl pda_nil))))) (nomark _)) (pss_oneD (pds_ret (pd_tup (pda_cons pd_str (pda_cons (pd_callB (cd_repr gd hr.units) T.b_repr (by decide +kernel) (pda_cons (pd_exf (f := "what") hz hf (pd_var 0)) pda_nil)) pda_nil))))) pss_nilD)
  (pss_oneD (pds_ret (pd_tup (pda_cons pd_str (pda_cons pd_int pda_nil))))))))))) (rd__law_error c)
theorem ok__law_wrong_lanes (T : Txt mg c) : FnC P w c.K mg base 2 "_law_wrong_lanes" ["state"] (sp__law_wrong_lanes c) :=
  FnC.mk T.d__law_wrong_lanes sc__law_wrong_lanes (by decide) (len__law_wrong_lanes c) (fun f cdv A outer s H E hr => (pss_consD (pds_set (i := 1) sc__law_wrong_lanes.nd rfl (by first | exact Or.inl rfl | exact Or.inr rfl) (pd_fn (ok__law_draw T) (hr.mono (by decide)) (pda_cons (pd_var 0) (pda_cons pd_int pda_nil))))
  (pss_consD (pds_if (pdt_cmp opd_lt (pd_var 1) pd_int (nomark _)) (pss_oneD (pds_ret (pd_ix ixd (pd_tup (pda_cons pd_non (pda_cons pd_bl (pda_cons pd_str (pda_cons (pd_tup (pda_cons pd_int pda_nil)) (pda_cons pd_int (pda_cons pd_int (pda_cons pd_bl pda_nil)))))))) (pd_var 1)))) pss_nilD)
  (pss_consD (pds_if (pdt_cmp (opd_eq hr.units) (pd_var 1) pd_int (nomark _)) (pss_oneD (pds_ret (pd_op opd_add pd_int (pd_fn (ok__law_draw T) (hr.mono (by decide)) (pda_cons (pd_var 0) (pda_cons (pd_op opd_pow pd_int pd_int) pda_nil)))))) pss_nilD)
  (pss_consD (pds_if (pdt_cmp (opd_eq hr.units) (pd_var 1) pd_int (nomark _)) (pss_oneD (pds_ret (pd_op opd_add (pd_op opd_pow pd_int pd_int) (pd_fn (ok__law_draw T) (hr.mono (by decide)) (pda_cons (pd_var 0) (pda_cons pd_int pda_nil)))))) pss_nilD)
  (pss_oneD (pds_ret (pd_op opd_sub (pd_un und_neg pd_int) (pd_fn (ok__law_draw T) (hr.mono (by decide)) (pda_cons (pd_var 0) (pda_cons pd_int pda_nil))))))))))) (rd__law_wrong_lanes c)
theorem ok__law_turning (T : Txt mg c) : FnC P w c.K mg base 2 "_law_turning" ["state", "lanes", "more"] (sp__law_turning c) :=
  FnC.mk T.d__law_turning sc__law_turning (by decide) (len__law_turning c) (fun f cdv A outer s H E hr => (pss_consD (pds_set (i := 3) sc__law_turning.nd rfl (by first | exact Or.inl rfl | exact Or.inr rfl) (pd_op opd_add pd_int (pd_fn (ok__law_draw T) (hr.mono (by decide)) (pda_cons (pd_var 0) (pda_cons pd_int pda_nil)))))
  (pss_consD (pds_set (i := 4) sc__law_turning.nd rfl (by first | exact Or.inl rfl | exact Or.inr rfl) (pd_op opd_add (pd_op opd_mul (pd_var 3) (pd_op opd_sub (pd_var 1) pd_int)) (pd_var 2)))
  (pss_consD (pds_set (i := 5) sc__law_turning.nd rfl (by first | exact Or.inl rfl | exact Or.inr rfl) (pd_lstM (pda_cons (pd_var 3) pda_nil)))
  (pss_consD (pds_for (vs := (List.range 10)) rfl (passes_of rfl) (pdi_rg1 T.b_range pd_int) (pdg_name (i := 6) sc__law_turning.nd rfl (by first | exact Or.inl rfl | exact Or.inr rfl) (by decide)) (pss_oneD (pds_if (pdt_cmp opd_gt (pd_var 4) pd_int (nomark _)) (pss_consD (pds_set (i := 7) sc__law_turning.nd rfl (by first | exact Or.inl rfl | exact Or.inr rfl) (pd_callB (cd_max2 rfl) T.b_max (by decide +kernel) (pda_cons pd_int (pda_cons (pd_op opd_sub (pd_var 4) (pd_op opd_mul (pd_var 3) (pd_op opd_sub pd_int (pd_var 6)))) pda_nil))))
  (pss_consD (pds_set (i := 8) sc__law_turning.nd rfl (by first | exact Or.inl rfl | exact Or.inr rfl) (pd_op opd_add (pd_var 7) (pd_fn (ok__law_draw T) (hr.mono (by decide)) (pda_cons (pd_var 0) (pda_cons (pd_op opd_add (pd_op opd_sub (pd_callB (cd_min2 rfl) T.b_min (by decide +kernel) (pda_cons (pd_var 4) (pda_cons (pd_var 3) pda_nil))) (pd_var 7)) pd_int) pda_nil)))))
  (pss_consD (pds_if (pdt_cmp opd_gt (pd_var 6) pd_int (nomark _)) (pss_oneD (pds_set (i := 8) sc__law_turning.nd rfl (by first | exact Or.inl rfl | exact Or.inr rfl) (pd_callB (cd_min2 rfl) T.b_min (by decide +kernel) (pda_cons (pd_var 4) (pda_cons (pd_var 3) pda_nil))))) pss_nilD)
  (pss_consD (pds_drop (pd_lm PySem.F.slot_list_append PySem.F.type_list_append md_append (pd_var 5) (pda_cons (pd_var 8) pda_nil)))
  (pss_oneD (pds_aug (i := 4) sc__law_turning.nd rfl (by first | exact Or.inl rfl | exact Or.inr rfl) (pd_var 8) iopd_sub)))))) pss_nilD)))
  (pss_consD (pds_set (i := 9) sc__law_turning.nd rfl (by first | exact Or.inl rfl | exact Or.inr rfl) (pd_fn (ok__law_draw T) (hr.mono (by decide)) (pda_cons (pd_var 0) (pda_cons (pd_callB cd_len T.b_len (by decide +kernel) (pda_cons (pd_var 5) pda_nil)) pda_nil))))
  (pss_oneD (pds_ret (pd_op opd_add (pd_slice (pd_var 5) (pdo_some (pd_var 9)) pdo_none) (pd_slice (pd_var 5) pdo_none (pdo_some (pd_var 9)))))))))))) (rd__law_turning c)
theorem ok__law_needs (T : Txt mg c) : FnC P w c.K mg base 3 "_law_needs" ["state", "lanes"] (sp__law_needs c) :=
  FnC.mk T.d__law_needs sc__law_needs (by decide) (len__law_needs c) (fun f cdv A outer s H E hr => (pss_consD (pds_set (i := 2) sc__law_needs.nd rfl (by first | exact Or.inl rfl | exact Or.inr rfl) (pd_op opd_add pd_int (pd_fn (ok__law_draw T) (hr.mono (by decide)) (pda_cons (pd_var 0) (pda_cons pd_int pda_nil)))))
  (pss_consD (pds_if (pdt_cmp (opd_eq hr.units) (pd_fn (ok__law_draw T) (hr.mono (by decide)) (pda_cons (pd_var 0) (pda_cons pd_int pda_nil))) pd_int (nomark _)) (pss_oneD (pds_set (i := 2) sc__law_needs.nd rfl (by first | exact Or.inl rfl | exact Or.inr rfl) (pd_op opd_add pd_int (pd_var 2)))) pss_nilD)
  (pss_consD (pds_set (i := 3) sc__law_needs.nd rfl (by first | exact Or.inl rfl | exact Or.inr rfl) (pd_fn (ok__law_draw T) (hr.mono (by decide)) (pda_cons (pd_var 0) (pda_cons pd_int pda_nil))))
  (pss_consD (pds_if (pdt_cmp (opd_eq hr.units) (pd_var 3) pd_int (nomark _)) (pss_oneD (pds_ret (pd_lc (own := [("k", 6)]) rfl sc__law_needs.nd (pdi_rg1 T.b_range (pd_var 2)) (blkOk_by (N := N__law_needs_) (sc := defScope s__law_needs) (by decide +kernel)) (fun _ _ _ _ _ => (pdg_name (i := 6) sc__law_needs.nd rfl (by first | exact Or.inl rfl | exact Or.inr rfl) (by decide))) (fun _ _ _ _ _ => pdts_nil) (fun _ _ _ _ _ => pd_int)))) pss_nilD)
  (pss_consD (pds_if (pdt_cmp (opd_eq hr.units) (pd_var 3) pd_int (nomark _)) (pss_consD (pds_set (i := 4) sc__law_needs.nd rfl (by first | exact Or.inl rfl | exact Or.inr rfl) (pd_fn (ok__law_draw T) (hr.mono (by decide)) (pda_cons (pd_var 0) (pda_cons pd_int pda_nil))))
  (pss_oneD (pds_ret (pd_lc (own := [("k", 6)]) rfl sc__law_needs.nd (pdi_rg1 T.b_range (pd_var 2)) (blkOk_by (N := N__law_needs_) (sc := defScope s__law_needs) (by decide +kernel)) (fun _ _ _ _ _ => (pdg_name (i := 6) sc__law_needs.nd rfl (by first | exact Or.inl rfl | exact Or.inr rfl) (by decide))) (fun _ _ _ _ _ => pdts_nil) (fun _ _ _ _ _ => (pd_var 4)))))) pss_nilD)
  (pss_consD (pds_if (pdt_cmp (opd_eq hr.units) (pd_var 3) pd_int (nomark _)) (pss_consD (by first | exact pds_setLcM (i := 5) rfl sc__law_needs.nd rfl rfl (sw_true rfl rfl rfl (by decide +kernel)) (own := [("k", 6)]) (pdi_rg1 T.b_range (pd_var 2)) (blkOk_by (N := N__law_needs_) (sc := defScope s__law_needs) (by decide +kernel)) (fun _ _ _ _ _ => (pdg_name (i := 6) sc__law_needs.nd rfl (by first | exact Or.inl rfl | exact Or.inr rfl) (by decide))) (fun _ _ _ _ _ => pdts_nil) (fun _ _ _ _ _ => (pd_fn (ok__law_draw T) (hr.mono (by decide)) (pda_cons (pd_var 0) (pda_cons pd_int pda_nil)))) | exact pds_set (i := 5) sc__law_needs.nd rfl (by first | exact Or.inl rfl | exact Or.inr rfl) (pd_lcM (own := [("k", 6)]) rfl sc__law_needs.nd (pdi_rg1 T.b_range (pd_var 2)) (blkOk_by (N := N__law_needs_) (sc := defScope s__law_needs) (by decide +kernel)) (fun _ _ _ _ _ => (pdg_name (i := 6) sc__law_needs.nd rfl (by first | exact Or.inl rfl | exact Or.inr rfl) (by decide))) (fun _ _ _ _ _ => pdts_nil) (fun _ _ _ _ _ => (pd_fn (ok__law_draw T) (hr.mono (by decide)) (pda_cons (pd_var 0) (pda_cons pd_int pda_nil))))))
  (pss_consD (pds_setI (pd_var 5) (pd_fn (ok__law_draw T) (hr.mono (by decide)) (pda_cons (pd_var 0) (pda_cons (pd_var 2) pda_nil))) (pd_op opd_add pd_int (pd_fn (ok__law_draw T) (hr.mono (by decide)) (pda_cons (pd_var 0) (pda_cons pd_int pda_nil)))))
  (pss_oneD (pds_ret (pd_frz (pd_var 5)))))) pss_nilD)
  (pss_consD (pds_if (pdt_cmp (opd_eq hr.units) (pd_var 3) pd_int (nomark _)) (pss_oneD (pds_ret (pd_lc (own := [("k", 6)]) rfl sc__law_needs.nd (pdi_rg1 T.b_range (pd_var 2)) (blkOk_by (N := N__law_needs_) (sc := defScope s__law_needs) (by decide +kernel)) (fun _ _ _ _ _ => (pdg_name (i := 6) sc__law_needs.nd rfl (by first | exact Or.inl rfl | exact Or.inr rfl) (by decide))) (fun _ _ _ _ _ => pdts_nil) (fun _ _ _ _ _ => (pd_fn (ok__law_draw T) (hr.mono (by decide)) (pda_cons (pd_var 0) (pda_cons (pd_op opd_add pd_int (pd_op opd_mul pd_int (pd_fn (ok__law_draw T) (hr.mono (by decide)) (pda_cons (pd_var 0) (pda_cons pd_int pda_nil))))) pda_nil))))))) pss_nilD)
  (pss_consD (pds_if (pdt_cmp opd_lt (pd_var 3) pd_int (nomark _)) (pss_oneD (pds_ret (pd_fn (ok__law_turning T) (hr.mono (by decide)) (pda_cons (pd_var 0) (pda_cons (pd_var 1) (pda_cons (pd_op opd_sub (pd_var 3) pd_int) pda_nil)))))) pss_nilD)
  (pss_oneD (pds_ret (pd_lc (own := [("k", 6)]) rfl sc__law_needs.nd (pdi_rg1 T.b_range (pd_var 2)) (blkOk_by (N := N__law_needs_) (sc := defScope s__law_needs) (by decide +kernel)) (fun _ _ _ _ _ => (pdg_name (i := 6) sc__law_needs.nd rfl (by first | exact Or.inl rfl | exact Or.inr rfl) (by decide))) (fun _ _ _ _ _ => pdts_nil) (fun _ _ _ _ _ => (pd_fn (ok__law_draw T) (hr.mono (by decide)) (pda_cons (pd_var 0) (pda_cons pd_int pda_nil)))))))))))))))) (rd__law_needs c)
theorem ok__law_ask (T : Txt mg c) : FnGC P w c.K mg base 7 "_law_ask" ["door", "needs", "lanes"] (sp__law_ask c) :=
  FnGC.mk T.d__law_ask sc__law_ask (by decide) (fun _ _ _ _ _ h => h) (len__law_ask c) (fun f cdv A outer s H E hr gd => (pss_oneD (pds_try (i := 3) (ws := fun a dd C => (wRet (wCall (sp__law_error c a dd C) (wCons (wVar 3) wNil)))) (by rfl) (by rfl) sc__law_ask.nd (by rfl) (by rfl) T.g_ServeError (by rfl) (by decide) (fun pn xe pass => (pss_consD (pds_if (pdt_cmp (opd_eq hr.units) (pd_var 0) pd_int (nomark _)) (pss_oneD (pds_ret (pd_tup (pda_cons pd_str (pda_cons (pd_fn (ok_fewest_ticks T) (hr.mono (by decide)) (pda_cons (pd_var 1) (pda_cons (pd_var 2) pda_nil))) pda_nil))))) pss_nilD)
  (pss_oneD (pds_ret (pd_tup (pda_cons pd_str (pda_cons (pd_fn (ok_lane_plan T) (hr.mono (by decide)) (pda_cons (pd_var 1) (pda_cons (pd_var 2) pda_nil))) pda_nil))))))) (fun a dd C oe pn hz hf => (pss_oneD (pds_ret (pd_fnT (okT__law_error T) ((L2H.roomH_of hr).mono (by decide)) gd ⟨hz, hf⟩ (pda_cons (pd_var 3) pda_nil)))))))) (rd__law_ask c)
theorem ok__law_lot (T : Txt mg c) : FnC P w c.K mg base 2 "_law_lot" ["value", "many"] (sp__law_lot c) :=
  FnC.mk T.d__law_lot sc__law_lot (by decide) (len__law_lot c) (fun f cdv A outer s H E hr => (pss_consD (pds_if (pdt_not (pdt_val (pd_isi (T := "tuple") (pd_var 0) (pe_bltn rfl T.b_tuple (by decide +kernel) rfl) T.b_isinstance))) (pss_oneD (pds_ret pd_bl)) pss_nilD)
  (pss_consD (pds_for (vs := (List.range 3)) rfl (passes_of rfl) (pdi_rg1 T.b_range (pd_callB cd_len T.b_len (by decide +kernel) (pda_cons (pd_var 0) pda_nil))) (pdg_name (i := 2) sc__law_lot.nd rfl (by first | exact Or.inl rfl | exact Or.inr rfl) (by decide)) (pss_consD (pds_if (PDw.pt (pdw_or (pdt_not (pdt_val (pd_fn (ok__law_is_int T) (hr.mono (by decide)) (pda_cons (pd_ix ixd (pd_var 0) (pd_var 2)) pda_nil)))) (pdw_or1 (pdt_not (pdt_chain opd_le opd_lt pd_int (pd_ix ixd (pd_var 0) (pd_var 2)) (pd_var 1)))))) (pss_oneD (pds_ret pd_bl)) pss_nilD)
  (pss_oneD (pds_if (PDw.pt (pdw_and (pdt_cmp opd_gt (pd_var 2) pd_int (nomark _)) (pdw_and1 (pdt_cmp opd_ge (pd_ix ixd (pd_var 0) (pd_op opd_sub (pd_var 2) pd_int)) (pd_ix ixd (pd_var 0) (pd_var 2)) (nomark _))))) (pss_oneD (pds_ret pd_bl)) pss_nilD))))
  (pss_oneD (pds_ret pd_bl))))) (rd__law_lot c)
theorem ok__law_done (T : Txt mg c) : FnC P w c.K mg base 3 "_law_done" ["needs", "lanes", "ticks", "value"] (sp__law_done c) :=
  FnC.mk T.d__law_done sc__law_done (by decide) (len__law_done c) (fun f cdv A outer s H E hr => (pss_consD (pds_if (PDw.pt (pdw_or (pdt_not (pdt_val (pd_isi (T := "tuple") (pd_var 3) (pe_bltn rfl T.b_tuple (by decide +kernel) rfl) T.b_isinstance))) (pdw_or1 (pdt_cmp (opd_ne hr.units) (pd_callB cd_len T.b_len (by decide +kernel) (pda_cons (pd_var 3) pda_nil)) (pd_var 2) (nomark _))))) (pss_oneD (pds_ret pd_bl)) pss_nilD)
  (pss_consD (pds_set (i := 4) sc__law_done.nd rfl (by first | exact Or.inl rfl | exact Or.inr rfl) (pd_callTy cd_listM T.b_list (by decide +kernel) (pda_cons (pd_var 0) pda_nil)))
  (pss_consD (pds_for (vs := (List.range 8)) rfl (passes_of rfl) (pdi_seq (pd_var 3)) (pdg_name (i := 5) sc__law_done.nd rfl (by first | exact Or.inl rfl | exact Or.inr rfl) (by decide)) (pss_consD (pds_if (PDw.pt (pdw_or (pdt_not (pdt_val (pd_fn (ok__law_lot T) (hr.mono (by decide)) (pda_cons (pd_var 5) (pda_cons (pd_callB cd_len T.b_len (by decide +kernel) (pda_cons (pd_var 0) pda_nil)) pda_nil))))) (pdw_or1 (pdt_cmp opd_gt (pd_callB cd_len T.b_len (by decide +kernel) (pda_cons (pd_var 5) pda_nil)) (pd_var 1) (nomark _))))) (pss_oneD (pds_ret pd_bl)) pss_nilD)
  (pss_oneD (pds_for (vs := (List.range 8)) rfl (passes_of rfl) (pdi_seq (pd_var 5)) (pdg_name (i := 6) sc__law_done.nd rfl (by first | exact Or.inl rfl | exact Or.inr rfl) (by decide)) (pss_oneD (pds_augI (pd_var 4) (pd_var 6) pd_int iopd_sub))))))
  (pss_oneD (pds_ret (pd_cmp (opd_eq hr.units) (pd_var 4) (pd_lc (own := [("need", 7)]) rfl sc__law_done.nd (pdi_seq (pd_var 0)) (blkOk_by (N := N__law_done_) (sc := defScope s__law_done) (by decide +kernel)) (fun _ _ _ _ _ => (pdg_name (i := 7) sc__law_done.nd rfl (by first | exact Or.inl rfl | exact Or.inr rfl) (by decide))) (fun _ _ _ _ _ => pdts_nil) (fun _ _ _ _ _ => pd_int)) (nomark _)))))))) (rd__law_done c)
theorem ok__law_right (T : Txt mg c) : FnGC P w c.K mg base 8 "_law_right" ["state", "needs", "lanes"] (sp__law_right c) :=
  FnGC.mk T.d__law_right sc__law_right (by decide) (fun _ _ _ _ _ h => h) (len__law_right c) (fun f cdv A outer s H E hr gd => (pss_consD (pds_set (i := 3) sc__law_right.nd rfl (by first | exact Or.inl rfl | exact Or.inr rfl) (pd_callB (cd_max2 rfl) T.b_max (by decide +kernel) (pda_cons (pd_callB (cd_maxL rfl) T.b_max (by decide +kernel) (pda_cons (pd_var 1) pda_nil)) (pda_cons (pd_op opd_div (pd_op opd_sub (pd_op opd_add (pd_callB (cd_sum rfl) T.b_sum (by decide +kernel) (pda_cons (pd_var 1) pda_nil)) (pd_var 2)) pd_int) (pd_var 2)) pda_nil))))
  (pss_consD (pds_set (i := 4) sc__law_right.nd rfl (by first | exact Or.inl rfl | exact Or.inr rfl) (pd_callTy cd_list T.b_list (by decide +kernel) (pda_cons (pd_var 1) pda_nil)))
  (pss_consD (pds_if (pdt_cmp (opd_eq hr.units) (pd_fn (ok__law_draw T) (hr.mono (by decide)) (pda_cons (pd_var 0) (pda_cons pd_int pda_nil))) pd_int (nomark _)) (pss_oneD (pds_set (i := 4) sc__law_right.nd rfl (by first | exact Or.inl rfl | exact Or.inr rfl) (pd_callTy cd_tuple T.b_tuple (by decide +kernel) (pda_cons (pd_var 1) pda_nil)))) pss_nilD)
  (pss_consD (pds_set (i := 5) sc__law_right.nd rfl (by first | exact Or.inl rfl | exact Or.inr rfl) (pd_fnG (ok__law_ask T) (hr.mono (by decide)) gd (pda_cons pd_int (pda_cons (pd_var 4) (pda_cons (pd_var 2) pda_nil)))))
  (pss_consD (pds_if (PDw.pt (pdw_or (pdt_cmp (opd_ne hr.units) (pd_ix ixd (pd_var 5) pd_int) pd_str (nomark _)) (pdw_or (pdt_not (pdt_val (pd_fn (ok__law_is_int T) (hr.mono (by decide)) (pda_cons (pd_ix ixd (pd_var 5) pd_int) pda_nil)))) (pdw_or1 (pdt_cmp (opd_ne hr.units) (pd_ix ixd (pd_var 5) pd_int) (pd_var 3) (nomark _)))))) (pss_oneD (pds_ret pd_bl)) pss_nilD)
  (pss_consD (pds_set (i := 6) sc__law_right.nd rfl (by first | exact Or.inl rfl | exact Or.inr rfl) (pd_fnG (ok__law_ask T) (hr.mono (by decide)) gd (pda_cons pd_int (pda_cons (pd_var 4) (pda_cons (pd_var 2) pda_nil)))))
  (pss_consD (pds_if (PDw.pt (pdw_or (pdt_cmp (opd_ne hr.units) (pd_ix ixd (pd_var 6) pd_int) pd_str (nomark _)) (pdw_or1 (pdt_not (pdt_val (pd_fn (ok__law_done T) (hr.mono (by decide)) (pda_cons (pd_var 1) (pda_cons (pd_var 2) (pda_cons (pd_var 3) (pda_cons (pd_ix ixd (pd_var 6) pd_int) pda_nil)))))))))) (pss_oneD (pds_ret pd_bl)) pss_nilD)
  (pss_consD (pds_if (PDw.pt (pdw_or (pdt_cmp (opd_ne hr.units) (pd_callTy cd_list T.b_list (by decide +kernel) (pda_cons (pd_var 4) pda_nil)) (pd_var 1) (nomark _)) (pdw_or1 (pdt_cmp (opd_ne hr.units) (pd_fcK0 (okK_fewest_ticks_0_lanes_needs T) (hr.mono (by decide)) (pdk_cons (pd_var 2) (pdk_cons (pd_var 4) pdk_nil))) (pd_var 3) (nomark _))))) (pss_oneD (pds_ret pd_bl)) pss_nilD)
  (pss_consD (pds_set (i := 7) sc__law_right.nd rfl (by first | exact Or.inl rfl | exact Or.inr rfl) (pd_fcK0 (okK_lane_plan_0_lanes_needs T) (hr.mono (by decide)) (pdk_cons (pd_var 2) (pdk_cons (pd_callTy cd_list T.b_list (by decide +kernel) (pda_cons (pd_var 1) pda_nil)) pdk_nil))))
  (pss_oneD (pds_ret (pd_and (pd_fn (ok__law_done T) (hr.mono (by decide)) (pda_cons (pd_var 1) (pda_cons (pd_var 2) (pda_cons (pd_var 3) (pda_cons (pd_var 7) pda_nil))))) (pd_one (pd_fn (ok__law_done T) (hr.mono (by decide)) (pda_cons (pd_var 1) (pda_cons (pd_var 2) (pda_cons (pd_var 3) (pda_cons (pd_ix ixd (pd_var 6) pd_int) pda_nil))))))))))))))))))) (rd__law_right c)
theorem ok__law_wrong_needs (T : Txt mg c) : FnC P w c.K mg base 2 "_law_wrong_needs" ["state", "needs"] (sp__law_wrong_needs c) :=
  FnC.mk T.d__law_wrong_needs sc__law_wrong_needs (by decide) (len__law_wrong_needs c) (fun f cdv A outer s H E hr => (pss_consD (pds_set (i := 2) sc__law_wrong_needs.nd rfl (by first | exact Or.inl rfl | exact Or.inr rfl) (pd_fn (ok__law_draw T) (hr.mono (by decide)) (pda_cons (pd_var 0) (pda_cons pd_int pda_nil))))
  (pss_consD (pds_if (pdt_cmp opd_lt (pd_var 2) pd_int (nomark _)) (pss_oneD (pds_ret (pd_tup (pda_cons (pd_ix ixd (pd_tup (pda_cons pd_non (pda_cons pd_int (pda_cons pd_str (pda_cons (pd_tup pda_nil) (pda_cons (pd_lst pda_nil) (pda_cons pd_bl pda_nil))))))) (pd_var 2)) (pda_cons pd_int pda_nil))))) pss_nilD)
  (pss_consD (pds_if (pdt_cmp (opd_eq hr.units) (pd_var 2) pd_int (nomark _)) (pss_consD (pds_set (i := 3) sc__law_wrong_needs.nd rfl (by first | exact Or.inl rfl | exact Or.inr rfl) (pd_op opd_add pd_int (pd_fn (ok__law_draw T) (hr.mono (by decide)) (pda_cons (pd_var 0) (pda_cons pd_int pda_nil)))))
  (pss_oneD (pds_ret (pd_tup (pda_cons (pd_lc (own := [("k", 7)]) rfl sc__law_wrong_needs.nd (pdi_rg1 T.b_range (pd_var 3)) (blkOk_by (N := N__law_wrong_needs_) (sc := defScope s__law_wrong_needs) (by decide +kernel)) (fun _ _ _ _ _ => (pdg_name (i := 7) sc__law_wrong_needs.nd rfl (by first | exact Or.inl rfl | exact Or.inr rfl) (by decide))) (fun _ _ _ _ _ => pdts_nil) (fun _ _ _ _ _ => (pd_ix ixd (pd_var 1) (pd_op opd_mod (pd_callTy cd_int T.b_int (by decide +kernel) (pda_cons (pd_var 7) pda_nil)) (pd_callB cd_len T.b_len (by decide +kernel) (pda_cons (pd_var 1) pda_nil)))))) (pda_cons pd_int pda_nil)))))) pss_nilD)
  (pss_consD (pds_set (i := 4) sc__law_wrong_needs.nd rfl (by first | exact Or.inl rfl | exact Or.inr rfl) (pd_callTy cd_listM T.b_list (by decide +kernel) (pda_cons (pd_var 1) pda_nil)))
  (pss_consD (pds_set (i := 5) sc__law_wrong_needs.nd rfl (by first | exact Or.inl rfl | exact Or.inr rfl) (pd_fn (ok__law_draw T) (hr.mono (by decide)) (pda_cons (pd_var 0) (pda_cons (pd_callB cd_len T.b_len (by decide +kernel) (pda_cons (pd_var 1) pda_nil)) pda_nil))))
  (pss_consD (pds_set (i := 6) sc__law_wrong_needs.nd rfl (by first | exact Or.inl rfl | exact Or.inr rfl) (pd_op opd_add pd_int (pd_fn (ok__law_draw T) (hr.mono (by decide)) (pda_cons (pd_var 0) (pda_cons (pd_op opd_pow pd_int pd_int) pda_nil)))))
  (pss_consD (pds_setI (pd_var 4) (pd_var 5) (pd_ix ixd (pd_tup (pda_cons (pd_var 6) (pda_cons pd_int (pda_cons (pd_un und_neg pd_int) (pda_cons pd_bl (pda_cons pd_bl (pda_cons pd_non (pda_cons pd_str (pda_cons (pd_tup (pda_cons pd_int pda_nil)) (pda_cons (pd_lst (pda_cons pd_int pda_nil)) (pda_cons (pd_op opd_pow pd_int pd_int) pda_nil))))))))))) (pd_fn (ok__law_draw T) (hr.mono (by decide)) (pda_cons (pd_var 0) (pda_cons pd_int pda_nil)))))
  (pss_consD (pds_if (PDw.pt (pdw_and (pdt_cmp (opd_eq hr.units) (pd_var 2) pd_int (nomark _)) (pdw_and1 (pdt_cmp opd_lt (pd_op opd_add (pd_var 5) pd_int) (pd_callB cd_len T.b_len (by decide +kernel) (pda_cons (pd_var 4) pda_nil)) (nomark _))))) (pss_oneD (pds_setI (pd_var 4) (pd_op opd_add (pd_var 5) pd_int) (pd_op opd_sub (pd_un und_neg pd_int) (pd_fn (ok__law_draw T) (hr.mono (by decide)) (pda_cons (pd_var 0) (pda_cons pd_int pda_nil)))))) pss_nilD)
  (pss_consD (pds_if (pdt_cmp (opd_eq hr.units) (pd_var 2) pd_int (nomark _)) (pss_oneD (pds_ret (pd_tup (pda_cons (pd_callTy cd_tuple T.b_tuple (by decide +kernel) (pda_cons (pd_var 4) pda_nil)) (pda_cons (pd_var 5) pda_nil))))) pss_nilD)
  (pss_oneD (pds_ret (pd_tup (pda_cons (pd_frz (pd_var 4)) (pda_cons (pd_var 5) pda_nil))))))))))))))) (rd__law_wrong_needs c)
theorem ok__law_refused (T : Txt mg c) : FnGC P w c.K mg base 8 "_law_refused" ["state", "needs", "lanes"] (sp__law_refused c) :=
  FnGC.mk T.d__law_refused sc__law_refused (by decide) (fun _ _ _ _ _ h => h) (len__law_refused c) (fun f cdv A outer s H E hr gd => (pss_consD (pds_asgG (vs := (List.range 7)) (pd_fn (ok__law_wrong_needs T) (hr.mono (by decide)) (pda_cons (pd_var 0) (pda_cons (pd_var 1) pda_nil))) (pdg_tup rfl (pdgs_cons (pdg_name (i := 3) sc__law_refused.nd rfl (by first | exact Or.inl rfl | exact Or.inr rfl) (by decide)) (pdgs_cons (pdg_name (i := 4) sc__law_refused.nd rfl (by first | exact Or.inl rfl | exact Or.inr rfl) (by decide)) pdgs_nil))))
  (pss_consD (pds_set (i := 5) sc__law_refused.nd rfl (by first | exact Or.inl rfl | exact Or.inr rfl) (pd_fn (ok__law_wrong_lanes T) (hr.mono (by decide)) (pda_cons (pd_var 0) pda_nil)))
  (pss_consD (pds_for (vs := (List.range 7)) rfl (passes_of rfl) (pdi_rg1 T.b_range pd_int) (pdg_name (i := 6) sc__law_refused.nd rfl (by first | exact Or.inl rfl | exact Or.inr rfl) (by decide)) (pss_consD (pds_if (pdt_cmp (opd_ne hr.units) (pd_fnG (ok__law_ask T) (hr.mono (by decide)) gd (pda_cons (pd_var 6) (pda_cons (pd_var 3) (pda_cons (pd_var 2) pda_nil)))) (pd_tup (pda_cons pd_str (pda_cons (pd_var 4) pda_nil))) (nomark _)) (pss_oneD (pds_ret pd_bl)) pss_nilD)
  (pss_consD (pds_if (pdt_cmp (opd_ne hr.units) (pd_fnG (ok__law_ask T) (hr.mono (by decide)) gd (pda_cons (pd_var 6) (pda_cons (pd_callTy cd_list T.b_list (by decide +kernel) (pda_cons (pd_var 1) pda_nil)) (pda_cons (pd_var 5) pda_nil)))) (pd_tup (pda_cons pd_str (pda_cons (pd_callB (cd_repr gd hr.units) T.b_repr (by decide +kernel) (pda_cons (pd_var 5) pda_nil)) pda_nil))) (nomark _)) (pss_oneD (pds_ret pd_bl)) pss_nilD)
  (pss_oneD (pds_if (pdt_cmp (opd_ne hr.units) (pd_fnG (ok__law_ask T) (hr.mono (by decide)) gd (pda_cons (pd_var 6) (pda_cons (pd_var 3) (pda_cons (pd_var 5) pda_nil)))) (pd_tup (pda_cons pd_str (pda_cons (pd_var 4) pda_nil))) (nomark _)) (pss_oneD (pds_ret pd_bl)) pss_nilD)))))
  (pss_oneD (pds_ret pd_bl)))))) (rd__law_refused c)
theorem okF_law (T : Txt mg c) {f : Addr} {fd : FuncData} (F : Fun c.K "law" "law" s_law f fd) : FnG P w c.K mg base 9 f fd ["script"] (sp_law c) :=
  fnG_mk F sc_law (by decide) (len_law c) (fun f cdv A outer s H E hr gd => (pss_consD (pds_set (i := 1) sc_law.nd rfl (by first | exact Or.inl rfl | exact Or.inr rfl) (pd_fn (ok__law_begin T) (hr.mono (by decide)) (pda_cons (pd_var 0) pda_nil)))
  (pss_consD (pds_set (i := 2) sc_law.nd rfl (by first | exact Or.inl rfl | exact Or.inr rfl) (pd_lst (pda_cons pd_int pda_nil)))
  (pss_consD (pds_set (i := 3) sc_law.nd rfl (by first | exact Or.inl rfl | exact Or.inr rfl) pd_int)
  (pss_consD (pds_for (vs := (List.range 6)) rfl (passes_of rfl) (pdi_rg1 T.b_range pd_int) (pdg_name (i := 4) sc_law.nd rfl (by first | exact Or.inl rfl | exact Or.inr rfl) (by decide)) (pss_consD (pds_set (i := 3) sc_law.nd rfl (by first | exact Or.inl rfl | exact Or.inr rfl) (pd_op opd_add pd_int (pd_fn (ok__law_draw T) (hr.mono (by decide)) (pda_cons (pd_var 1) (pda_cons pd_int pda_nil)))))
  (pss_consD (pds_set (i := 5) sc_law.nd rfl (by first | exact Or.inl rfl | exact Or.inr rfl) (pd_fn (ok__law_needs T) (hr.mono (by decide)) (pda_cons (pd_var 1) (pda_cons (pd_var 3) pda_nil))))
  (pss_consD (pds_if (pdt_not (pdt_val (pd_fnG (ok__law_right T) (hr.mono (by decide)) gd (pda_cons (pd_var 1) (pda_cons (pd_var 5) (pda_cons (pd_var 3) pda_nil)))))) (pss_oneD (pds_ret pd_bl)) pss_nilD)
  (pss_oneD (pds_if (pdt_cmp (opd_eq hr.units) (pd_var 4) pd_int (nomark _)) (pss_oneD (pds_set (i := 2) sc_law.nd rfl (by first | exact Or.inl rfl | exact Or.inr rfl) (pd_var 5))) pss_nilD))))))
  (pss_consD (pds_if (PDw.pt (pdw_or (pdt_not (pdt_val (pd_fnG (ok__law_right T) (hr.mono (by decide)) gd (pda_cons (pd_var 1) (pda_cons (pd_lst (pda_cons pd_int (pda_cons pd_int (pda_cons pd_int (pda_cons pd_int (pda_cons pd_int pda_nil)))))) (pda_cons pd_int pda_nil)))))) (pdw_or1 (pdt_not (pdt_val (pd_fnG (ok__law_right T) (hr.mono (by decide)) gd (pda_cons (pd_var 1) (pda_cons (pd_lst (pda_cons (pd_op opd_add pd_int (pd_var 3)) (pda_cons pd_int pda_nil))) (pda_cons pd_int pda_nil))))))))) (pss_oneD (pds_ret pd_bl)) pss_nilD)
  (pss_consD (pds_if (pdt_not (pdt_val (pd_fnG (ok__law_refused T) (hr.mono (by decide)) gd (pda_cons (pd_var 1) (pda_cons (pd_var 2) (pda_cons (pd_var 3) pda_nil)))))) (pss_oneD (pds_ret pd_bl)) pss_nilD)
  (pss_oneD (pds_ret (pd_fnG (ok__law_right T) (hr.mono (by decide)) gd (pda_cons (pd_var 1) (pda_cons (pd_var 2) (pda_cons (pd_var 3) pda_nil))))))))))))) (rd_law c)
end
end K19
set_option Elab.async false
set_option linter.all false
set_option maxRecDepth 100000
set_option maxHeartbeats 4000000
namespace K19
open PySem PySem.Spec PyProof.Rows L2 DL
abbrev spEnd : Ctr := DL.spScript
theorem spEnd_at {K : PySem.W.Frag} {H : Hp} {a : Addr} {ns : List Int} {E : XK} (hl : ns.length ≤ 63) (hS : SqL K H a (ns.map V.int)) : lSp K spEnd [.ref a] H (fun v _ => v = .bl true) E := spScript_at hl hS
theorem all_mk {l : PySem.W.OpenLaw} {w : World} {K : PySem.W.Frag} {h : Heap} {mg : Str → Option Value} {fa : Addr} (X : K.In h) (G : h.Ns mainGlobals mg) (hfa : mg "law" = some (.ref fa))
    {X_ServeError : Addr}
    {X_InvalidNumber : Addr}
    {X_InvalidRow : Addr}
    {X_InvalidLot : Addr}
    {X_Undefined : Addr}
    {f1 : Addr} {oc1 kV1 dc1 pm1 cd1 ct1 : Value} {od1 an1 : Option Addr} {sl1 : Array (Option Value)}
    {nm1 q1 : Str} {N1 : Addr} {bs1 : List Value} {sn1 : List Str} {sub1 : List Value} {ab1 : Bool} {col1 : Option Bool} {dd1 : Option Addr} {m01 m11 m21 m31 m51 : Option Value}
    {f2 : Addr} {oc2 kV2 dc2 pm2 cd2 ct2 : Value} {od2 an2 : Option Addr} {sl2 : Array (Option Value)}
    {nm2 q2 : Str} {N2 : Addr} {bs2 : List Value} {sn2 : List Str} {sub2 : List Value} {ab2 : Bool} {col2 : Option Bool} {dd2 : Option Addr} {m02 m12 m22 m32 m52 : Option Value}
    {tk_MOST_JOBS : _}
    {tk_MOST_NEED : _}
    {tk_MOST_LANES : _}
    {f3 : Addr} {oc3 kV3 dc3 pm3 cd3 ct3 : Value} {od3 an3 : Option Addr} {sl3 : Array (Option Value)}
    {f4 : Addr} {oc4 kV4 dc4 pm4 cd4 ct4 : Value} {od4 an4 : Option Addr} {sl4 : Array (Option Value)}
    {f5 : Addr} {oc5 kV5 dc5 pm5 cd5 ct5 : Value} {od5 an5 : Option Addr} {sl5 : Array (Option Value)}
    {f6 : Addr} {oc6 kV6 dc6 pm6 cd6 ct6 : Value} {od6 an6 : Option Addr} {sl6 : Array (Option Value)}
    {f7 : Addr} {oc7 kV7 dc7 pm7 cd7 ct7 : Value} {od7 an7 : Option Addr} {sl7 : Array (Option Value)}
    {f8 : Addr} {oc8 kV8 dc8 pm8 cd8 ct8 : Value} {od8 an8 : Option Addr} {sl8 : Array (Option Value)}
    {f9 : Addr} {oc9 kV9 dc9 pm9 cd9 ct9 : Value} {od9 an9 : Option Addr} {sl9 : Array (Option Value)}
    {f10 : Addr} {oc10 kV10 dc10 pm10 cd10 ct10 : Value} {od10 an10 : Option Addr} {sl10 : Array (Option Value)}
    {f11 : Addr} {oc11 kV11 dc11 pm11 cd11 ct11 : Value} {od11 an11 : Option Addr} {sl11 : Array (Option Value)}
    {f12 : Addr} {oc12 kV12 dc12 pm12 cd12 ct12 : Value} {od12 an12 : Option Addr} {sl12 : Array (Option Value)}
    {f13 : Addr} {oc13 kV13 dc13 pm13 cd13 ct13 : Value} {od13 an13 : Option Addr} {sl13 : Array (Option Value)}
    {f14 : Addr} {oc14 kV14 dc14 pm14 cd14 ct14 : Value} {od14 an14 : Option Addr} {sl14 : Array (Option Value)}
    {f15 : Addr} {oc15 kV15 dc15 pm15 cd15 ct15 : Value} {od15 an15 : Option Addr} {sl15 : Array (Option Value)}
    {f16 : Addr} {oc16 kV16 dc16 pm16 cd16 ct16 : Value} {od16 an16 : Option Addr} {sl16 : Array (Option Value)}
    {f17 : Addr} {oc17 kV17 dc17 pm17 cd17 ct17 : Value} {od17 an17 : Option Addr} {sl17 : Array (Option Value)}
    {f18 : Addr} {oc18 kV18 dc18 pm18 cd18 ct18 : Value} {od18 an18 : Option Addr} {sl18 : Array (Option Value)}
    {f19 : Addr} {oc19 kV19 dc19 pm19 cd19 ct19 : Value} {od19 an19 : Option Addr} {sl19 : Array (Option Value)}
    {f20 : Addr} {oc20 kV20 dc20 pm20 cd20 ct20 : Value} {od20 an20 : Option Addr} {sl20 : Array (Option Value)}
    {f21 : Addr} {oc21 kV21 dc21 pm21 cd21 ct21 : Value} {od21 an21 : Option Addr} {sl21 : Array (Option Value)}
    {f22 : Addr} {oc22 kV22 dc22 pm22 cd22 ct22 : Value} {od22 an22 : Option Addr} {sl22 : Array (Option Value)}
    {f23 : Addr} {oc23 kV23 dc23 pm23 cd23 ct23 : Value} {od23 an23 : Option Addr} {sl23 : Array (Option Value)}
    {f24 : Addr} {oc24 kV24 dc24 pm24 cd24 ct24 : Value} {od24 an24 : Option Addr} {sl24 : Array (Option Value)}
    {f25 : Addr} {oc25 kV25 dc25 pm25 cd25 ct25 : Value} {od25 an25 : Option Addr} {sl25 : Array (Option Value)}
    {f26 : Addr} {oc26 kV26 dc26 pm26 cd26 ct26 : Value} {od26 an26 : Option Addr} {sl26 : Array (Option Value)}
    (aX_ServeError : PySem.W.nsIn K mainGlobals "ServeError" = some (some (.ref X_ServeError)))
    (aX_InvalidNumber : PySem.W.nsIn K mainGlobals "InvalidNumber" = some (some (.ref X_InvalidNumber)))
    (aX_InvalidRow : PySem.W.nsIn K mainGlobals "InvalidRow" = some (some (.ref X_InvalidRow)))
    (aX_InvalidLot : PySem.W.nsIn K mainGlobals "InvalidLot" = some (some (.ref X_InvalidLot)))
    (aX_Undefined : PySem.W.nsIn K mainGlobals "Undefined" = some (some (.ref X_Undefined)))
    (xL1 : K.lookup X_InvalidNumber = some (excClassObj nm1 q1 X_InvalidNumber N1 bs1 [.ref X_ServeError, .type "ValueError", .type "Exception", .type "BaseException", .type "object"] true sn1 sub1 ab1 col1 dd1 m01 m11 m21 m31 m51 "ValueError.__new__"))
    (saX_InvalidNumber : PySem.W.findIn K (.ref X_InvalidNumber) "__setattr__" = some (some (.builtin "object.__setattr__")))
    (kcX_InvalidNumber : PySem.W.keepIn K (.ref X_InvalidNumber) = true)
    (iX_InvalidNumber : PySem.W.findIn K (.ref X_InvalidNumber) "__init__" = some (some (.ref f1)))
    (tfX_InvalidNumber : PySem.W.typeIn K (.ref f1) = some (.type "function"))
    (l1 : K.lookup f1 = some ⟨oc1, od1, .func (PySem.W.fnOf "__init__" "InvalidNumber.__init__" (defArgs (inClass (topS 2) 0)) (defBody (inClass (topS 2) 0)) (defScope (inClass (topS 2) 0)) .none kV1 dc1 pm1 an1 cd1 ct1), sl1⟩)
    (c1 : PySem.W.codeIn K cd1 "InvalidNumber.__init__" = true)
    (k1 : PySem.W.keepIn K (.ref f1) = true)
    (eX_InvalidNumber : PySem.W.subIn K (.ref X_InvalidNumber) (.type "BaseException") = some true)
    (tX_InvalidNumber : PySem.W.typeIn K (.ref X_InvalidNumber) = some (.type "type"))
    (nfX_InvalidNumber_number : PySem.W.findIn K (.ref X_InvalidNumber) "number" = some none)
    (xL2 : K.lookup X_InvalidRow = some (excClassObj nm2 q2 X_InvalidRow N2 bs2 [.ref X_ServeError, .type "ValueError", .type "Exception", .type "BaseException", .type "object"] true sn2 sub2 ab2 col2 dd2 m02 m12 m22 m32 m52 "ValueError.__new__"))
    (saX_InvalidRow : PySem.W.findIn K (.ref X_InvalidRow) "__setattr__" = some (some (.builtin "object.__setattr__")))
    (kcX_InvalidRow : PySem.W.keepIn K (.ref X_InvalidRow) = true)
    (iX_InvalidRow : PySem.W.findIn K (.ref X_InvalidRow) "__init__" = some (some (.ref f2)))
    (tfX_InvalidRow : PySem.W.typeIn K (.ref f2) = some (.type "function"))
    (l2 : K.lookup f2 = some ⟨oc2, od2, .func (PySem.W.fnOf "__init__" "InvalidRow.__init__" (defArgs (inClass (topS 3) 0)) (defBody (inClass (topS 3) 0)) (defScope (inClass (topS 3) 0)) .none kV2 dc2 pm2 an2 cd2 ct2), sl2⟩)
    (c2 : PySem.W.codeIn K cd2 "InvalidRow.__init__" = true)
    (k2 : PySem.W.keepIn K (.ref f2) = true)
    (eX_InvalidRow : PySem.W.subIn K (.ref X_InvalidRow) (.type "BaseException") = some true)
    (tX_InvalidRow : PySem.W.typeIn K (.ref X_InvalidRow) = some (.type "type"))
    (nfX_InvalidRow_place : PySem.W.findIn K (.ref X_InvalidRow) "place" = some none)
    (cn_MOST_JOBS : PySem.W.nsIn K mainGlobals "MOST_JOBS" = some (some (Value.int (12) tk_MOST_JOBS)))
    (cn_MOST_NEED : PySem.W.nsIn K mainGlobals "MOST_NEED" = some (some (Value.int (30) tk_MOST_NEED)))
    (cn_MOST_LANES : PySem.W.nsIn K mainGlobals "MOST_LANES" = some (some (Value.int (8) tk_MOST_LANES)))
    (eX_ServeError : PySem.W.subIn K (.ref X_ServeError) (.type "BaseException") = some true)
    (icX_ServeError : PySem.W.isClsIn K X_ServeError = true)
    (tX_ServeError : PySem.W.typeIn K (.ref X_ServeError) = some (.type "type"))
    (sub_InvalidNumber_ServeError : PySem.W.subIn K (.ref X_InvalidNumber) (.ref X_ServeError) = some true)
    (sub_InvalidRow_ServeError : PySem.W.subIn K (.ref X_InvalidRow) (.ref X_ServeError) = some true)
    (ne_InvalidRow_InvalidNumber : X_InvalidRow ≠ X_InvalidNumber)
    (icX_InvalidNumber : PySem.W.isClsIn K X_InvalidNumber = true)
    (sub_InvalidRow_InvalidNumber : PySem.W.subIn K (.ref X_InvalidRow) (.ref X_InvalidNumber) = some false)
    (ne_InvalidRow_Undefined : X_InvalidRow ≠ X_Undefined)
    (icX_Undefined : PySem.W.isClsIn K X_Undefined = true)
    (tX_Undefined : PySem.W.typeIn K (.ref X_Undefined) = some (.type "type"))
    (sub_InvalidRow_Undefined : PySem.W.subIn K (.ref X_InvalidRow) (.ref X_Undefined) = some false)
    (ne_InvalidRow_InvalidLot : X_InvalidRow ≠ X_InvalidLot)
    (icX_InvalidLot : PySem.W.isClsIn K X_InvalidLot = true)
    (tX_InvalidLot : PySem.W.typeIn K (.ref X_InvalidLot) = some (.type "type"))
    (sub_InvalidRow_InvalidLot : PySem.W.subIn K (.ref X_InvalidRow) (.ref X_InvalidLot) = some false)
    (ne_InvalidNumber_InvalidRow : X_InvalidNumber ≠ X_InvalidRow)
    (icX_InvalidRow : PySem.W.isClsIn K X_InvalidRow = true)
    (sub_InvalidNumber_InvalidRow : PySem.W.subIn K (.ref X_InvalidNumber) (.ref X_InvalidRow) = some false)
    (ne_InvalidNumber_Undefined : X_InvalidNumber ≠ X_Undefined)
    (sub_InvalidNumber_Undefined : PySem.W.subIn K (.ref X_InvalidNumber) (.ref X_Undefined) = some false)
    (ne_InvalidNumber_InvalidLot : X_InvalidNumber ≠ X_InvalidLot)
    (sub_InvalidNumber_InvalidLot : PySem.W.subIn K (.ref X_InvalidNumber) (.ref X_InvalidLot) = some false)
    (caX_InvalidRow : PySem.W.findIn K (.ref X_InvalidRow) "__class__" = some (some (.builtin "object.__class__")))
    (cgX : PySem.W.specialIn K (.builtin "object.__class__") "__get__" = some (some (.builtin "getset_descriptor.__get__")))
    (ctX : PySem.W.takesIn K (.builtin "object.__class__") = some true)
    (moX_InvalidRow : PySem.W.mroIn K X_InvalidRow (.type "object") = some true)
    (gaX_InvalidRow : PySem.W.findIn K (.ref X_InvalidRow) "__getattribute__" = some (some (.builtin "BaseException.__getattribute__")))
    (ggX_InvalidRow : PySem.W.findIn K (.ref X_InvalidRow) "__getattr__" = some none)
    (caX_InvalidNumber : PySem.W.findIn K (.ref X_InvalidNumber) "__class__" = some (some (.builtin "object.__class__")))
    (moX_InvalidNumber : PySem.W.mroIn K X_InvalidNumber (.type "object") = some true)
    (gaX_InvalidNumber : PySem.W.findIn K (.ref X_InvalidNumber) "__getattribute__" = some (some (.builtin "BaseException.__getattribute__")))
    (ggX_InvalidNumber : PySem.W.findIn K (.ref X_InvalidNumber) "__getattr__" = some none)
    (hdX_InvalidRow : PySem.W.hasDictIn K X_InvalidRow = true)
    (hdX_InvalidNumber : PySem.W.hasDictIn K X_InvalidNumber = true)
    (a3 : PySem.W.nsIn K mainGlobals "is_integer" = some (some (.ref f3)))
    (l3 : K.lookup f3 = some ⟨oc3, od3, .func (PySem.W.fnOf "is_integer" "is_integer" (defArgs s_is_integer) (defBody s_is_integer) (defScope s_is_integer) .none kV3 dc3 pm3 an3 cd3 ct3), sl3⟩)
    (c3 : PySem.W.codeIn K cd3 "is_integer" = true)
    (k3 : PySem.W.keepIn K (.ref f3) = true)
    (a4 : PySem.W.nsIn K mainGlobals "is_from_to" = some (some (.ref f4)))
    (l4 : K.lookup f4 = some ⟨oc4, od4, .func (PySem.W.fnOf "is_from_to" "is_from_to" (defArgs s_is_from_to) (defBody s_is_from_to) (defScope s_is_from_to) .none kV4 dc4 pm4 an4 cd4 ct4), sl4⟩)
    (c4 : PySem.W.codeIn K cd4 "is_from_to" = true)
    (k4 : PySem.W.keepIn K (.ref f4) = true)
    (a5 : PySem.W.nsIn K mainGlobals "is_row" = some (some (.ref f5)))
    (l5 : K.lookup f5 = some ⟨oc5, od5, .func (PySem.W.fnOf "is_row" "is_row" (defArgs s_is_row) (defBody s_is_row) (defScope s_is_row) .none kV5 dc5 pm5 an5 cd5 ct5), sl5⟩)
    (c5 : PySem.W.codeIn K cd5 "is_row" = true)
    (k5 : PySem.W.keepIn K (.ref f5) = true)
    (a6 : PySem.W.nsIn K mainGlobals "check_number" = some (some (.ref f6)))
    (l6 : K.lookup f6 = some ⟨oc6, od6, .func (PySem.W.fnOf "check_number" "check_number" (defArgs s_check_number) (defBody s_check_number) (defScope s_check_number) .none kV6 dc6 pm6 an6 cd6 ct6), sl6⟩)
    (c6 : PySem.W.codeIn K cd6 "check_number" = true)
    (k6 : PySem.W.keepIn K (.ref f6) = true)
    (a7 : PySem.W.nsIn K mainGlobals "check_length" = some (some (.ref f7)))
    (l7 : K.lookup f7 = some ⟨oc7, od7, .func (PySem.W.fnOf "check_length" "check_length" (defArgs s_check_length) (defBody s_check_length) (defScope s_check_length) .none kV7 dc7 pm7 an7 cd7 ct7), sl7⟩)
    (c7 : PySem.W.codeIn K cd7 "check_length" = true)
    (k7 : PySem.W.keepIn K (.ref f7) = true)
    (a8 : PySem.W.nsIn K mainGlobals "checked_numbers" = some (some (.ref f8)))
    (l8 : K.lookup f8 = some ⟨oc8, od8, .func (PySem.W.fnOf "checked_numbers" "checked_numbers" (defArgs s_checked_numbers) (defBody s_checked_numbers) (defScope s_checked_numbers) .none kV8 dc8 pm8 an8 cd8 ct8), sl8⟩)
    (c8 : PySem.W.codeIn K cd8 "checked_numbers" = true)
    (k8 : PySem.W.keepIn K (.ref f8) = true)
    (a9 : PySem.W.nsIn K mainGlobals "checked_needs" = some (some (.ref f9)))
    (l9 : K.lookup f9 = some ⟨oc9, od9, .func (PySem.W.fnOf "checked_needs" "checked_needs" (defArgs s_checked_needs) (defBody s_checked_needs) (defScope s_checked_needs) .none kV9 dc9 pm9 an9 cd9 ct9), sl9⟩)
    (c9 : PySem.W.codeIn K cd9 "checked_needs" = true)
    (k9 : PySem.W.keepIn K (.ref f9) = true)
    (a10 : PySem.W.nsIn K mainGlobals "ticks_needed" = some (some (.ref f10)))
    (l10 : K.lookup f10 = some ⟨oc10, od10, .func (PySem.W.fnOf "ticks_needed" "ticks_needed" (defArgs s_ticks_needed) (defBody s_ticks_needed) (defScope s_ticks_needed) .none kV10 dc10 pm10 an10 cd10 ct10), sl10⟩)
    (c10 : PySem.W.codeIn K cd10 "ticks_needed" = true)
    (k10 : PySem.W.keepIn K (.ref f10) = true)
    (a11 : PySem.W.nsIn K mainGlobals "fewest_ticks" = some (some (.ref f11)))
    (l11 : K.lookup f11 = some ⟨oc11, od11, .func (PySem.W.fnOf "fewest_ticks" "fewest_ticks" (defArgs s_fewest_ticks) (defBody s_fewest_ticks) (defScope s_fewest_ticks) .none kV11 dc11 pm11 an11 cd11 ct11), sl11⟩)
    (c11 : PySem.W.codeIn K cd11 "fewest_ticks" = true)
    (k11 : PySem.W.keepIn K (.ref f11) = true)
    (a12 : PySem.W.nsIn K mainGlobals "lane_plan" = some (some (.ref f12)))
    (l12 : K.lookup f12 = some ⟨oc12, od12, .func (PySem.W.fnOf "lane_plan" "lane_plan" (defArgs s_lane_plan) (defBody s_lane_plan) (defScope s_lane_plan) .none kV12 dc12 pm12 an12 cd12 ct12), sl12⟩)
    (c12 : PySem.W.codeIn K cd12 "lane_plan" = true)
    (k12 : PySem.W.keepIn K (.ref f12) = true)
    (a13 : PySem.W.nsIn K mainGlobals "_law_begin" = some (some (.ref f13)))
    (l13 : K.lookup f13 = some ⟨oc13, od13, .func (PySem.W.fnOf "_law_begin" "_law_begin" (defArgs s__law_begin) (defBody s__law_begin) (defScope s__law_begin) .none kV13 dc13 pm13 an13 cd13 ct13), sl13⟩)
    (c13 : PySem.W.codeIn K cd13 "_law_begin" = true)
    (k13 : PySem.W.keepIn K (.ref f13) = true)
    (a14 : PySem.W.nsIn K mainGlobals "_law_draw" = some (some (.ref f14)))
    (l14 : K.lookup f14 = some ⟨oc14, od14, .func (PySem.W.fnOf "_law_draw" "_law_draw" (defArgs s__law_draw) (defBody s__law_draw) (defScope s__law_draw) .none kV14 dc14 pm14 an14 cd14 ct14), sl14⟩)
    (c14 : PySem.W.codeIn K cd14 "_law_draw" = true)
    (k14 : PySem.W.keepIn K (.ref f14) = true)
    (a15 : PySem.W.nsIn K mainGlobals "_law_is_int" = some (some (.ref f15)))
    (l15 : K.lookup f15 = some ⟨oc15, od15, .func (PySem.W.fnOf "_law_is_int" "_law_is_int" (defArgs s__law_is_int) (defBody s__law_is_int) (defScope s__law_is_int) .none kV15 dc15 pm15 an15 cd15 ct15), sl15⟩)
    (c15 : PySem.W.codeIn K cd15 "_law_is_int" = true)
    (k15 : PySem.W.keepIn K (.ref f15) = true)
    (a16 : PySem.W.nsIn K mainGlobals "_law_error" = some (some (.ref f16)))
    (l16 : K.lookup f16 = some ⟨oc16, od16, .func (PySem.W.fnOf "_law_error" "_law_error" (defArgs s__law_error) (defBody s__law_error) (defScope s__law_error) .none kV16 dc16 pm16 an16 cd16 ct16), sl16⟩)
    (c16 : PySem.W.codeIn K cd16 "_law_error" = true)
    (k16 : PySem.W.keepIn K (.ref f16) = true)
    (a17 : PySem.W.nsIn K mainGlobals "_law_wrong_lanes" = some (some (.ref f17)))
    (l17 : K.lookup f17 = some ⟨oc17, od17, .func (PySem.W.fnOf "_law_wrong_lanes" "_law_wrong_lanes" (defArgs s__law_wrong_lanes) (defBody s__law_wrong_lanes) (defScope s__law_wrong_lanes) .none kV17 dc17 pm17 an17 cd17 ct17), sl17⟩)
    (c17 : PySem.W.codeIn K cd17 "_law_wrong_lanes" = true)
    (k17 : PySem.W.keepIn K (.ref f17) = true)
    (a18 : PySem.W.nsIn K mainGlobals "_law_turning" = some (some (.ref f18)))
    (l18 : K.lookup f18 = some ⟨oc18, od18, .func (PySem.W.fnOf "_law_turning" "_law_turning" (defArgs s__law_turning) (defBody s__law_turning) (defScope s__law_turning) .none kV18 dc18 pm18 an18 cd18 ct18), sl18⟩)
    (c18 : PySem.W.codeIn K cd18 "_law_turning" = true)
    (k18 : PySem.W.keepIn K (.ref f18) = true)
    (a19 : PySem.W.nsIn K mainGlobals "_law_needs" = some (some (.ref f19)))
    (l19 : K.lookup f19 = some ⟨oc19, od19, .func (PySem.W.fnOf "_law_needs" "_law_needs" (defArgs s__law_needs) (defBody s__law_needs) (defScope s__law_needs) .none kV19 dc19 pm19 an19 cd19 ct19), sl19⟩)
    (c19 : PySem.W.codeIn K cd19 "_law_needs" = true)
    (k19 : PySem.W.keepIn K (.ref f19) = true)
    (a20 : PySem.W.nsIn K mainGlobals "_law_ask" = some (some (.ref f20)))
    (l20 : K.lookup f20 = some ⟨oc20, od20, .func (PySem.W.fnOf "_law_ask" "_law_ask" (defArgs s__law_ask) (defBody s__law_ask) (defScope s__law_ask) .none kV20 dc20 pm20 an20 cd20 ct20), sl20⟩)
    (c20 : PySem.W.codeIn K cd20 "_law_ask" = true)
    (k20 : PySem.W.keepIn K (.ref f20) = true)
    (a21 : PySem.W.nsIn K mainGlobals "_law_lot" = some (some (.ref f21)))
    (l21 : K.lookup f21 = some ⟨oc21, od21, .func (PySem.W.fnOf "_law_lot" "_law_lot" (defArgs s__law_lot) (defBody s__law_lot) (defScope s__law_lot) .none kV21 dc21 pm21 an21 cd21 ct21), sl21⟩)
    (c21 : PySem.W.codeIn K cd21 "_law_lot" = true)
    (k21 : PySem.W.keepIn K (.ref f21) = true)
    (a22 : PySem.W.nsIn K mainGlobals "_law_done" = some (some (.ref f22)))
    (l22 : K.lookup f22 = some ⟨oc22, od22, .func (PySem.W.fnOf "_law_done" "_law_done" (defArgs s__law_done) (defBody s__law_done) (defScope s__law_done) .none kV22 dc22 pm22 an22 cd22 ct22), sl22⟩)
    (c22 : PySem.W.codeIn K cd22 "_law_done" = true)
    (k22 : PySem.W.keepIn K (.ref f22) = true)
    (a23 : PySem.W.nsIn K mainGlobals "_law_right" = some (some (.ref f23)))
    (l23 : K.lookup f23 = some ⟨oc23, od23, .func (PySem.W.fnOf "_law_right" "_law_right" (defArgs s__law_right) (defBody s__law_right) (defScope s__law_right) .none kV23 dc23 pm23 an23 cd23 ct23), sl23⟩)
    (c23 : PySem.W.codeIn K cd23 "_law_right" = true)
    (k23 : PySem.W.keepIn K (.ref f23) = true)
    (a24 : PySem.W.nsIn K mainGlobals "_law_wrong_needs" = some (some (.ref f24)))
    (l24 : K.lookup f24 = some ⟨oc24, od24, .func (PySem.W.fnOf "_law_wrong_needs" "_law_wrong_needs" (defArgs s__law_wrong_needs) (defBody s__law_wrong_needs) (defScope s__law_wrong_needs) .none kV24 dc24 pm24 an24 cd24 ct24), sl24⟩)
    (c24 : PySem.W.codeIn K cd24 "_law_wrong_needs" = true)
    (k24 : PySem.W.keepIn K (.ref f24) = true)
    (a25 : PySem.W.nsIn K mainGlobals "_law_refused" = some (some (.ref f25)))
    (l25 : K.lookup f25 = some ⟨oc25, od25, .func (PySem.W.fnOf "_law_refused" "_law_refused" (defArgs s__law_refused) (defBody s__law_refused) (defScope s__law_refused) .none kV25 dc25 pm25 an25 cd25 ct25), sl25⟩)
    (c25 : PySem.W.codeIn K cd25 "_law_refused" = true)
    (k25 : PySem.W.keepIn K (.ref f25) = true)
    (a26 : PySem.W.nsIn K mainGlobals "law" = some (some (.ref f26)))
    (l26 : K.lookup f26 = some ⟨oc26, od26, .func (PySem.W.fnOf "law" "law" (defArgs s_law) (defBody s_law) (defScope s_law) .none kV26 dc26 pm26 an26 cd26 ct26), sl26⟩)
    (c26 : PySem.W.codeIn K cd26 "law" = true)
    (k26 : PySem.W.keepIn K (.ref f26) = true)
    (z_abs : PySem.W.nsIn K mainGlobals "abs" = some none)
    (z_bool : PySem.W.nsIn K mainGlobals "bool" = some none)
    (z_enumerate : PySem.W.nsIn K mainGlobals "enumerate" = some none)
    (z_int : PySem.W.nsIn K mainGlobals "int" = some none)
    (z_isinstance : PySem.W.nsIn K mainGlobals "isinstance" = some none)
    (z_len : PySem.W.nsIn K mainGlobals "len" = some none)
    (z_list : PySem.W.nsIn K mainGlobals "list" = some none)
    (z_max : PySem.W.nsIn K mainGlobals "max" = some none)
    (z_min : PySem.W.nsIn K mainGlobals "min" = some none)
    (z_range : PySem.W.nsIn K mainGlobals "range" = some none)
    (z_repr : PySem.W.nsIn K mainGlobals "repr" = some none)
    (z_sorted : PySem.W.nsIn K mainGlobals "sorted" = some none)
    (z_sum : PySem.W.nsIn K mainGlobals "sum" = some none)
    (z_tuple : PySem.W.nsIn K mainGlobals "tuple" = some none)
    : ∃ fd : FuncData, (∀ (s : Shared) (v : Value), BindsTo s fd ⟨[v], []⟩ [("script", v)]) ∧ ∀ base : Heap, K.In base → base.Ns mainGlobals mg → FnG l.prog w K mg base 9 fa fd ["script"] spEnd := by
  have e := hfa.symm.trans (PySem.W.mg_of X G a26)
  cases e
  have T : Txt mg ⟨K, X_ServeError, X_InvalidNumber, X_InvalidRow, X_InvalidLot, X_Undefined, (exm_of eX_ServeError icX_ServeError tX_ServeError sub_InvalidNumber_ServeError), (exm_of eX_ServeError icX_ServeError tX_ServeError sub_InvalidRow_ServeError), kit_self, (kit_of ne_InvalidRow_InvalidNumber icX_InvalidNumber tX_InvalidNumber sub_InvalidRow_InvalidNumber), (kit_of ne_InvalidRow_Undefined icX_Undefined tX_Undefined sub_InvalidRow_Undefined), (kit_of ne_InvalidRow_InvalidLot icX_InvalidLot tX_InvalidLot sub_InvalidRow_InvalidLot), (kit_of ne_InvalidNumber_InvalidRow icX_InvalidRow tX_InvalidRow sub_InvalidNumber_InvalidRow), kit_self, (kit_of ne_InvalidNumber_Undefined icX_Undefined tX_Undefined sub_InvalidNumber_Undefined), (kit_of ne_InvalidNumber_InvalidLot icX_InvalidLot tX_InvalidLot sub_InvalidNumber_InvalidLot), ⟨icX_InvalidRow, gaX_InvalidRow, ggX_InvalidRow, eX_InvalidRow, caX_InvalidRow, cgX, ctX, moX_InvalidRow⟩, ⟨icX_InvalidNumber, gaX_InvalidNumber, ggX_InvalidNumber, eX_InvalidNumber, caX_InvalidNumber, cgX, ctX, moX_InvalidNumber⟩, ⟨⟨gaX_InvalidRow, ggX_InvalidRow, eX_InvalidRow, hdX_InvalidRow⟩, nfX_InvalidRow_place⟩, ⟨⟨gaX_InvalidNumber, ggX_InvalidNumber, eX_InvalidNumber, hdX_InvalidNumber⟩, nfX_InvalidNumber_number⟩⟩ := ⟨PySem.W.mg_none_of X G z_abs,
    PySem.W.mg_none_of X G z_bool,
    PySem.W.mg_none_of X G z_enumerate,
    PySem.W.mg_none_of X G z_int,
    PySem.W.mg_none_of X G z_isinstance,
    PySem.W.mg_none_of X G z_len,
    PySem.W.mg_none_of X G z_list,
    PySem.W.mg_none_of X G z_max,
    PySem.W.mg_none_of X G z_min,
    PySem.W.mg_none_of X G z_range,
    PySem.W.mg_none_of X G z_repr,
    PySem.W.mg_none_of X G z_sorted,
    PySem.W.mg_none_of X G z_sum,
    PySem.W.mg_none_of X G z_tuple,
    ⟨_, _, fun_mk l3 c3 k3, PySem.W.mg_of X G a3, ((fun_mk l3 c3 k3).binds (ps := ["value"]) fun _ _ _ _ _ _ us hl => match us, hl with | [_], _ => rfl)⟩,
    ⟨_, _, fun_mk l4 c4 k4, PySem.W.mg_of X G a4, ((fun_mk l4 c4 k4).binds (ps := ["value", "least", "most"]) fun _ _ _ _ _ _ us hl => match us, hl with | [_, _, _], _ => rfl)⟩,
    ⟨_, _, fun_mk l5 c5 k5, PySem.W.mg_of X G a5, ((fun_mk l5 c5 k5).binds (ps := ["value"]) fun _ _ _ _ _ _ us hl => match us, hl with | [_], _ => rfl)⟩,
    ⟨_, _, fun_mk l6 c6 k6, PySem.W.mg_of X G a6, ((fun_mk l6 c6 k6).binds (ps := ["value", "least", "most"]) fun _ _ _ _ _ _ us hl => match us, hl with | [_, _, _], _ => rfl)⟩,
    ⟨_, _, fun_mk l7 c7 k7, PySem.W.mg_of X G a7, ((fun_mk l7 c7 k7).binds (ps := ["value", "least", "most"]) fun _ _ _ _ _ _ us hl => match us, hl with | [_, _, _], _ => rfl)⟩,
    ⟨_, _, fun_mk l8 c8 k8, PySem.W.mg_of X G a8, ((fun_mk l8 c8 k8).binds (ps := ["value", "most_members", "least", "most"]) fun _ _ _ _ _ _ us hl => match us, hl with | [_, _, _, _], _ => rfl)⟩,
    ⟨_, _, fun_mk l9 c9 k9, PySem.W.mg_of X G a9, ((fun_mk l9 c9 k9).binds (ps := ["needs", "lanes"]) fun _ _ _ _ _ _ us hl => match us, hl with | [_, _], _ => rfl)⟩,
    ⟨_, _, fun_mk l10 c10 k10, PySem.W.mg_of X G a10, ((fun_mk l10 c10 k10).binds (ps := ["row", "lanes"]) fun _ _ _ _ _ _ us hl => match us, hl with | [_, _], _ => rfl)⟩,
    ⟨_, _, fun_mk l11 c11 k11, PySem.W.mg_of X G a11, ((fun_mk l11 c11 k11).binds (ps := ["needs", "lanes"]) fun _ _ _ _ _ _ us hl => match us, hl with | [_, _], _ => rfl)⟩,
    ⟨_, _, fun_mk l12 c12 k12, PySem.W.mg_of X G a12, ((fun_mk l12 c12 k12).binds (ps := ["needs", "lanes"]) fun _ _ _ _ _ _ us hl => match us, hl with | [_, _], _ => rfl)⟩,
    ⟨_, _, fun_mk l13 c13 k13, PySem.W.mg_of X G a13, ((fun_mk l13 c13 k13).binds (ps := ["script"]) fun _ _ _ _ _ _ us hl => match us, hl with | [_], _ => rfl)⟩,
    ⟨_, _, fun_mk l14 c14 k14, PySem.W.mg_of X G a14, ((fun_mk l14 c14 k14).binds (ps := ["state", "many"]) fun _ _ _ _ _ _ us hl => match us, hl with | [_, _], _ => rfl)⟩,
    ⟨_, _, fun_mk l15 c15 k15, PySem.W.mg_of X G a15, ((fun_mk l15 c15 k15).binds (ps := ["x"]) fun _ _ _ _ _ _ us hl => match us, hl with | [_], _ => rfl)⟩,
    ⟨_, _, fun_mk l16 c16 k16, PySem.W.mg_of X G a16, ((fun_mk l16 c16 k16).binds (ps := ["wrong"]) fun _ _ _ _ _ _ us hl => match us, hl with | [_], _ => rfl)⟩,
    ⟨_, _, fun_mk l17 c17 k17, PySem.W.mg_of X G a17, ((fun_mk l17 c17 k17).binds (ps := ["state"]) fun _ _ _ _ _ _ us hl => match us, hl with | [_], _ => rfl)⟩,
    ⟨_, _, fun_mk l18 c18 k18, PySem.W.mg_of X G a18, ((fun_mk l18 c18 k18).binds (ps := ["state", "lanes", "more"]) fun _ _ _ _ _ _ us hl => match us, hl with | [_, _, _], _ => rfl)⟩,
    ⟨_, _, fun_mk l19 c19 k19, PySem.W.mg_of X G a19, ((fun_mk l19 c19 k19).binds (ps := ["state", "lanes"]) fun _ _ _ _ _ _ us hl => match us, hl with | [_, _], _ => rfl)⟩,
    ⟨_, _, fun_mk l20 c20 k20, PySem.W.mg_of X G a20, ((fun_mk l20 c20 k20).binds (ps := ["door", "needs", "lanes"]) fun _ _ _ _ _ _ us hl => match us, hl with | [_, _, _], _ => rfl)⟩,
    ⟨_, _, fun_mk l21 c21 k21, PySem.W.mg_of X G a21, ((fun_mk l21 c21 k21).binds (ps := ["value", "many"]) fun _ _ _ _ _ _ us hl => match us, hl with | [_, _], _ => rfl)⟩,
    ⟨_, _, fun_mk l22 c22 k22, PySem.W.mg_of X G a22, ((fun_mk l22 c22 k22).binds (ps := ["needs", "lanes", "ticks", "value"]) fun _ _ _ _ _ _ us hl => match us, hl with | [_, _, _, _], _ => rfl)⟩,
    ⟨_, _, fun_mk l23 c23 k23, PySem.W.mg_of X G a23, ((fun_mk l23 c23 k23).binds (ps := ["state", "needs", "lanes"]) fun _ _ _ _ _ _ us hl => match us, hl with | [_, _, _], _ => rfl)⟩,
    ⟨_, _, fun_mk l24 c24 k24, PySem.W.mg_of X G a24, ((fun_mk l24 c24 k24).binds (ps := ["state", "needs"]) fun _ _ _ _ _ _ us hl => match us, hl with | [_, _], _ => rfl)⟩,
    ⟨_, _, fun_mk l25 c25 k25, PySem.W.mg_of X G a25, ((fun_mk l25 c25 k25).binds (ps := ["state", "needs", "lanes"]) fun _ _ _ _ _ _ us hl => match us, hl with | [_, _, _], _ => rfl)⟩,
    ⟨_, _, fun_mk l26 c26 k26, PySem.W.mg_of X G a26, ((fun_mk l26 c26 k26).binds (ps := ["script"]) fun _ _ _ _ _ _ us hl => match us, hl with | [_], _ => rfl)⟩,
    ⟨_, _, fun_mk l11 c11 k11, PySem.W.mg_of X G a11, kb_mk (by decide) fun us ws h1 h2 => match us, ws, h1, h2 with | [], [_, _], _, _ => rfl⟩,
    ⟨_, _, fun_mk l12 c12 k12, PySem.W.mg_of X G a12, kb_mk (by decide) fun us ws h1 h2 => match us, ws, h1, h2 with | [], [_, _], _, _ => rfl⟩,
    ⟨_, PySem.W.mg_of X G cn_MOST_JOBS, tk_MOST_JOBS, rfl⟩,
    ⟨_, PySem.W.mg_of X G cn_MOST_LANES, tk_MOST_LANES, rfl⟩,
    ⟨_, PySem.W.mg_of X G cn_MOST_NEED, tk_MOST_NEED, rfl⟩,
    PySem.W.mg_of X G aX_InvalidLot,
    PySem.W.mg_of X G aX_InvalidNumber,
    PySem.W.mg_of X G aX_InvalidRow,
    PySem.W.mg_of X G aX_ServeError,
    PySem.W.mg_of X G aX_Undefined,
    ⟨⟨⟨nm1, q1, N1, bs1, _, sn1, sub1, ab1, col1, dd1, m01, m11, m21, m31, m51, xL1, by rfl⟩, saX_InvalidNumber, eX_InvalidNumber, tX_InvalidNumber, kcX_InvalidNumber⟩, nfX_InvalidNumber_number, PySem.W.mg_of X G aX_InvalidNumber, f1, _, fun_mk l1 c1 k1, iX_InvalidNumber, tfX_InvalidNumber, ((fun_mk l1 c1 k1).binds (ps := ["self", "number"]) fun _ _ _ _ _ _ us hl => match us, hl with | [_, _], _ => rfl)⟩,
    ⟨⟨⟨nm2, q2, N2, bs2, _, sn2, sub2, ab2, col2, dd2, m02, m12, m22, m32, m52, xL2, by rfl⟩, saX_InvalidRow, eX_InvalidRow, tX_InvalidRow, kcX_InvalidRow⟩, nfX_InvalidRow_place, PySem.W.mg_of X G aX_InvalidRow, f2, _, fun_mk l2 c2 k2, iX_InvalidRow, tfX_InvalidRow, ((fun_mk l2 c2 k2).binds (ps := ["self", "place"]) fun _ _ _ _ _ _ us hl => match us, hl with | [_, _], _ => rfl)⟩⟩
  exact ⟨PySem.W.fnOf "law" "law" (defArgs s_law) (defBody s_law) (defScope s_law) .none kV26 dc26 pm26 an26 cd26 ct26, fun s v => .of_eq rfl, fun base _ _ => okF_law T (fun_mk l26 c26 k26)⟩
end K19
open PySem PySem.W PyProof.Rows in
set_option maxRecDepth 100000 in
set_option maxHeartbeats 0 in
theorem PySem.Challenge.cw_everyasked_k19_whole_lane_plans_holds : PySem.Challenge.rw_everyasked_k19_whole_lane_plans.Holds := by
  w_on; o_law; k_head; (case hw => w_witness2)
  k_fill
  refine DL.walk_G (l := PySem.Challenge.rw_everyasked_k19_whole_lane_plans) (n := 63) (k := 9) (x := "script") (spec := K19.spEnd) rfl (by decide) rfl ⟨rfl, by decide, by decide⟩ (fun w h Y => PySem.W.kIn_of Y) ?F (fun _ H a ns hl hS => K19.spEnd_at hl hS)
  case F =>
    intro w mg fa h KX G hmg
    refine' K19.all_mk KX G hmg ?aX_ServeError ?aX_InvalidNumber ?aX_InvalidRow ?aX_InvalidLot ?aX_Undefined ?xL1 ?saX_InvalidNumber ?kcX_InvalidNumber ?iX_InvalidNumber ?tfX_InvalidNumber ?l1 ?c1 ?k1 ?eX_InvalidNumber ?tX_InvalidNumber ?nfX_InvalidNumber_number ?xL2 ?saX_InvalidRow ?kcX_InvalidRow ?iX_InvalidRow ?tfX_InvalidRow ?l2 ?c2 ?k2 ?eX_InvalidRow ?tX_InvalidRow ?nfX_InvalidRow_place ?cn_MOST_JOBS ?cn_MOST_NEED ?cn_MOST_LANES ?eX_ServeError ?icX_ServeError ?tX_ServeError ?sub_InvalidNumber_ServeError ?sub_InvalidRow_ServeError ?ne_InvalidRow_InvalidNumber ?icX_InvalidNumber ?sub_InvalidRow_InvalidNumber ?ne_InvalidRow_Undefined ?icX_Undefined ?tX_Undefined ?sub_InvalidRow_Undefined ?ne_InvalidRow_InvalidLot ?icX_InvalidLot ?tX_InvalidLot ?sub_InvalidRow_InvalidLot ?ne_InvalidNumber_InvalidRow ?icX_InvalidRow ?sub_InvalidNumber_InvalidRow ?ne_InvalidNumber_Undefined ?sub_InvalidNumber_Undefined ?ne_InvalidNumber_InvalidLot ?sub_InvalidNumber_InvalidLot ?caX_InvalidRow ?cgX ?ctX ?moX_InvalidRow ?gaX_InvalidRow ?ggX_InvalidRow ?caX_InvalidNumber ?moX_InvalidNumber ?gaX_InvalidNumber ?ggX_InvalidNumber ?hdX_InvalidRow ?hdX_InvalidNumber ?a3 ?l3 ?c3 ?k3 ?a4 ?l4 ?c4 ?k4 ?a5 ?l5 ?c5 ?k5 ?a6 ?l6 ?c6 ?k6 ?a7 ?l7 ?c7 ?k7 ?a8 ?l8 ?c8 ?k8 ?a9 ?l9 ?c9 ?k9 ?a10 ?l10 ?c10 ?k10 ?a11 ?l11 ?c11 ?k11 ?a12 ?l12 ?c12 ?k12 ?a13 ?l13 ?c13 ?k13 ?a14 ?l14 ?c14 ?k14 ?a15 ?l15 ?c15 ?k15 ?a16 ?l16 ?c16 ?k16 ?a17 ?l17 ?c17 ?k17 ?a18 ?l18 ?c18 ?k18 ?a19 ?l19 ?c19 ?k19 ?a20 ?l20 ?c20 ?k20 ?a21 ?l21 ?c21 ?k21 ?a22 ?l22 ?c22 ?k22 ?a23 ?l23 ?c23 ?k23 ?a24 ?l24 ?c24 ?k24 ?a25 ?l25 ?c25 ?k25 ?a26 ?l26 ?c26 ?k26 ?z_abs ?z_bool ?z_enumerate ?z_int ?z_isinstance ?z_len ?z_list ?z_max ?z_min ?z_range ?z_repr ?z_sorted ?z_sum ?z_tuple
    (case aX_ServeError => k_is)
    (case aX_InvalidNumber => k_is)
    (case aX_InvalidRow => k_is)
    (case aX_InvalidLot => k_is)
    (case aX_Undefined => k_is)
    (case xL1 => k_is)
    (case saX_InvalidNumber => k_is)
    (case kcX_InvalidNumber => k_is)
    (case iX_InvalidNumber => k_is)
    (case tfX_InvalidNumber => k_is)
    (case l1 => k_is)
    (case c1 => k_is)
    (case k1 => k_is)
    (case eX_InvalidNumber => k_is)
    (case tX_InvalidNumber => k_is)
    (case nfX_InvalidNumber_number => k_is)
    (case xL2 => k_is)
    (case saX_InvalidRow => k_is)
    (case kcX_InvalidRow => k_is)
    (case iX_InvalidRow => k_is)
    (case tfX_InvalidRow => k_is)
    (case l2 => k_is)
    (case c2 => k_is)
    (case k2 => k_is)
    (case eX_InvalidRow => k_is)
    (case tX_InvalidRow => k_is)
    (case nfX_InvalidRow_place => k_is)
    (case cn_MOST_JOBS => k_is)
    (case cn_MOST_NEED => k_is)
    (case cn_MOST_LANES => k_is)
    (case eX_ServeError => k_is)
    (case icX_ServeError => k_is)
    (case tX_ServeError => k_is)
    (case sub_InvalidNumber_ServeError => k_is)
    (case sub_InvalidRow_ServeError => k_is)
    (case ne_InvalidRow_InvalidNumber => decide)
    (case icX_InvalidNumber => k_is)
    (case sub_InvalidRow_InvalidNumber => k_is)
    (case ne_InvalidRow_Undefined => decide)
    (case icX_Undefined => k_is)
    (case tX_Undefined => k_is)
    (case sub_InvalidRow_Undefined => k_is)
    (case ne_InvalidRow_InvalidLot => decide)
    (case icX_InvalidLot => k_is)
    (case tX_InvalidLot => k_is)
    (case sub_InvalidRow_InvalidLot => k_is)
    (case ne_InvalidNumber_InvalidRow => decide)
    (case icX_InvalidRow => k_is)
    (case sub_InvalidNumber_InvalidRow => k_is)
    (case ne_InvalidNumber_Undefined => decide)
    (case sub_InvalidNumber_Undefined => k_is)
    (case ne_InvalidNumber_InvalidLot => decide)
    (case sub_InvalidNumber_InvalidLot => k_is)
    (case caX_InvalidRow => k_is)
    (case cgX => k_is)
    (case ctX => k_is)
    (case moX_InvalidRow => k_is)
    (case gaX_InvalidRow => k_is)
    (case ggX_InvalidRow => k_is)
    (case caX_InvalidNumber => k_is)
    (case moX_InvalidNumber => k_is)
    (case gaX_InvalidNumber => k_is)
    (case ggX_InvalidNumber => k_is)
    (case hdX_InvalidRow => k_is)
    (case hdX_InvalidNumber => k_is)
    (case a3 => k_is)
    (case l3 => k_is)
    (case c3 => k_is)
    (case k3 => k_is)
    (case a4 => k_is)
    (case l4 => k_is)
    (case c4 => k_is)
    (case k4 => k_is)
    (case a5 => k_is)
    (case l5 => k_is)
    (case c5 => k_is)
    (case k5 => k_is)
    (case a6 => k_is)
    (case l6 => k_is)
    (case c6 => k_is)
    (case k6 => k_is)
    (case a7 => k_is)
    (case l7 => k_is)
    (case c7 => k_is)
    (case k7 => k_is)
    (case a8 => k_is)
    (case l8 => k_is)
    (case c8 => k_is)
    (case k8 => k_is)
    (case a9 => k_is)
    (case l9 => k_is)
    (case c9 => k_is)
    (case k9 => k_is)
    (case a10 => k_is)
    (case l10 => k_is)
    (case c10 => k_is)
    (case k10 => k_is)
    (case a11 => k_is)
    (case l11 => k_is)
    (case c11 => k_is)
    (case k11 => k_is)
    (case a12 => k_is)
    (case l12 => k_is)
    (case c12 => k_is)
    (case k12 => k_is)
    (case a13 => k_is)
    (case l13 => k_is)
    (case c13 => k_is)
    (case k13 => k_is)
    (case a14 => k_is)
    (case l14 => k_is)
    (case c14 => k_is)
    (case k14 => k_is)
    (case a15 => k_is)
    (case l15 => k_is)
    (case c15 => k_is)
    (case k15 => k_is)
    (case a16 => k_is)
    (case l16 => k_is)
    (case c16 => k_is)
    (case k16 => k_is)
    (case a17 => k_is)
    (case l17 => k_is)
    (case c17 => k_is)
    (case k17 => k_is)
    (case a18 => k_is)
    (case l18 => k_is)
    (case c18 => k_is)
    (case k18 => k_is)
    (case a19 => k_is)
    (case l19 => k_is)
    (case c19 => k_is)
    (case k19 => k_is)
    (case a20 => k_is)
    (case l20 => k_is)
    (case c20 => k_is)
    (case k20 => k_is)
    (case a21 => k_is)
    (case l21 => k_is)
    (case c21 => k_is)
    (case k21 => k_is)
    (case a22 => k_is)
    (case l22 => k_is)
    (case c22 => k_is)
    (case k22 => k_is)
    (case a23 => k_is)
    (case l23 => k_is)
    (case c23 => k_is)
    (case k23 => k_is)
    (case a24 => k_is)
    (case l24 => k_is)
    (case c24 => k_is)
    (case k24 => k_is)
    (case a25 => k_is)
    (case l25 => k_is)
    (case c25 => k_is)
    (case k25 => k_is)
    (case a26 => k_is)
    (case l26 => k_is)
    (case c26 => k_is)
    (case k26 => k_is)
    (case z_abs => k_is)
    (case z_bool => k_is)
    (case z_enumerate => k_is)
    (case z_int => k_is)
    (case z_isinstance => k_is)
    (case z_len => k_is)
    (case z_list => k_is)
    (case z_max => k_is)
    (case z_min => k_is)
    (case z_range => k_is)
    (case z_repr => k_is)
    (case z_sorted => k_is)
    (case z_sum => k_is)
    (case z_tuple => k_is)
