import PyProof.Rows.All
import Wide.All
import OpenK.AllK
import Wide.FinOn
import HandS.ForMost
import HandS.ForExc
import HandS.IsInst
import KE.KeyNested
import HandS.Wide
import HandS.SortInts
import HandS.TupAny
import KE.GoesMore
import HandS.TupMul
import HandS.ExcInit
import HandS.ExcField
import HandS.ExcIs
import KE.KExcIs
import HandS.Small
import PyProof.Rows.TupDisplay
import HandS.TupLen
import KE.DataEq
import PyProof.SeqIndex
import KE.DataCmp
import PySem.Challenge.RW_everyasked_k93_whole_needless_stops
set_option Elab.async false
set_option linter.all false
set_option maxRecDepth 100000
set_option maxHeartbeats 2000000
/-! The data layer, part a: data trees, the abstract store, what stands for what. -/
namespace DL
open PySem PySem.Spec PyProof.Rows L2

/-- data: trees that never change; ref a: a mutable object of the store -/
inductive D where
  | non | bl (b : Bool) | int (i : Int) | str (x : Str) | ref (a : Addr)
  | lst (xs : List D) | tup (xs : List D) | fro (xs : List D) | obj (C : Addr) (N : List Str) (xs : List D)
  | exc (a dd C : Addr) (f : Str) (x : D)
/-- mutable objects; an instance: the names of its fields, their values -/
inductive MO where
  | lst (xs : List D) | ins (C : Addr) (N : List Str) (xs : List (Option D)) | dK (kvs : List (Key × D)) | dN (a : Addr) (kvs : List (D × D))
abbrev DE := List (Option D)
abbrev Sto := Addr → Option MO
def put (S : Sto) (a : Addr) (m : MO) : Sto := fun b => if b = a then some m else S b
def del (S : Sto) (a : Addr) : Sto := fun b => if b = a then none else S b
theorem put_same {S : Sto} {a : Addr} {m : MO} : put S a m a = some m := if_pos rfl
theorem put_ne {S : Sto} {a b : Addr} {m : MO} (h : b ≠ a) : put S a m b = S b := if_neg h
theorem put_put {S : Sto} {a : Addr} {m n : MO} : put (put S a m) a n = put S a n := by
  funext b; unfold put; split <;> rfl
theorem put_self {S : Sto} {a : Addr} {m : MO} (h : S a = some m) : put S a m = S := by
  funext b; unfold put; split
  · next e => rw [e, h]
  · rfl
theorem del_put {S : Sto} {a : Addr} {m : MO} (h : S a = none) : del (put S a m) a = S := by
  funext b; unfold del put
  by_cases e : b = a
  · rw [if_pos e, e, h]
  · rw [if_neg e, if_neg e]
theorem put_comm {S : Sto} {a b : Addr} {m n : MO} (h : a ≠ b) : put (put S a m) b n = put (put S b n) a m := by
  funext c; unfold put
  by_cases e1 : c = a
  · subst e1; rw [if_pos rfl, if_neg h]; rw [if_pos rfl]
  · by_cases e2 : c = b
    · rw [if_pos e2, if_neg e1, if_pos e2]
    · rw [if_neg e2, if_neg e1, if_neg e1, if_neg e2]
theorem ne_of_S {S : Sto} {a b : Addr} {m : MO} (h : S a = some m) (h' : S b = none) : a ≠ b := by
  intro e; subst e; rw [h] at h'; cases h'

mutual
def Rep (K : PySem.W.Frag) (W : Hp) : D → V → Prop
  | .non, v => v = .non
  | .bl b, v => v = .bl b
  | .int i, v => v = .int i
  | .str x, v => v = .str x
  | .ref a, v => v = .ref a
  | .lst xs, v => ∃ a vs, v = .ref a ∧ W a = some (.lst vs) ∧ Reps K W xs vs
  | .tup xs, v => ∃ a vs, v = .ref a ∧ SqT K W a vs ∧ Reps K W xs vs
  | .fro xs, v => ∃ a vs, v = .ref a ∧ SqL K W a vs ∧ Reps K W xs vs
  | .obj C N xs, v => ∃ a dx gs vs, v = .ref a ∧ W a = some (.ins C dx gs) ∧ (∀ (i : Nat) (f : Str), N[i]? = some f → gs.lookup f = vs[i]?) ∧ (∀ f : Str, f ∉ N → gs.lookup f = none) ∧ Reps K W xs vs
  | .exc a dd C f x, v => v = .ref a ∧ ∃ gs u, W dd = some (.xd gs) ∧ gs.lookup f = some u ∧ Rep K W x u
def Reps (K : PySem.W.Frag) (W : Hp) : List D → List V → Prop
  | [], vs => vs = []
  | d :: ds, vs => ∃ v r, vs = v :: r ∧ Rep K W d v ∧ Reps K W ds r
end
abbrev Repf (K : PySem.W.Frag) (W : Hp) (fs : List (Str × D)) (gs : List (Str × V)) : Prop := ∀ f d, fs.lookup f = some d → ∃ v, gs.lookup f = some v ∧ Rep K W d v
def Repk {κ : Type} (K : PySem.W.Frag) (W : Hp) : List (κ × D) → List (κ × V) → Prop
  | [], gs => gs = []
  | (f, d) :: ds, gs => ∃ v r, gs = (f, v) :: r ∧ Rep K W d v ∧ Repk K W ds r

section
variable {K : PySem.W.Frag} {W W' : Hp}
theorem sqL_mono (e : Same W W') {a : Addr} {vs : List V} (h : SqL K W a vs) : SqL K W' a vs := e.seq h
theorem sqT_mono (e : Same W W') {a : Addr} {vs : List V} (h : SqT K W a vs) : SqT K W' a vs := by
  rcases h with (h | ⟨o, h⟩) | h
  · exact .inl (.inl (e _ _ h))
  · exact .inl (.inr ⟨o, e _ _ h⟩)
  · exact .inr h
mutual
theorem Rep.mono (e : Same W W') : ∀ {d : D} {v : V}, Rep K W d v → Rep K W' d v
  | .non, _, h => h
  | .bl _, _, h => h
  | .int _, _, h => h
  | .str _, _, h => h
  | .ref _, _, h => h
  | .lst _, _, ⟨a, vs, e1, e2, e3⟩ => ⟨a, vs, e1, e _ _ e2, Reps.mono e e3⟩
  | .tup _, _, ⟨a, vs, e1, e2, e3⟩ => ⟨a, vs, e1, sqT_mono e e2, Reps.mono e e3⟩
  | .fro _, _, ⟨a, vs, e1, e2, e3⟩ => ⟨a, vs, e1, sqL_mono e e2, Reps.mono e e3⟩
  | .obj _ _ _, _, ⟨a, dx, gs, vs, e1, e2, e4, e5, e3⟩ => ⟨a, dx, gs, vs, e1, e _ _ e2, e4, e5, Reps.mono e e3⟩
  | .exc _ _ _ _ _, _, ⟨e1, gs, u, e2, e3, e4⟩ => ⟨e1, gs, u, e _ _ e2, e3, Rep.mono e e4⟩
theorem Reps.mono (e : Same W W') : ∀ {ds : List D} {vs : List V}, Reps K W ds vs → Reps K W' ds vs
  | [], _, h => h
  | _ :: _, _, ⟨v, r, e1, e2, e3⟩ => ⟨v, r, e1, Rep.mono e e2, Reps.mono e e3⟩
end
theorem Repk.mono {κ : Type} (e : Same W W') : ∀ {ds : List (κ × D)} {vs : List (κ × V)}, Repk K W ds vs → Repk K W' ds vs
  | [], _, h => h
  | (_, _) :: _, _, ⟨v, r, e1, e2, e3⟩ => ⟨v, r, e1, Rep.mono e e2, Repk.mono e e3⟩
theorem Reps.length : ∀ {ds : List D} {vs : List V}, Reps K W ds vs → vs.length = ds.length
  | [], _, h => by rw [show _ = [] from h]; rfl
  | _ :: ds, _, ⟨v, r, e1, e2, e3⟩ => by
    subst e1
    show r.length + 1 = ds.length + 1
    rw [Reps.length e3]
theorem Reps.get : ∀ {ds : List D} {vs : List V} {i : Nat} {d : D}, Reps K W ds vs → ds[i]? = some d → ∃ v, vs[i]? = some v ∧ Rep K W d v
  | [], _, _, _, _, e => by simp at e
  | _ :: _, _, 0, _, ⟨v, r, e1, e2, e3⟩, e => by
    subst e1
    have e' := Option.some.inj e
    subst e'
    exact ⟨v, rfl, e2⟩
  | _ :: _, _, i + 1, _, ⟨v, r, e1, e2, e3⟩, e => by
    subst e1
    exact Reps.get (i := i) e3 e
theorem Reps.append : ∀ {ds es : List D} {vs ws : List V}, Reps K W ds vs → Reps K W es ws → Reps K W (ds ++ es) (vs ++ ws)
  | [], _, _, _, h, h' => by
    rw [show _ = [] from h]
    exact h'
  | _ :: _, _, _, _, ⟨v, r, e1, e2, e3⟩, h' => by
    subst e1
    exact ⟨v, _, rfl, e2, Reps.append e3 h'⟩
theorem Reps.one {d : D} {v : V} (h : Rep K W d v) : Reps K W [d] [v] := ⟨v, [], rfl, h, rfl⟩
theorem Reps.take : ∀ {ds : List D} {vs : List V} (n : Nat), Reps K W ds vs → Reps K W (ds.take n) (vs.take n)
  | [], _, n, h => by
    rw [show _ = [] from h, List.take_nil, List.take_nil]; rfl
  | _ :: _, _, 0, _ => by rw [List.take_zero, List.take_zero]; rfl
  | _ :: _, _, n + 1, ⟨v, r, e1, e2, e3⟩ => by
    subst e1
    exact ⟨v, _, rfl, e2, Reps.take n e3⟩
theorem Reps.drop : ∀ {ds : List D} {vs : List V} (n : Nat), Reps K W ds vs → Reps K W (ds.drop n) (vs.drop n)
  | [], _, n, h => by
    rw [show _ = [] from h, List.drop_nil, List.drop_nil]; rfl
  | _ :: _, _, 0, h => h
  | _ :: _, _, n + 1, ⟨v, r, e1, e2, e3⟩ => by
    subst e1
    exact Reps.drop n e3
theorem Reps.set {d : D} {v : V} (h : Rep K W d v) : ∀ {ds : List D} {vs : List V} (i : Nat), Reps K W ds vs → Reps K W (ds.set i d) (vs.set i v)
  | [], _, _, h' => by
    rw [show _ = [] from h']; rfl
  | _ :: _, _, 0, ⟨_, r, e1, e2, e3⟩ => by
    subst e1
    exact ⟨v, r, rfl, h, e3⟩
  | _ :: _, _, i + 1, ⟨w, r, e1, e2, e3⟩ => by
    subst e1
    exact ⟨w, _, rfl, e2, Reps.set h i e3⟩
theorem Repf.mono (e : Same W W') {fs : List (Str × D)} {gs : List (Str × V)} (h : Repf K W fs gs) : Repf K W' fs gs := fun f d q => by
  obtain ⟨v, a, b⟩ := h f d q
  exact ⟨v, a, b.mono e⟩
/-- slots of an environment, fields of an instance -/
def getV : DE → Nat → Option D
  | [], _ => none
  | x :: _, 0 => x
  | _ :: r, i + 1 => getV r i
def setV : DE → Nat → D → DE
  | [], _, _ => []
  | _ :: r, 0, d => some d :: r
  | x :: r, i + 1, d => x :: setV r i d
def cntV : DE → Nat
  | [] => 0
  | none :: r => cntV r
  | some _ :: r => cntV r + 1
theorem getV_setV : ∀ {e : DE} {i j : Nat} {d x : D}, getV (setV e i d) j = some x → (j = i ∧ x = d) ∨ (j ≠ i ∧ getV e j = some x)
  | [], _, _, _, _, h => by cases h
  | _ :: r, 0, 0, d, x, h => .inl ⟨rfl, (Option.some.inj h).symm⟩
  | _ :: r, 0, j + 1, d, x, h => .inr ⟨Nat.succ_ne_zero j, h⟩
  | y :: r, i + 1, 0, d, x, h => .inr ⟨(Nat.succ_ne_zero i).symm, h⟩
  | y :: r, i + 1, j + 1, d, x, h => by
    rcases getV_setV (e := r) (i := i) (j := j) h with ⟨a, b⟩ | ⟨a, b⟩
    · exact .inl ⟨by rw [a], b⟩
    · exact .inr ⟨fun z => a (Nat.succ.inj z), b⟩
theorem getV_set_ne : ∀ {e : DE} {i j : Nat} {d : D}, j ≠ i → getV (setV e i d) j = getV e j
  | [], _, _, _, _ => rfl
  | _ :: r, 0, 0, d, h => absurd rfl h
  | _ :: r, 0, j + 1, d, h => rfl
  | y :: r, i + 1, 0, d, h => rfl
  | y :: r, i + 1, j + 1, d, h => getV_set_ne (e := r) (i := i) (j := j) fun z => h (by rw [z])
theorem getV_set_same : ∀ {e : DE} {i : Nat} {d : D}, i < e.length → getV (setV e i d) i = some d
  | [], _, _, h => absurd h (Nat.not_lt_zero _)
  | _ :: r, 0, d, _ => rfl
  | y :: r, i + 1, d, h => getV_set_same (e := r) (i := i) (Nat.lt_of_succ_lt_succ h)
theorem setV_length : ∀ {e : DE} {i : Nat} {d : D}, (setV e i d).length = e.length
  | [], _, _ => rfl
  | _ :: r, 0, d => rfl
  | y :: r, i + 1, d => congrArg (· + 1) (setV_length (e := r) (i := i))
theorem cntV_le : ∀ e : DE, cntV e ≤ e.length
  | [] => Nat.le_refl _
  | none :: r => Nat.le_succ_of_le (cntV_le r)
  | some _ :: r => Nat.succ_le_succ (cntV_le r)
theorem cntV_none : ∀ {e : DE} {i : Nat} {d : D}, i < e.length → getV e i = none → cntV (setV e i d) = cntV e + 1
  | [], _, _, h, _ => absurd h (Nat.not_lt_zero _)
  | none :: r, 0, d, _, _ => rfl
  | some _ :: r, 0, d, _, h => by cases h
  | none :: r, i + 1, d, h, q => cntV_none (e := r) (i := i) (Nat.lt_of_succ_lt_succ h) q
  | some _ :: r, i + 1, d, h, q => congrArg (· + 1) (cntV_none (e := r) (i := i) (Nat.lt_of_succ_lt_succ h) q)
theorem cntV_some : ∀ {e : DE} {i : Nat} {d x : D}, getV e i = some x → cntV (setV e i d) = cntV e
  | [], _, _, _, h => by cases h
  | none :: r, 0, d, _, h => by cases h
  | some _ :: r, 0, d, _, h => rfl
  | none :: r, i + 1, d, _, q => cntV_some (e := r) (i := i) q
  | some _ :: r, i + 1, d, _, q => congrArg (· + 1) (cntV_some (e := r) (i := i) q)
theorem putF_len {f : Str} {v w : V} : ∀ {gs : List (Str × V)}, gs.lookup f = some w → (putF f v gs).length = gs.length
  | [], h => by cases h
  | (g, x) :: r, h => by
    show (if g = f then (g, v) :: r else (g, x) :: putF f v r).length = r.length + 1
    by_cases q : g = f
    · rw [if_pos q]; rfl
    · rw [if_neg q]
      have hb : (f == g) = false := beq_eq_false_iff_ne.mpr fun z => q z.symm
      rw [List.lookup_cons, hb] at h
      show (putF f v r).length + 1 = r.length + 1
      rw [putF_len (gs := r) h]
/-- an instance's fields -/
structure FRep (K : PySem.W.Frag) (W : Hp) (N : List Str) (xs : DE) (gs : List (Str × V)) : Prop where
  nd : N.Nodup
  few : N.length ≤ 900
  len : xs.length = N.length
  is : ∀ (i : Nat) (f : Str) (d : D), N[i]? = some f → getV xs i = some d → ∃ v, gs.lookup f = some v ∧ Rep K W d v
  no : ∀ (i : Nat) (f : Str), N[i]? = some f → getV xs i = none → gs.lookup f = none
  out : ∀ f : Str, f ∉ N → gs.lookup f = none
  cnt : gs.length ≤ cntV xs
theorem FRep.mono (e : Same W W') {N : List Str} {xs : DE} {gs : List (Str × V)} (h : FRep K W N xs gs) : FRep K W' N xs gs :=
  ⟨h.nd, h.few, h.len, fun i f d a b => by
    obtain ⟨v, c, r⟩ := h.is i f d a b
    exact ⟨v, c, r.mono e⟩, h.no, h.out, h.cnt⟩
theorem FRep.lt {N : List Str} {xs : DE} {gs : List (Str × V)} (h : FRep K W N xs gs) : gs.length < 1000 := by
  have a := h.cnt
  have b := cntV_le xs
  have c := h.len
  have d := h.few
  omega
theorem FRep.put {N : List Str} {xs : DE} {gs : List (Str × V)} (h : FRep K W N xs gs) {i : Nat} {f : Str} {d : D} {v : V} (hi : N[i]? = some f) (r : Rep K W d v) : FRep K W N (setV xs i d) (putF f v gs) := by
  have hlt : i < N.length := (List.getElem?_eq_some_iff.mp hi).1
  have hlx : i < xs.length := by rw [h.len]; exact hlt
  refine ⟨h.nd, h.few, by rw [setV_length]; exact h.len, fun j g x hj hx => ?_, fun j g hj hx => ?_, fun g hg => ?_, ?_⟩
  · rw [lookup_putF]
    rcases getV_setV hx with ⟨a, b⟩ | ⟨a, b⟩
    · subst a b
      rw [hi] at hj
      cases hj
      exact ⟨v, if_pos rfl, r⟩
    · have ne : g ≠ f := fun z => a (by subst z; exact nodup_ix h.nd hj hi)
      obtain ⟨w, c, rr⟩ := h.is j g x hj b
      exact ⟨w, by rw [if_neg ne]; exact c, rr⟩
  · rw [lookup_putF]
    by_cases e : j = i
    · subst e
      rw [getV_set_same hlx] at hx
      cases hx
    · rw [getV_set_ne e] at hx
      have ne : g ≠ f := fun z => e (by subst z; exact nodup_ix h.nd hj hi)
      rw [if_neg ne]
      exact h.no j g hj hx
  · have ne : g ≠ f := fun z => hg (by subst z; exact List.mem_of_getElem? hi)
    rw [lookup_putF, if_neg ne]
    exact h.out g hg
  · cases q : getV xs i with
    | none =>
      rw [cntV_none hlx q]
      exact Nat.le_trans (length_putF f v gs) (Nat.succ_le_succ h.cnt)
    | some x =>
      obtain ⟨w, c, _⟩ := h.is i f x hi q
      rw [cntV_some q, putF_len c]
      exact h.cnt
end

/-! ### keys: tuples of ints, bools, None and of such tuples -/
mutual
def nkD : D → Option NestedKey
  | .non => some .none
  | .bl b => some (.num (if b = true then 1 else 0))
  | .int i => some (.num i)
  | .tup xs => (nksD xs).map NestedKey.tup
  | _ => none
def nksD : List D → Option (List NestedKey)
  | [] => some []
  | d :: r => (nkD d).bind fun k => (nksD r).map (k :: ·)
end
mutual
def khash : NestedKey → Int
  | .none => reduceHash 0xFCA86420
  | .num i => hashInt i
  | .text _ => 0
  | .tup ks => reduceHash (Builtin.Tuple.tupleHashOf (khashes ks))
def khashes : List NestedKey → List Int
  | [] => []
  | k :: ks => khash k :: khashes ks
end
/-- a dict's object: its entries -/
def dnP (a : Addr) (xs : List (NestedKey × Addr × Value)) : Heap → Prop := fun h => ∃ ob es ep, h.get? a = some ob ∧ ob.ExactDict ∧ ob.data = .dict es ep ∧ es.toList = xs.map fun x => ⟨khash x.1, .ref x.2.1, x.2.2⟩
def DN (K : PySem.W.Frag) (W : Hp) : List (D × D) → List (NestedKey × Addr × Value) → Prop
  | [], xs => xs = []
  | p :: r, xs => ∃ k b u v r', xs = (k, b, u) :: r' ∧ (nkD p.1 = some k ∧ k.depth ≤ 8) ∧ Rep K W p.1 (.ref b) ∧ (Rep K W p.2 v ∧ RelV v u) ∧ DN K W r r'
theorem DN.mono {K : PySem.W.Frag} {W W' : Hp} (e : Same W W') : ∀ {ds : List (D × D)} {xs : List (NestedKey × Addr × Value)}, DN K W ds xs → DN K W' ds xs
  | [], _, h => h
  | _ :: _, _, ⟨k, b, u, v, r', e1, e2, e3, ⟨e4, e5⟩, e6⟩ => ⟨k, b, u, v, r', e1, e2, e3.mono e, ⟨e4.mono e, e5⟩, DN.mono e e6⟩
/-- what stands at a mutable object's address -/
def MRep (K : PySem.W.Frag) (W : Hp) : MO → HO → Prop
  | .lst xs, o => ∃ vs, o = .lst vs ∧ Reps K W xs vs
  | .ins C N xs, o => ∃ dx gs, o = .ins C dx gs ∧ FRep K W N xs gs
  | .dK kvs, o => ∃ ws, o = .dK ws ∧ Repk K W kvs ws
  | .dN a kvs, o => ∃ xs, o = .ext (dnP a xs) ∧ (kvs.length ≤ sizeLine ∧ (a == sysModules) = false ∧ (xs.map (·.1)).Nodup) ∧ DN K W kvs xs
theorem MRep.mono {K : PySem.W.Frag} {W W' : Hp} (e : Same W W') : ∀ {m : MO} {o : HO}, MRep K W m o → MRep K W' m o
  | .lst _, _, ⟨vs, e1, e2⟩ => ⟨vs, e1, Reps.mono e e2⟩
  | .ins _ _ _, _, ⟨dx, gs, e1, e2⟩ => ⟨dx, gs, e1, e2.mono e⟩
  | .dK _, _, ⟨ws, e1, e2⟩ => ⟨ws, e1, Repk.mono e e2⟩
  | .dN _ _, _, ⟨xs, e1, z, e2⟩ => ⟨xs, e1, z, DN.mono e e2⟩
/-- the heap: what is seen and never changes (W), the store (S) -/
structure Ok (K : PySem.W.Frag) (W : Hp) (S : Sto) (H : Hp) : Prop where
  vis : Same W H
  sto : ∀ a m, S a = some m → ∃ o, H a = some o ∧ MRep K W m o
  sep : ∀ a m, S a = some m → W a = none
def delV : DE → Nat → DE
  | [], _ => []
  | _ :: r, 0 => none :: r
  | x :: r, i + 1 => x :: delV r i
def Sl (K : PySem.W.Frag) (W : Hp) (e : DE) (σ : L2.St) : Prop := ∀ i d, getV e i = some d → ∃ v, σ[i]? = some (some v) ∧ Rep K W d v
theorem getV_delV : ∀ {e : DE} {i j : Nat} {x : D}, getV (delV e i) j = some x → j ≠ i ∧ getV e j = some x
  | [], _, _, _, h => by cases h
  | _ :: r, 0, 0, x, h => by cases h
  | _ :: r, 0, j + 1, x, h => ⟨Nat.succ_ne_zero j, h⟩
  | y :: r, i + 1, 0, x, h => ⟨(Nat.succ_ne_zero i).symm, h⟩
  | y :: r, i + 1, j + 1, x, h => by
    obtain ⟨a, b⟩ := getV_delV (e := r) (i := i) (j := j) h
    exact ⟨fun z => a (Nat.succ.inj z), b⟩
section
variable {K : PySem.W.Frag} {W W' : Hp} {S : Sto} {H : Hp} {e : DE} {σ : L2.St}
theorem Sl.mono (z : Same W W') (h : Sl K W e σ) : Sl K W' e σ := fun i d q => by
  obtain ⟨v, a, b⟩ := h i d q
  exact ⟨v, a, b.mono z⟩
theorem lt_of_some {α : Type} {l : List α} {i : Nat} {x : α} (h : l[i]? = some x) : i < l.length := (List.getElem?_eq_some_iff.mp h).1
theorem Sl.set {i : Nat} {d : D} {v : V} (h : Sl K W e σ) (hi : i < σ.length) (r : Rep K W d v) : Sl K W (setV e i d) (σ.set i (some v)) := fun j x q => by
  rcases getV_setV q with ⟨a, b⟩ | ⟨a, b⟩
  · subst a b
    exact ⟨v, List.getElem?_set_self hi, r⟩
  · obtain ⟨w, c, f⟩ := h j x b
    exact ⟨w, by rw [List.getElem?_set_ne (Ne.symm a)]; exact c, f⟩
theorem Ok.fresh (ok : Ok K W S H) {p : Addr} (h : H p = none) : W p = none ∧ S p = none := by
  constructor
  · cases q : W p with
    | none => rfl
    | some o => rw [ok.vis _ _ q] at h; cases h
  · cases q : S p with
    | none => rfl
    | some m =>
      obtain ⟨o, e, _⟩ := ok.sto _ _ q
      rw [e] at h; cases h
theorem same_new {p : Addr} {o : HO} (h : W p = none) : Same W (upd W p o) := fun b x e => by
  rw [upd_ne (ne_of_none e h)]
  exact e
/-- a new object that never changes -/
theorem Ok.newW (ok : Ok K W S H) {p : Addr} {o : HO} (h : H p = none) : Ok K (upd W p o) S (upd H p o) := by
  obtain ⟨hW, hS⟩ := ok.fresh h
  refine ⟨fun b x e => ?_, fun a m e => ?_, fun a m e => ?_⟩
  · by_cases q : b = p
    · subst q; rw [upd_same] at e ⊢; exact e
    · rw [upd_ne q] at e ⊢; exact ok.vis _ _ e
  · obtain ⟨x, e1, e2⟩ := ok.sto _ _ e
    refine ⟨x, ?_, e2.mono (same_new hW)⟩
    rw [upd_ne (ne_of_S e hS)]; exact e1
  · rw [upd_ne (ne_of_S e hS)]; exact ok.sep _ _ e
/-- a new mutable object -/
theorem Ok.newS (ok : Ok K W S H) {p : Addr} {o : HO} {m : MO} (h : H p = none) (r : MRep K W m o) : Ok K W (put S p m) (upd H p o) := by
  obtain ⟨hW, hS⟩ := ok.fresh h
  refine ⟨fun b x e => ?_, fun a n e => ?_, fun a n e => ?_⟩
  · rw [upd_ne (ne_of_none e hW)]; exact ok.vis _ _ e
  · by_cases q : a = p
    · subst q
      rw [put_same] at e
      cases e
      exact ⟨o, upd_same, r⟩
    · rw [put_ne q] at e
      obtain ⟨x, e1, e2⟩ := ok.sto _ _ e
      exact ⟨x, by rw [upd_ne q]; exact e1, e2⟩
  · by_cases q : a = p
    · subst q; exact hW
    · rw [put_ne q] at e; exact ok.sep _ _ e
/-- a mutable object changes -/
theorem Ok.chg (ok : Ok K W S H) {p : Addr} {o : HO} {m m0 : MO} (h : S p = some m0) (r : MRep K W m o) : Ok K W (put S p m) (upd H p o) := by
  have hW := ok.sep _ _ h
  refine ⟨fun b x e => ?_, fun a n e => ?_, fun a n e => ?_⟩
  · rw [upd_ne (ne_of_none e hW)]; exact ok.vis _ _ e
  · by_cases q : a = p
    · subst q
      rw [put_same] at e
      cases e
      exact ⟨o, upd_same, r⟩
    · rw [put_ne q] at e
      obtain ⟨x, e1, e2⟩ := ok.sto _ _ e
      exact ⟨x, by rw [upd_ne q]; exact e1, e2⟩
  · by_cases q : a = p
    · subst q; exact hW
    · rw [put_ne q] at e; exact ok.sep _ _ e
/-- a mutable object is thrown out of the store -/
theorem Ok.less (ok : Ok K W S H) {S' : Sto} (h : ∀ a m, S' a = some m → S a = some m) : Ok K W S' H :=
  ⟨ok.vis, fun a m e => ok.sto a m (h a m e), fun a m e => ok.sep a m (h a m e)⟩
theorem Ok.del (ok : Ok K W S H) (a : Addr) : Ok K W (del S a) H := ok.less fun b m e => by
  unfold DL.del at e
  by_cases q : b = a
  · rw [if_pos q] at e; cases e
  · rw [if_neg q] at e; exact e
/-- a mutable object never changes again -/
theorem Ok.frz (ok : Ok K W S H) {a : Addr} {m : MO} {o : HO} (h : S a = some m) (ho : H a = some o) : Ok K (upd W a o) (DL.del S a) H := by
  have hW := ok.sep _ _ h
  refine ⟨fun b x e => ?_, fun b n e => ?_, fun b n e => ?_⟩
  · by_cases q : b = a
    · subst q; rw [upd_same] at e; cases e; exact ho
    · rw [upd_ne q] at e; exact ok.vis _ _ e
  · unfold DL.del at e
    by_cases q : b = a
    · rw [if_pos q] at e; cases e
    · rw [if_neg q] at e
      obtain ⟨x, e1, e2⟩ := ok.sto _ _ e
      exact ⟨x, e1, e2.mono (same_new hW)⟩
  · unfold DL.del at e
    by_cases q : b = a
    · rw [if_pos q] at e; cases e
    · rw [if_neg q] at e
      rw [upd_ne q]; exact ok.sep _ _ e
end
end DL
set_option Elab.async false
set_option linter.all false
set_option maxRecDepth 100000
set_option maxHeartbeats 2000000
/-! The data layer, part b: judgements over data, expressions, statements, calls. -/
namespace DL
open PySem PySem.Spec PyProof.Rows L2

/-- what a step keeps: what is seen, and what belongs to nobody here -/
structure Stp (W : Hp) (S : Sto) (H : Hp) (W' : Hp) (S' : Sto) (H' : Hp) : Prop where
  vis : Same W W'
  frm : ∀ a o, H a = some o → W a = none → S a = none → H' a = some o ∧ W' a = none ∧ S' a = none
theorem Stp.refl {W : Hp} {S : Sto} {H : Hp} : Stp W S H W S H := ⟨Same.refl W, fun _ _ h1 h2 h3 => ⟨h1, h2, h3⟩⟩
theorem Stp.trans {W W1 W2 : Hp} {S S1 S2 : Sto} {H H1 H2 : Hp} (a : Stp W S H W1 S1 H1) (b : Stp W1 S1 H1 W2 S2 H2) : Stp W S H W2 S2 H2 :=
  ⟨a.vis.trans b.vis, fun p o h1 h2 h3 => let ⟨x, y, z⟩ := a.frm p o h1 h2 h3; b.frm p o x y z⟩
section
variable {K : PySem.W.Frag} {W : Hp} {S : Sto} {H : Hp} {p : Addr} {o : HO} {m m0 : MO}
theorem Ok.stW (ok : Ok K W S H) (h : H p = none) : Stp W S H (upd W p o) S (upd H p o) :=
  ⟨same_new (ok.fresh h).1, fun a x h1 h2 h3 => by
    have ne : a ≠ p := ne_of_none h1 h
    exact ⟨by rw [upd_ne ne]; exact h1, by rw [upd_ne ne]; exact h2, h3⟩⟩
theorem Ok.stS (ok : Ok K W S H) (h : H p = none) : Stp W S H W (put S p m) (upd H p o) :=
  ⟨Same.refl W, fun a x h1 h2 h3 => by
    have ne : a ≠ p := ne_of_none h1 h
    exact ⟨by rw [upd_ne ne]; exact h1, h2, by rw [put_ne ne]; exact h3⟩⟩
theorem Ok.stJ (ok : Ok K W S H) (h : H p = none) : Stp W S H W S (upd H p o) :=
  ⟨Same.refl W, fun a x h1 h2 h3 => ⟨by rw [upd_ne (ne_of_none h1 h)]; exact h1, h2, h3⟩⟩
theorem Ok.stC (ok : Ok K W S H) (h : S p = some m0) : Stp W S H W (put S p m) (upd H p o) :=
  ⟨Same.refl W, fun a x h1 h2 h3 => by
    have ne : a ≠ p := fun e => by subst e; rw [h] at h3; cases h3
    exact ⟨by rw [upd_ne ne]; exact h1, h2, by rw [put_ne ne]; exact h3⟩⟩
theorem Ok.stF (ok : Ok K W S H) (h : S p = some m0) : Stp W S H (upd W p o) (DL.del S p) H :=
  ⟨same_new (ok.sep _ _ h), fun a x h1 h2 h3 => by
    have ne : a ≠ p := fun e => by subst e; rw [h] at h3; cases h3
    exact ⟨h1, by rw [upd_ne ne]; exact h2, by unfold DL.del; rw [if_neg ne]; exact h3⟩⟩
end
abbrev XQ := Addr → List (Str × D) → Sto → Prop
abbrev Qd := D → Sto → Prop
abbrev WPe := DE → Sto → Qd → XQ → Prop
abbrev WPt := DE → Sto → (Bool → Sto → Prop) → XQ → Prop
abbrev WPa := DE → Sto → (List D → Sto → Prop) → XQ → Prop
structure QS where
  nx : DE → Sto → Prop
  rt : D → Sto → Prop
  bk : DE → Sto → Prop
  ct : DE → Sto → Prop
  xc : Addr → List (Str × D) → DE → Sto → Prop
abbrev WPs := DE → Sto → QS → Prop
abbrev Ctr := List D → Sto → Qd → XQ → Prop
def X0 : XQ := fun _ _ _ => False
def some! {α : Type} (o : Option α) (k : α → Prop) : Prop := match o with | some a => k a | none => False
theorem some!_ex {α : Type} {o : Option α} {k : α → Prop} (h : some! o k) : ∃ a, o = some a ∧ k a := by
  cases o with
  | none => exact h.elim
  | some a => exact ⟨a, rfl, h⟩

section
variable (K : PySem.W.Frag)
def CV (W : Hp) (S : Sto) (H : Hp) (Q0 : Qd) (Q : VK) : Prop := ∀ d S' v W' H', Q0 d S' → Stp W S H W' S' H' → Ok K W' S' H' → Rep K W' d v → Q v H'
def CVs (W : Hp) (S : Sto) (H : Hp) (Q0 : List D → Sto → Prop) (Q : List V → Hp → Prop) : Prop := ∀ d S' v W' H', Q0 d S' → Stp W S H W' S' H' → Ok K W' S' H' → Reps K W' d v → Q v H'
def CB (W : Hp) (S : Sto) (H : Hp) (Q0 : Bool → Sto → Prop) (Q : Bool → Hp → Prop) : Prop := ∀ b S' W' H', Q0 b S' → Stp W S H W' S' H' → Ok K W' S' H' → Q b H'
def CXc (W : Hp) (S : Sto) (H : Hp) (X0 : XQ) (E : XK) : Prop := ∀ C fs S' dd gs W' H', X0 C fs S' → Stp W S H W' S' H' → Ok K W' S' H' → W' dd = some (.xd gs) → Repf K W' fs gs → E (.ref C) (some dd) H'
def lE (Wx : WX) (w : WPe) : TE := fun σ H Q => ∃ W env S Q0 X0, Ok K W S H ∧ Sl K W env σ ∧ w env S Q0 X0 ∧ CV K W S H Q0 Q ∧ CXc K W S H X0 (fun c d H' => Wx c d σ H')
def lT (Wx : WX) (w : WPt) : TT := fun σ H Q => ∃ W env S Q0 X0, Ok K W S H ∧ Sl K W env σ ∧ w env S Q0 X0 ∧ CB K W S H Q0 Q ∧ CXc K W S H X0 (fun c d H' => Wx c d σ H')
def lA (Wx : WX) (w : WPa) : TA := fun σ H Q => ∃ W env S Q0 X0, Ok K W S H ∧ Sl K W env σ ∧ w env S Q0 X0 ∧ CVs K W S H Q0 Q ∧ CXc K W S H X0 (fun c d H' => Wx c d σ H')
structure CS (Wx : WX) (W : Hp) (S : Sto) (H : Hp) (q : QS) (D : Ends) : Prop where
  nx : ∀ e S' σ' W' H', q.nx e S' → Stp W S H W' S' H' → Ok K W' S' H' → Sl K W' e σ' → D.nx σ' H'
  rt : ∀ d S' v W' H', q.rt d S' → Stp W S H W' S' H' → Ok K W' S' H' → Rep K W' d v → D.rt v H'
  bk : ∀ e S' σ' W' H', q.bk e S' → Stp W S H W' S' H' → Ok K W' S' H' → Sl K W' e σ' → D.bk σ' H'
  ct : ∀ e S' σ' W' H', q.ct e S' → Stp W S H W' S' H' → Ok K W' S' H' → Sl K W' e σ' → D.ct σ' H'
  xc : ∀ C fs e S' dd gs σ' W' H', q.xc C fs e S' → Stp W S H W' S' H' → Ok K W' S' H' → Sl K W' e σ' → W' dd = some (.xd gs) → Repf K W' fs gs → Wx (.ref C) (some dd) σ' H'
def lS (Wx : WX) (n : Nat) (w : WPs) : TS := fun D σ H => ∃ W env S q, Ok K W S H ∧ Sl K W env σ ∧ σ.length = n ∧ w env S q ∧ CS K Wx W S H q { D with nx := fun σ' H' => σ'.length = n → D.nx σ' H', bk := fun σ' H' => σ'.length = n → D.bk σ' H', ct := fun σ' H' => σ'.length = n → D.ct σ' H' }
def lSp (spec : Ctr) : Sp := fun vs H Q E => ∃ W S ds Q0 X0, Ok K W S H ∧ Reps K W ds vs ∧ spec ds S Q0 X0 ∧ CV K W S H Q0 Q ∧ CXc K W S H X0 E
/-- an operation on two values -/
abbrev O2 := Sto → D → D → Qd → Prop
def lOp (o : O2) : R2 := fun x y H Q => ∃ W S a b Q0, Ok K W S H ∧ Rep K W a x ∧ Rep K W b y ∧ o S a b Q0 ∧ CV K W S H Q0 Q
/-- a call of a built-in on values -/
abbrev OC := Sto → List D → Qd → Prop
def lC (o : OC) : List V → Hp → VK → Prop := fun xs H Q => ∃ W S ds Q0, Ok K W S H ∧ Reps K W ds xs ∧ o S ds Q0 ∧ CV K W S H Q0 Q
/-- a method of a built-in type: may change the store -/
abbrev OM := Sto → D → List D → Qd → Prop
end
section
variable {K : PySem.W.Frag} {W W' : Hp} {S S2 : Sto} {H H2 : Hp}
theorem CV.mono {Q0 : Qd} {Q : VK} (e : Stp W S H W' S2 H2) (h : CV K W S H Q0 Q) : CV K W' S2 H2 Q0 Q := fun d S' v W2 H' q s => h d S' v W2 H' q (e.trans s)
theorem CXc.mono {X0 : XQ} {E : XK} (e : Stp W S H W' S2 H2) (h : CXc K W S H X0 E) : CXc K W' S2 H2 X0 E := fun C fs S' dd gs W2 H' q s => h C fs S' dd gs W2 H' q (e.trans s)
theorem CXc.no {E : XK} : CXc K W S H X0 E := fun _ _ _ _ _ _ _ h => h.elim
theorem CS.mono {Wx : WX} {q : QS} {D : Ends} (e : Stp W S H W' S2 H2) (h : CS K Wx W S H q D) : CS K Wx W' S2 H2 q D :=
  ⟨fun a b c d f g s => h.nx a b c d f g (e.trans s), fun a b c d f g s => h.rt a b c d f g (e.trans s), fun a b c d f g s => h.bk a b c d f g (e.trans s), fun a b c d f g s => h.ct a b c d f g (e.trans s),
    fun a b c d f g i j k l s => h.xc a b c d f g i j k l (e.trans s)⟩
end

section
variable (X : Cx)
structure PD (e : Expr) (w : WPe) : Prop where
  run : ∀ Wx, Takes X Wx → PE X e (lE X.K Wx w)
structure PDt (e : Expr) (w : WPt) : Prop where
  run : ∀ Wx, Takes X Wx → PT X e (lT X.K Wx w)
structure PDw (e : Expr) (w : WPt) : Prop where
  run : ∀ Wx, Takes X Wx → PW X e (lT X.K Wx w)
structure PDa (es : List Expr) (w : WPa) : Prop where
  run : ∀ Wx, Takes X Wx → PA X es (lA X.K Wx w)
structure PDs (st : Stmt) (w : WPs) : Prop where
  run : ∀ Wx, Takes X Wx → PS X st (lS X.K Wx X.N.length w)
structure PDss (st : List Stmt) (w : WPs) : Prop where
  run : ∀ Wx, Takes X Wx → PSs X st (lS X.K Wx X.N.length w)
end
section
variable {X : Cx} {e a b c : Expr} {es : List Expr} {pos : Pos}
theorem PE.imp {t t' : TE} (h : PE X e t) (i : ∀ σ H Q, t' σ H Q → t σ H Q) : PE X e t' := ⟨fun pins s σ H Q I q => h.run pins s σ H Q I (i σ H Q q)⟩
theorem PT.imp {t t' : TT} (h : PT X e t) (i : ∀ σ H Q, t' σ H Q → t σ H Q) : PT X e t' := ⟨fun pins s σ H Q I q => h.run pins s σ H Q I (i σ H Q q)⟩
theorem PW.imp {t t' : TT} (h : PW X e t) (i : ∀ σ H Q, t' σ H Q → t σ H Q) : PW X e t' := ⟨fun wh pins s σ H Q I q => h.run wh pins s σ H Q I (i σ H Q q)⟩
theorem PA.imp {t t' : TA} (h : PA X es t) (i : ∀ σ H Q, t' σ H Q → t σ H Q) : PA X es t' := ⟨fun po pins s σ H Q I q => h.run po pins s σ H Q I (i σ H Q q)⟩
theorem PS.imp {st : Stmt} {t t' : TS} (h : PS X st t) (i : ∀ D σ H, t' D σ H → t D σ H) : PS X st t' := ⟨fun pins s σ H D I q => h.run pins s σ H D I (i D σ H q)⟩
theorem PSs.imp {st : List Stmt} {t t' : TS} (h : PSs X st t) (i : ∀ D σ H, t' D σ H → t D σ H) : PSs X st t' := ⟨fun pins s σ H D I q => h.run pins s σ H D I (i D σ H q)⟩

/-! ### names, constants -/
def wVar (i : Nat) : WPe := fun env S Q _ => some! (getV env i) fun d => Q d S
def wC (d : D) : WPe := fun _ S Q _ => Q d S
theorem pd_var (i : Nat) {x : Str} (hN : X.N[i]? = some x := by rfl) (hv : Vis X.env.scope x := by first | exact Or.inl rfl | exact Or.inr (Or.inl rfl) | exact Or.inr (Or.inr rfl)) (hd : (x == ("__debug__" : Str)) = false := by decide)
    (hcd : (x == ("__classdict__" : Str)) = false := by decide) : PD X (.Name x pos) (wVar i) := ⟨fun Wx tk => PE.imp (pe_var hN hv hd hcd) fun σ H Q ⟨W, env, S, Q0, X1, ok, sl, hw, cv, cx⟩ => by
  obtain ⟨d, hd, q⟩ := some!_ex hw
  obtain ⟨v, hv, r⟩ := sl i d hd
  exact ⟨v, hv, cv d S v W H q Stp.refl ok r⟩⟩
theorem pd_c {d : D} {v : V} (h : PE X e (tC v)) (r : ∀ W, Rep X.K W d v) : PD X e (wC d) := ⟨fun Wx tk => PE.imp h fun σ H Q ⟨W, env, S, Q0, X1, ok, sl, hw, cv, cx⟩ => cv d S v W H hw Stp.refl ok (r W)⟩
theorem pd_int {i : Int} {j : Nat} : PD X (.Constant (.int i) j pos) (wC (.int i)) := pd_c pe_int fun _ => rfl
theorem pd_bl {i : Bool} {j : Nat} : PD X (.Constant (.bool i) j pos) (wC (.bl i)) := pd_c pe_bl fun _ => rfl
theorem pd_non {j : Nat} : PD X (.Constant .none j pos) (wC .non) := pd_c pe_non fun _ => rfl
theorem pd_str {x : Str} {j : Nat} : PD X (.Constant (.str x) j pos) (wC (.str x)) := pd_c pe_str fun _ => rfl

/-! ### two places, one place -/
def wBin (o : O2) (wa wb : WPe) : WPe := fun env S Q X => wa env S (fun x S1 => wb env S1 (fun y S2 => o S2 x y Q) X) X
theorem bin_go {K : PySem.W.Frag} {Wx : WX} {o : O2} {wa wb : WPe} {σ : L2.St} {H : Hp} {Q : VK} (h : lE K Wx (wBin o wa wb) σ H Q) : tOp (lOp K o) (lE K Wx wa) (lE K Wx wb) σ H Q := by
  obtain ⟨W, env, S, Q0, X1, ok, sl, hw, cv, cx⟩ := h
  refine ⟨W, env, S, _, X1, ok, sl, hw, fun x S1 v W1 H1 h1 s1 ok1 r1 => ?_, cx⟩
  refine ⟨W1, env, S1, _, X1, ok1, sl.mono s1.vis, h1, fun y S2 u W2 H2 h2 s2 ok2 r2 => ?_, cx.mono s1⟩
  exact ⟨W2, S2, x, y, Q0, ok2, r1.mono s2.vis, r2, h2, cv.mono (s1.trans s2)⟩
theorem pd_op {op : Operator} {o : O2} {wa wb : WPe} (ho : OpR X (binaryOp op) (lOp X.K o)) (ha : PD X a wa) (hb : PD X b wb) : PD X (.BinOp a op b pos) (wBin o wa wb) :=
  ⟨fun Wx tk => PE.imp (pe_op ho (ha.run Wx tk) (hb.run Wx tk)) fun _ _ _ h => bin_go h⟩
theorem pd_cmp {op : CmpOp} {o : O2} {wa wb : WPe} (ho : OpR X (compareOp op) (lOp X.K o)) (ha : PD X a wa) (hb : PD X b wb) (hm : behindInMarks op b = false) : PD X (.Compare a [op] [b] pos) (wBin o wa wb) :=
  ⟨fun Wx tk => PE.imp (pe_cmpR ho (ha.run Wx tk) (hb.run Wx tk) hm) fun _ _ _ h => bin_go h⟩
theorem pd_ix {o : O2} {wa wb : WPe} (hr : IxR X (lOp X.K o)) (ha : PD X a wa) (hb : PD X b wb) (hs : PlainIx b := by exact fun _ _ => rfl) : PD X (.Subscript a b pos) (wBin o wa wb) :=
  ⟨fun Wx tk => PE.imp (pe_ix hr (ha.run Wx tk) (hb.run Wx tk) hs) fun _ _ _ h => bin_go h⟩
abbrev O1 := Sto → D → Qd → Prop
def lU (K : PySem.W.Frag) (o : O1) : V → Hp → VK → Prop := fun x H Q => ∃ W S a Q0, Ok K W S H ∧ Rep K W a x ∧ o S a Q0 ∧ CV K W S H Q0 Q
def wUn (o : O1) (wa : WPe) : WPe := fun env S Q X => wa env S (fun x S1 => o S1 x Q) X
theorem pd_un {op : UnaryOp} {o : O1} {wa : WPe} (ho : UnR X (unaryOp op) (lU X.K o)) (ha : PD X a wa) : PD X (.UnaryOp op a pos) (wUn o wa) :=
  ⟨fun Wx tk => PE.imp (pe_un ho (ha.run Wx tk)) fun σ H Q ⟨W, env, S, Q0, X1, ok, sl, hw, cv, cx⟩ => ⟨W, env, S, _, X1, ok, sl, hw, fun x S1 v W1 H1 h1 s1 ok1 r1 => ⟨W1, S1, x, Q0, ok1, r1, h1, cv.mono s1⟩, cx⟩⟩
/-! ### tests -/
def wTest (w : WPe) : WPt := fun env S Q X => w env S (fun d S' => match d with | .bl b => Q b S' | _ => False) X
/-- a comparison as a test -/
theorem pdt_cmp {op : CmpOp} {o : O2} {wa wb : WPe} (ho : OpR X (compareOp op) (lOp X.K o)) (ha : PD X a wa) (hb : PD X b wb) (hm : behindInMarks op b = false) : PDt X (.Compare a [op] [b] pos) (wTest (wBin o wa wb)) :=
  ⟨fun Wx tk => PT.imp (pt_cmpR ho (ha.run Wx tk) (hb.run Wx tk) hm) fun σ H Q ⟨W, env, S, Q0, X1, ok, sl, hw, cv, cx⟩ => bin_go ⟨W, env, S, _, X1, ok, sl, hw, fun d S1 v W1 H1 h1 s1 ok1 r1 => by
    cases d with
    | bl k =>
      have e : v = .bl k := r1
      exact ⟨k, e, cv k S1 W1 H1 h1 s1 ok1⟩
    | _ => exact h1.elim, cx⟩⟩
/-- an expression whose value is a bool -/
theorem pdt_val {w : WPe} (h : PD X e w) (he : ∀ whole, isTrue e X.env whole = (do let v ← whole; standAt e.pos; holding [v] (truthy v)) := by intro _; rfl) : PDt X e (wTest w) :=
  ⟨fun Wx tk => PT.imp (pt_val (h.run Wx tk) he) fun σ H Q ⟨W, env, S, Q0, X1, ok, sl, hw, cv, cx⟩ => ⟨W, env, S, _, X1, ok, sl, hw, fun d S1 v W1 H1 h1 s1 ok1 r1 => by
    cases d with
    | bl k =>
      have e : v = .bl k := r1
      exact ⟨k, e, cv k S1 W1 H1 h1 s1 ok1⟩
    | _ => exact h1.elim, cx⟩⟩
def wAnd (w u : WPt) : WPt := fun env S Q X => w env S (fun b S1 => if b = true then u env S1 Q X else Q false S1) X
def wOr (w u : WPt) : WPt := fun env S Q X => w env S (fun b S1 => if b = true then Q true S1 else u env S1 Q X) X
def wNot (w : WPt) : WPt := fun env S Q X => w env S (fun b S1 => Q (!b) S1) X
variable {wa wb wc : WPe} {ta tb : WPt} {rest : List Expr}
theorem pdw_and1 (ha : PDt X a ta) : PDw X (.BoolOp .And [a] pos) ta := ⟨fun Wx tk => pw_and1 (ha.run Wx tk)⟩
theorem pdw_or1 (ha : PDt X a ta) : PDw X (.BoolOp .Or [a] pos) ta := ⟨fun Wx tk => pw_or1 (ha.run Wx tk)⟩
theorem pdw_and (ha : PDt X a ta) (hb : PDw X (.BoolOp .And (b :: rest) pos) tb) : PDw X (.BoolOp .And (a :: b :: rest) pos) (wAnd ta tb) :=
  ⟨fun Wx tk => PW.imp (pw_and (ha.run Wx tk) (hb.run Wx tk)) fun σ H Q ⟨W, env, S, Q0, X1, ok, sl, hw, cv, cx⟩ => ⟨W, env, S, _, X1, ok, sl, hw, fun k S1 W1 H1 h1 s1 ok1 => by
    cases k with
    | true => exact iteT ⟨W1, env, S1, Q0, X1, ok1, sl.mono s1.vis, (if_pos rfl).mp h1, fun b2 S2 W2 H2 q2 s2 => cv b2 S2 W2 H2 q2 (s1.trans s2), cx.mono s1⟩
    | false => exact iteF (cv false S1 W1 H1 ((if_neg Bool.false_ne_true).mp h1) s1 ok1), cx⟩⟩
theorem pdw_or (ha : PDt X a ta) (hb : PDw X (.BoolOp .Or (b :: rest) pos) tb) : PDw X (.BoolOp .Or (a :: b :: rest) pos) (wOr ta tb) :=
  ⟨fun Wx tk => PW.imp (pw_or (ha.run Wx tk) (hb.run Wx tk)) fun σ H Q ⟨W, env, S, Q0, X1, ok, sl, hw, cv, cx⟩ => ⟨W, env, S, _, X1, ok, sl, hw, fun k S1 W1 H1 h1 s1 ok1 => by
    cases k with
    | true => exact iteT (cv true S1 W1 H1 ((if_pos rfl).mp h1) s1 ok1)
    | false => exact iteF ⟨W1, env, S1, Q0, X1, ok1, sl.mono s1.vis, (if_neg Bool.false_ne_true).mp h1, fun b2 S2 W2 H2 q2 s2 => cv b2 S2 W2 H2 q2 (s1.trans s2), cx.mono s1⟩, cx⟩⟩
theorem PDw.pt (h : PDw X e ta) : PDt X e ta := ⟨fun Wx tk => (h.run Wx tk).pt⟩
theorem pdt_not (ha : PDt X a ta) : PDt X (.UnaryOp .Not a pos) (wNot ta) :=
  ⟨fun Wx tk => PT.imp (pt_not (ha.run Wx tk)) fun σ H Q ⟨W, env, S, Q0, X1, ok, sl, hw, cv, cx⟩ => ⟨W, env, S, _, X1, ok, sl, hw, fun k S1 W1 H1 h1 s1 ok1 => cv (!k) S1 W1 H1 h1 s1 ok1, cx⟩⟩
/-- and, or, not as values: bools -/
def wAndV (wa wb : WPe) : WPe := fun env S Q X => wa env S (fun d S1 => match d with | .bl b => if b = true then wb env S1 Q X else Q (.bl false) S1 | _ => False) X
def wOrV (wa wb : WPe) : WPe := fun env S Q X => wa env S (fun d S1 => match d with | .bl b => if b = true then Q (.bl true) S1 else wb env S1 Q X | _ => False) X
def wNotV (wa : WPe) : WPe := fun env S Q X => wa env S (fun d S1 => match d with | .bl b => Q (.bl (!b)) S1 | _ => False) X
theorem pd_one {op} (ha : PD X a wa) : PD X (.BoolOp op [a] pos) wa := ⟨fun Wx tk => pe_one (ha.run Wx tk)⟩
theorem pd_and (ha : PD X a wa) (hb : PD X (.BoolOp .And (b :: rest) pos) wb) : PD X (.BoolOp .And (a :: b :: rest) pos) (wAndV wa wb) :=
  ⟨fun Wx tk => PE.imp (pe_and (ha.run Wx tk) (hb.run Wx tk)) fun σ H Q ⟨W, env, S, Q0, X1, ok, sl, hw, cv, cx⟩ => ⟨W, env, S, _, X1, ok, sl, hw, fun k S1 v W1 H1 h1 s1 ok1 r1 => by
    cases k with
    | bl k =>
      refine ⟨k, r1, ?_⟩
      cases k with
      | true => exact iteT ⟨W1, env, S1, Q0, X1, ok1, sl.mono s1.vis, (if_pos rfl).mp h1, cv.mono s1, cx.mono s1⟩
      | false => exact iteF (cv _ S1 _ W1 H1 ((if_neg Bool.false_ne_true).mp h1) s1 ok1 rfl)
    | _ => exact h1.elim, cx⟩⟩
theorem pd_or (ha : PD X a wa) (hb : PD X (.BoolOp .Or (b :: rest) pos) wb) : PD X (.BoolOp .Or (a :: b :: rest) pos) (wOrV wa wb) :=
  ⟨fun Wx tk => PE.imp (pe_or (ha.run Wx tk) (hb.run Wx tk)) fun σ H Q ⟨W, env, S, Q0, X1, ok, sl, hw, cv, cx⟩ => ⟨W, env, S, _, X1, ok, sl, hw, fun k S1 v W1 H1 h1 s1 ok1 r1 => by
    cases k with
    | bl k =>
      refine ⟨k, r1, ?_⟩
      cases k with
      | true => exact iteT (cv _ S1 _ W1 H1 ((if_pos rfl).mp h1) s1 ok1 rfl)
      | false => exact iteF ⟨W1, env, S1, Q0, X1, ok1, sl.mono s1.vis, (if_neg Bool.false_ne_true).mp h1, cv.mono s1, cx.mono s1⟩
    | _ => exact h1.elim, cx⟩⟩
theorem pd_not (ha : PD X a wa) : PD X (.UnaryOp .Not a pos) (wNotV wa) :=
  ⟨fun Wx tk => PE.imp (pe_not (ha.run Wx tk)) fun σ H Q ⟨W, env, S, Q0, X1, ok, sl, hw, cv, cx⟩ => ⟨W, env, S, _, X1, ok, sl, hw, fun k S1 v W1 H1 h1 s1 ok1 r1 => by
    cases k with
    | bl k => exact ⟨k, r1, cv _ S1 _ W1 H1 h1 s1 ok1 rfl⟩
    | _ => exact h1.elim, cx⟩⟩
def wIfE (t : WPt) (wa wb : WPe) : WPe := fun env S Q X => t env S (fun k S1 => if k = true then wa env S1 Q X else wb env S1 Q X) X
theorem pd_ifE (hc : PDt X c ta) (ha : PD X a wa) (hb : PD X b wb) : PD X (.IfExp c a b pos) (wIfE ta wa wb) :=
  ⟨fun Wx tk => PE.imp (pe_ifExp (hc.run Wx tk) (ha.run Wx tk) (hb.run Wx tk)) fun σ H Q ⟨W, env, S, Q0, X1, ok, sl, hw, cv, cx⟩ => ⟨W, env, S, _, X1, ok, sl, hw, fun k S1 W1 H1 h1 s1 ok1 => by
    cases k with
    | true => exact iteT ⟨W1, env, S1, Q0, X1, ok1, sl.mono s1.vis, (if_pos rfl).mp h1, cv.mono s1, cx.mono s1⟩
    | false => exact iteF ⟨W1, env, S1, Q0, X1, ok1, sl.mono s1.vis, (if_neg Bool.false_ne_true).mp h1, cv.mono s1, cx.mono s1⟩, cx⟩⟩
/-- a < b < c -/
def wChain (o o' : O2) (wa wb wc : WPe) : WPe := fun env S Q X => wa env S (fun x S1 => wb env S1 (fun y S2 => o S2 x y fun k S3 => match k with | .bl k => if k = true then wc env S3 (fun z S4 => o' S4 y z Q) X else Q (.bl false) S3 | _ => False) X) X
end
end DL
set_option Elab.async false
set_option linter.all false
set_option maxRecDepth 100000
set_option maxHeartbeats 2000000
/-! The data layer, part c: calls, displays, fields, statements. -/
namespace DL
open PySem PySem.Spec PyProof.Rows L2

section
variable {X : Cx} {CX : CXT} {k : Nat} {f C : Addr} {fd : FuncData} {ps : List Str} {sp : Sp} {E : L2.St → XK} {x m : Str} {p pos apos : Pos} {e o : Expr} {es : List Expr} {ta : TE} {t : TA}
def tMethS (C : Addr) (m : Str) (sp : Sp) (E : L2.St → XK) (ta : TE) (t : TA) : TE := fun σ H Q => ta σ H fun x H1 => ∃ a dx fs, x = .ref a ∧ H1 a = some (.ins C dx fs) ∧ fs.lookup m = none ∧
  t σ H1 fun vs H2 => sp (x :: vs) H2 Q (E σ)
theorem run_fnN {pins : List (Addr × Obj)} {σ : L2.St} {H : Hp} {s : Shared} {Q : VK} {us : List Value} {vs : List V} (F : FnOk X.prog X.w X.K X.mg X.base CX k f fd ps sp) (hr : Room k X.A) (hb : Binds X.K fd ps []) (hx : PassesAt CX X σ (E σ))
    (I : Inv X pins σ H s) (r : Vals vs us) (h : sp vs H Q (E σ)) : wpAny (model X.prog X.w) X.A (call (.ref f) us) (EP X pins σ Q) X.xe s := run_fnS F hr hb hx I r h
theorem pe_methS {pl : Sem Bool} (he : PE X o ta) (c : Cls X.K C) (hm : Meth X.K C m f) (F : FnOk X.prog X.w X.K X.mg X.base CX k f fd ps sp) (hr : Room k X.A) (hb : Binds X.K fd ps []) (hx : ∀ σ, PassesAt CX X σ (E σ)) (ha : PA X (e :: es) t)
    (hst : starEach (e :: es) X.env = (false, eval e X.env) :: starEach es X.env := by rfl) (hpl : (backTo pos (starEach es X.env)).any (·.1) = false := by rfl)
    (ht : eval (.Call (.Attribute o m apos) (e :: es) [] pos) X.env = (do
      let ov ← eval o X.env
      standAt apos.atName
      let (f, first) ← holding [ov] (getMethod ov m pl)
      callWith pos f first (backTo pos (starEach (e :: es) X.env)) (backToKw pos (keywordEach [] X.env))) := by rfl) :
    PE X (.Call (.Attribute o m apos) (e :: es) [] pos) (tMethS C m sp E ta t) := by
  refine ⟨fun pins s σ H Q I h => ?_⟩
  refine PySem.W.methodCall_KW (pl := pl) (thn (he.run pins s σ H _ I h) fun u s1 ⟨x, H1, I1, rx, a, dx, fs, ex, ea, l, q⟩ => ?_) ht
  subst ex
  obtain rfl : u = Value.ref a := rx
  refine getmeth_ok I1 ea c hm l ?_
  refine PySem.W.callWith_K (first := [.ref a]) (h₀ := X.base) I.ok.mod.kin hm.kp (thn (ha.run pos pins s1 σ H1 _ I1 q) fun us s2 ⟨vs, H2, I2, r, q2⟩ => ⟨I2.kIn, ?_⟩) hst hpl
  exact run_fnN (us := .ref a :: us) (vs := .ref a :: vs) F hr hb (hx σ) I2 (.cons rfl r) q2
theorem pe_meth0S {pl : Sem Bool} (he : PE X o ta) (c : Cls X.K C) (hm : Meth X.K C m f) (F : FnOk X.prog X.w X.K X.mg X.base CX k f fd ps sp) (hr : Room k X.A) (hb : Binds X.K fd ps []) (hx : ∀ σ, PassesAt CX X σ (E σ))
    (ht : eval (.Call (.Attribute o m apos) [] [] pos) X.env = (do
      let ov ← eval o X.env
      standAt apos.atName
      let (f, first) ← holding [ov] (getMethod ov m pl)
      callWith pos f first (backTo pos (starEach [] X.env)) (backToKw pos (keywordEach [] X.env))) := by rfl) :
    PE X (.Call (.Attribute o m apos) [] [] pos) (tMethS C m sp E ta tNil) := by
  refine ⟨fun pins s σ H Q I h => ?_⟩
  refine PySem.W.methodCall_KW (pl := pl) (thn (he.run pins s σ H _ I h) fun u s1 ⟨x, H1, I1, rx, a, dx, fs, ex, ea, l, q⟩ => ?_) ht
  subst ex
  obtain rfl : u = Value.ref a := rx
  refine getmeth_ok I1 ea c hm l ?_
  exact PySem.W.callWith_K0 (first := [.ref a]) I1.kIn hm.kp (run_fnN (us := [.ref a]) (vs := [.ref a]) F hr hb (hx σ) I1 (.cons rfl .nil) q)
theorem pe_call0S (F : FnOk X.prog X.w X.K X.mg X.base CX k f fd ps sp) (hr : Room k X.A) (hg : Gl X x) (hm : X.mg x = some (.ref f)) (hk : PySem.W.keepIn X.K (.ref f) = true) (hb : Binds X.K fd ps []) (hx : ∀ σ, PassesAt CX X σ (E σ))
    (hdb : (x == ("__debug__" : Str)) = false := by decide) : PE X (.Call (.Name x p) [] [] pos) (tCallS sp E tNil) := by
  refine ⟨fun pins s σ H Q I h => ?_⟩
  refine wpAny_Call_Name_kw (ld_glob I hg hm ?_ hdb)
  exact PySem.W.callWith_K0 I.kIn hk (run_fnN (us := []) F hr hb (hx σ) I .nil h)
def tMakeS (C : Addr) (sp : Sp) (E : L2.St → XK) (t : TA) : TE := fun σ H Q => t σ H fun vs H1 => ∀ x dx, H1 x = none → H1 dx = none → dx ≠ x →
  sp (.ref x :: vs) (upd (upd H1 dx (.own x)) x (.ins C dx [])) (fun v H2 => v = .non ∧ Q (.ref x) H2) (E σ)
theorem run_makeS {pins : List (Addr × Obj)} {σ : L2.St} {H : Hp} {s : Shared} {Q : VK} {us : List Value} {vs : List V} (M : Mk X.K C f) (F : FnOk X.prog X.w X.K X.mg X.base CX k f fd ps sp) (hr : Room (k + 1) X.A) (hb : Binds X.K fd ps [])
    (hx : PassesAt CX X σ (E σ)) (I : Inv X pins σ H s) (r : Vals vs us)
    (h : ∀ x dx, H x = none → H dx = none → dx ≠ x → sp (.ref x :: vs) (upd (upd H dx (.own x)) x (.ins C dx [])) (fun v H2 => v = .non ∧ Q (.ref x) H2) (E σ)) :
    wpAny (model X.prog X.w) X.A (call (.ref C) us) (EP X pins σ Q) X.xe s := by
  have hq := h (s.heap.objs.size + 1) s.heap.objs.size (I.hok.fresh (Nat.le_succ _)) (I.hok.fresh (Nat.le_refl _)) (Nat.ne_of_lt (Nat.lt_succ_self _))
  have I2 := Inv.made (C := C) I
  have r2 : Vals (V.ref (s.heap.objs.size + 1) :: vs) (Value.ref (s.heap.objs.size + 1) :: us) := .cons rfl r
  have hl : (Value.ref (s.heap.objs.size + 1) :: us ++ []).length = ps.length := by
    have e := r2.length
    rw [F.len _ _ _ _ hq] at e
    rw [List.append_nil]
    exact e.symm
  have hbb := hb { s with heap := (s.heap.push PySem.W.emptyDict).push (PySem.W.instObj C s.heap.objs.size) } (Value.ref (s.heap.objs.size + 1) :: us) I2.kIn hl
  rw [List.append_nil] at hbb
  refine wpAny_call (make_map (f := f) I.kIn M.makes M.init (beq_iff_eq.mp M.fn) (codeAny_mono (F.run _ X.stack _ _ ⟨Value.ref (s.heap.objs.size + 1) :: us, []⟩ (Value.ref (s.heap.objs.size + 1) :: us) _ _ (E σ) (hr.make C us [])
    (I2.env0.make C us []) hbb r2 hq) fun r s' hq' => ?_))
  cases r with
  | error e => exact hx pins _ _ e s' I2 hq'
  | ok fl =>
    cases fl with
    | ret u =>
      obtain ⟨v, H', I3, rv, ev, q3⟩ := I2.after hq'
      subst ev
      exact ⟨rv, ⟨V.ref (s.heap.objs.size + 1), H', I3, rfl, q3⟩⟩
    | next => exact False.elim hq'
    | brk => exact False.elim hq'
    | cont => exact False.elim hq'
theorem pe_makeS (M : Mk X.K C f) (F : FnOk X.prog X.w X.K X.mg X.base CX k f fd ps sp) (hr : Room (k + 1) X.A) (hg : Gl X x) (hm : X.mg x = some (.ref C)) (hb : Binds X.K fd ps []) (hx : ∀ σ, PassesAt CX X σ (E σ))
    (ha : PA X (e :: es) t) (hdb : (x == ("__debug__" : Str)) = false := by decide) (he : starEach (e :: es) X.env = (false, eval e X.env) :: starEach es X.env := by rfl) (hpl : (backTo pos (starEach es X.env)).any (·.1) = false := by rfl) :
    PE X (.Call (.Name x p) (e :: es) [] pos) (tMakeS C sp E t) := by
  refine ⟨fun pins s σ H Q I h => ?_⟩
  refine wpAny_Call_Name_kw (ld_glob I hg hm ?_ hdb)
  refine PySem.W.callWith_K (h₀ := X.base) I.ok.mod.kin M.kp (thn (ha.run pos pins s σ H _ I h) fun us s1 ⟨vs, H1, I1, r, q⟩ => ⟨I1.kIn, ?_⟩) he hpl
  exact run_makeS M F hr hb (hx σ) I1 r q
end

/-! ### arguments, displays -/
def wNil : WPa := fun _ S Q _ => Q [] S
def wCons (w : WPe) (r : WPa) : WPa := fun env S Q X => w env S (fun d S1 => r env S1 (fun ds S2 => Q (d :: ds) S2) X) X
def wLst (w : WPa) : WPe := fun env S Q X => w env S (fun ds S1 => ds.length ≤ sizeLine ∧ Q (.lst ds) S1) X
def wLstM (w : WPa) : WPe := fun env S Q X => w env S (fun ds S1 => ds.length ≤ sizeLine ∧ ∀ p, S1 p = none → Q (.ref p) (put S1 p (.lst ds))) X
def wTup (w : WPa) : WPe := fun env S Q X => w env S (fun ds S1 => ds.length ≤ sizeLine ∧ Q (.tup ds) S1) X
section
variable {X : Cx} {e : Expr} {es : List Expr} {pos : Pos} {w : WPe} {r : WPa}
theorem pda_nil : PDa X [] wNil := ⟨fun Wx tk => PA.imp pa_nil fun σ H Q ⟨W, env, S, Q0, X1, ok, sl, hw, cv, cx⟩ => cv [] S [] W H hw Stp.refl ok rfl⟩
theorem pda_cons (he : PD X e w) (hr : PDa X es r) (hs : starEach (e :: es) X.env = (false, eval e X.env) :: starEach es X.env := by rfl) : PDa X (e :: es) (wCons w r) :=
  ⟨fun Wx tk => PA.imp (pa_cons (he.run Wx tk) (hr.run Wx tk) hs) fun σ H Q ⟨W, env, S, Q0, X1, ok, sl, hw, cv, cx⟩ => ⟨W, env, S, _, X1, ok, sl, hw, fun d S1 v W1 H1 h1 s1 ok1 r1 =>
    ⟨W1, env, S1, _, X1, ok1, sl.mono s1.vis, h1, fun ds S2 vs W2 H2 h2 s2 ok2 r2 => cv (d :: ds) S2 (v :: vs) W2 H2 h2 (s1.trans s2) ok2 ⟨v, vs, rfl, r1.mono s2.vis, r2⟩, cx.mono s1⟩, cx⟩⟩
theorem pd_lst (h : PDa X es r) : PD X (.List es pos) (wLst r) :=
  ⟨fun Wx tk => PE.imp (pe_lst (h.run Wx tk)) fun σ H Q ⟨W, env, S, Q0, X1, ok, sl, hw, cv, cx⟩ => ⟨W, env, S, _, X1, ok, sl, hw, fun ds S1 vs W1 H1 ⟨hz, h1⟩ s1 ok1 r1 =>
    ⟨by rw [r1.length]; exact hz, fun p hp => cv _ S1 _ _ _ h1 (s1.trans (ok1.stW hp)) (ok1.newW hp) ⟨p, vs, rfl, upd_same, r1.mono (same_new (ok1.fresh hp).1)⟩⟩, cx⟩⟩
theorem pd_lstM (h : PDa X es r) : PD X (.List es pos) (wLstM r) :=
  ⟨fun Wx tk => PE.imp (pe_lst (h.run Wx tk)) fun σ H Q ⟨W, env, S, Q0, X1, ok, sl, hw, cv, cx⟩ => ⟨W, env, S, _, X1, ok, sl, hw, fun ds S1 vs W1 H1 ⟨hz, h1⟩ s1 ok1 r1 =>
    ⟨by rw [r1.length]; exact hz, fun p hp => cv _ _ _ _ _ (h1 p (ok1.fresh hp).2) (s1.trans (ok1.stS hp)) (ok1.newS hp ⟨vs, rfl, r1⟩) rfl⟩, cx⟩⟩
theorem pd_tup {z : Nat} (h : PDa X es r) : PD X (.Tuple es z pos) (wTup r) :=
  ⟨fun Wx tk => PE.imp (pe_tup (h.run Wx tk)) fun σ H Q ⟨W, env, S, Q0, X1, ok, sl, hw, cv, cx⟩ => ⟨W, env, S, _, X1, ok, sl, hw, fun ds S1 vs W1 H1 ⟨hz, h1⟩ s1 ok1 r1 =>
    ⟨by rw [r1.length]; exact hz, fun p hp => cv _ S1 _ _ _ h1 (s1.trans (ok1.stW hp)) (ok1.newW hp) ⟨p, vs, rfl, SqT.of upd_same, r1.mono (same_new (ok1.fresh hp).1)⟩⟩, cx⟩⟩
end

/-! ### calls of own defs -/
abbrev FnD (P : Program) (w : World) (K : PySem.W.Frag) (mg : Str → Option Value) (base : Heap) (k : Nat) (f : Addr) (fd : FuncData) (ps : List Str) (spec : Ctr) : Prop := FnOk P w K mg base (L2.CX P w) k f fd ps (lSp K spec)
def wCall (spec : Ctr) (wa : WPa) : WPe := fun env S Q X => wa env S (fun ds S1 => spec ds S1 Q X) X
/-- an instance of C whose fields are N -/
def isIns (C : Addr) (N : List Str) (S : Sto) (d : D) : Prop := match d with
  | .ref a => match S a with
    | some (.ins C' N' _) => C' = C ∧ N' = N
    | _ => False
  | .obj C' N' _ => C' = C ∧ N' = N
  | _ => False
def wMeth (C : Addr) (N : List Str) (spec : Ctr) (wo : WPe) (wa : WPa) : WPe := fun env S Q X => wo env S (fun o S1 => isIns C N S1 o ∧ wa env S1 (fun ds S2 => spec (o :: ds) S2 Q X) X) X
def noneV : List Str → DE
  | [] => []
  | _ :: r => none :: noneV r
def wMake (C : Addr) (N : List Str) (spec : Ctr) (wa : WPa) : WPe := fun env S Q X => wa env S (fun ds S1 => ∀ x, S1 x = none → spec (.ref x :: ds) (put S1 x (.ins C N (noneV N))) (fun r S2 => r = .non ∧ Q (.ref x) S2) X) X
theorem getV_noneV : ∀ {N : List Str} {i : Nat}, getV (noneV N) i = none
  | [], _ => rfl
  | _ :: _, 0 => rfl
  | _ :: r, i + 1 => getV_noneV (N := r) (i := i)
theorem noneV_length : ∀ {N : List Str}, (noneV N).length = N.length
  | [] => rfl
  | _ :: r => congrArg (· + 1) (noneV_length (N := r))
theorem frep_new {K : PySem.W.Frag} {W : Hp} {N : List Str} (hn : N.Nodup) (hf : N.length ≤ 900) : FRep K W N (noneV N) [] :=
  ⟨hn, hf, noneV_length, (fun i f d _ h => by
    rw [getV_noneV] at h
    cases h), (fun _ _ _ _ => rfl), (fun _ _ => rfl), Nat.zero_le _⟩
theorem Ok.junk {K : PySem.W.Frag} {W : Hp} {S : Sto} {H : Hp} {p : Addr} {o : HO} (ok : Ok K W S H) (h : H p = none) : Ok K W S (upd H p o) :=
  ⟨fun b x e => by rw [upd_ne (ne_of_none (ok.vis _ _ e) h)]; exact ok.vis _ _ e, fun a m e => by
    obtain ⟨x, e1, e2⟩ := ok.sto _ _ e
    exact ⟨x, by rw [upd_ne (ne_of_none e1 h)]; exact e1, e2⟩, ok.sep⟩
theorem isIns_rep {K : PySem.W.Frag} {W : Hp} {S : Sto} {H : Hp} {C : Addr} {N : List Str} {d : D} {v : V} (ok : Ok K W S H) (r : Rep K W d v) (h : isIns C N S d) {m : Str} (hm : m ∉ N) : ∃ a dx fs, v = .ref a ∧ H a = some (.ins C dx fs) ∧ fs.lookup m = none := by
  cases d with
  | ref a =>
    have h' : (match S a with | some (.ins C' N' _) => C' = C ∧ N' = N | _ => False) := h
    cases q : S a with
    | none => rw [q] at h'; exact h'.elim
    | some mo =>
      rw [q] at h'
      cases mo with
      | ins C' N' xs =>
        obtain ⟨e1, e2⟩ := h'
        subst e1 e2
        obtain ⟨o, e3, dx, gs, e4, fr⟩ := ok.sto _ _ q
        subst e4
        exact ⟨a, dx, gs, r, e3, fr.out m hm⟩
      | _ => exact h'.elim
  | obj C' N' xs =>
    obtain ⟨e1, e2⟩ := h
    subst e1 e2
    obtain ⟨a, dx, gs, vs, e1, e2, _, e4, _⟩ := r
    exact ⟨a, dx, gs, e1, ok.vis _ _ e2, e4 m hm⟩
  | _ => exact h.elim
section
variable {X : Cx} {k : Nat} {f C : Addr} {fd : FuncData} {ps : List Str} {spec : Ctr} {x m : Str} {p pos apos : Pos} {e o : Expr} {es : List Expr} {wo : WPe} {wa : WPa}
theorem call_go {Wx : WX} {σ : L2.St} {H : Hp} {Q : VK} {K : PySem.W.Frag} (h : lE K Wx (wCall spec wa) σ H Q) : tCallS (lSp K spec) (WE Wx) (lA K Wx wa) σ H Q := by
  obtain ⟨W, env, S, Q0, X1, ok, sl, hw, cv, cx⟩ := h
  exact ⟨W, env, S, _, X1, ok, sl, hw, fun ds S1 vs W1 H1 h1 s1 ok1 r1 => ⟨W1, S1, ds, Q0, X1, ok1, r1, h1, cv.mono s1, cx.mono s1⟩, cx⟩
theorem pd_call (F : FnD X.prog X.w X.K X.mg X.base k f fd ps spec) (hr : Room k X.A) (hm : X.mg x = some (.ref f)) (hk : PySem.W.keepIn X.K (.ref f) = true) (hb : Binds X.K fd ps [])
    (ha : PDa X (e :: es) wa) (hg : Gl X x := by rfl) (hdb : (x == ("__debug__" : Str)) = false := by decide) (he : starEach (e :: es) X.env = (false, eval e X.env) :: starEach es X.env := by rfl) (hpl : (backTo pos (starEach es X.env)).any (·.1) = false := by rfl) :
    PD X (.Call (.Name x p) (e :: es) [] pos) (wCall spec wa) :=
  ⟨fun Wx tk => PE.imp (pe_callS F hr hg hm hk hb (fun σ => passAt tk σ) (ha.run Wx tk) hdb he hpl) fun _ _ _ h => call_go h⟩
theorem pd_call0 (F : FnD X.prog X.w X.K X.mg X.base k f fd ps spec) (hr : Room k X.A) (hm : X.mg x = some (.ref f)) (hk : PySem.W.keepIn X.K (.ref f) = true) (hb : Binds X.K fd ps [])
    (hg : Gl X x := by rfl) (hdb : (x == ("__debug__" : Str)) = false := by decide) : PD X (.Call (.Name x p) [] [] pos) (wCall spec wNil) :=
  ⟨fun Wx tk => PE.imp (pe_call0S F hr hg hm hk hb (fun σ => passAt tk σ) hdb) fun σ H Q h => by
    obtain ⟨W, env, S, Q0, X1, ok, sl, hw, cv, cx⟩ := h
    exact ⟨W, S, [], Q0, X1, ok, rfl, hw, cv, cx⟩⟩
theorem pd_meth {N : List Str} {pl : Sem Bool} (c : Cls X.K C) (hm : Meth X.K C m f) (hN : m ∉ N) (F : FnD X.prog X.w X.K X.mg X.base k f fd ps spec) (hr : Room k X.A) (hb : Binds X.K fd ps []) (ho : PD X o wo) (ha : PDa X (e :: es) wa)
    (hst : starEach (e :: es) X.env = (false, eval e X.env) :: starEach es X.env := by rfl) (hpl : (backTo pos (starEach es X.env)).any (·.1) = false := by rfl)
    (ht : eval (.Call (.Attribute o m apos) (e :: es) [] pos) X.env = (do
      let ov ← eval o X.env
      standAt apos.atName
      let (f, first) ← holding [ov] (getMethod ov m pl)
      callWith pos f first (backTo pos (starEach (e :: es) X.env)) (backToKw pos (keywordEach [] X.env))) := by rfl) : PD X (.Call (.Attribute o m apos) (e :: es) [] pos) (wMeth C N spec wo wa) :=
  ⟨fun Wx tk => PE.imp (pe_methS (E := WE Wx) (ho.run Wx tk) c hm F hr hb (fun σ => passAt tk σ) (ha.run Wx tk) hst hpl ht) fun σ H Q ⟨W, env, S, Q0, X1, ok, sl, hw, cv, cx⟩ => ⟨W, env, S, _, X1, ok, sl, hw, fun d S1 v W1 H1 ⟨hi, h1⟩ s1 ok1 r1 => by
    obtain ⟨a, dx, fs, e1, e2, e3⟩ := isIns_rep ok1 r1 hi hN
    exact ⟨a, dx, fs, e1, e2, e3, W1, env, S1, _, X1, ok1, sl.mono s1.vis, h1, fun ds S2 vs W2 H2 h2 s2 ok2 r2 => ⟨W2, S2, d :: ds, Q0, X1, ok2, ⟨v, vs, rfl, r1.mono s2.vis, r2⟩, h2, cv.mono (s1.trans s2), cx.mono (s1.trans s2)⟩, cx.mono s1⟩, cx⟩⟩
theorem pd_meth0 {N : List Str} {pl : Sem Bool} (c : Cls X.K C) (hm : Meth X.K C m f) (hN : m ∉ N) (F : FnD X.prog X.w X.K X.mg X.base k f fd ps spec) (hr : Room k X.A) (hb : Binds X.K fd ps []) (ho : PD X o wo)
    (ht : eval (.Call (.Attribute o m apos) [] [] pos) X.env = (do
      let ov ← eval o X.env
      standAt apos.atName
      let (f, first) ← holding [ov] (getMethod ov m pl)
      callWith pos f first (backTo pos (starEach [] X.env)) (backToKw pos (keywordEach [] X.env))) := by rfl) : PD X (.Call (.Attribute o m apos) [] [] pos) (wMeth C N spec wo wNil) :=
  ⟨fun Wx tk => PE.imp (pe_meth0S (E := WE Wx) (ho.run Wx tk) c hm F hr hb (fun σ => passAt tk σ) ht) fun σ H Q ⟨W, env, S, Q0, X1, ok, sl, hw, cv, cx⟩ => ⟨W, env, S, _, X1, ok, sl, hw, fun d S1 v W1 H1 ⟨hi, h1⟩ s1 ok1 r1 => by
    obtain ⟨a, dx, fs, e1, e2, e3⟩ := isIns_rep ok1 r1 hi hN
    exact ⟨a, dx, fs, e1, e2, e3, W1, S1, [d], Q0, X1, ok1, ⟨v, [], rfl, r1, rfl⟩, h1, cv.mono s1, cx.mono s1⟩, cx⟩⟩
theorem pd_make {N : List Str} (M : Mk X.K C f) (hN : N.Nodup) (hl : N.length ≤ 900) (F : FnD X.prog X.w X.K X.mg X.base k f fd ps spec) (hr : Room (k + 1) X.A) (hm : X.mg x = some (.ref C)) (hb : Binds X.K fd ps [])
    (ha : PDa X (e :: es) wa) (hg : Gl X x := by rfl) (hdb : (x == ("__debug__" : Str)) = false := by decide) (he : starEach (e :: es) X.env = (false, eval e X.env) :: starEach es X.env := by rfl) (hpl : (backTo pos (starEach es X.env)).any (·.1) = false := by rfl) :
    PD X (.Call (.Name x p) (e :: es) [] pos) (wMake C N spec wa) :=
  ⟨fun Wx tk => PE.imp (pe_makeS (E := WE Wx) M F hr hg hm hb (fun σ => passAt tk σ) (ha.run Wx tk) hdb he hpl) fun σ H Q ⟨W, env, S, Q0, X1, ok, sl, hw, cv, cx⟩ => ⟨W, env, S, _, X1, ok, sl, hw, fun ds S1 vs W1 H1 h1 s1 ok1 r1 y dy hy hdy hne => by
    have hy2 : (upd H1 dy (HO.own y)) y = none := by rw [upd_ne (Ne.symm hne)]; exact hy
    have ok2 := (ok1.junk (o := .own y) hdy).newS (m := .ins C N (noneV N)) (o := .ins C dy []) hy2 ⟨dy, [], rfl, frep_new hN hl⟩
    have st := (ok1.stJ (o := .own y) hdy).trans (Ok.stS (m := .ins C N (noneV N)) (o := .ins C dy []) (ok1.junk (o := .own y) hdy) hy2)
    exact ⟨W1, _, .ref y :: ds, _, X1, ok2, ⟨_, _, rfl, rfl, r1⟩, h1 y (ok1.fresh hy).2, fun d S2 v W2 H2 ⟨hd, h2⟩ s2 ok3 r2 => by
      subst hd
      exact ⟨r2, cv _ S2 _ W2 H2 h2 (s1.trans (st.trans s2)) ok3 rfl⟩, cx.mono (s1.trans st)⟩, cx⟩⟩
end

/-! ### a mutable object as data from now on; a mutable list lent as data -/
def allV : DE → Option (List D)
  | [] => some []
  | none :: _ => none
  | some d :: r => (allV r).map (d :: ·)
def frzD (S : Sto) (d : D) (Q : Qd) : Prop := match d with
  | .ref a => match S a with
    | some (.lst xs) => Q (.lst xs) (del S a)
    | some (.ins C N xs) => some! (allV xs) fun ys => Q (.obj C N ys) (del S a)
    | _ => False
  | _ => Q d S
def wFrz (w : WPe) : WPe := fun env S Q X => w env S (fun d S1 => frzD S1 d Q) X
theorem allV_get : ∀ {xs : DE} {ys : List D}, allV xs = some ys → ys.length = xs.length ∧ ∀ i, getV xs i = ys[i]?
  | [], ys, h => by
    cases h
    exact ⟨rfl, fun i => by simp [getV]⟩
  | none :: _, ys, h => by cases h
  | some d :: r, ys, h => by
    have h' : (allV r).map (d :: ·) = some ys := h
    cases q : allV r with
    | none => rw [q] at h'; cases h'
    | some zs =>
      rw [q] at h'
      cases h'
      obtain ⟨a, b⟩ := allV_get q
      refine ⟨congrArg (· + 1) a, fun i => ?_⟩
      cases i with
      | zero => rfl
      | succ i => exact b i
theorem reps_of_get {K : PySem.W.Frag} {W : Hp} : ∀ {ys : List D} {g : Nat → Option V}, (∀ i d, ys[i]? = some d → ∃ v, g i = some v ∧ Rep K W d v) → (∀ i, ys.length ≤ i → g i = none) → ∃ vs : List V, Reps K W ys vs ∧ ∀ i, g i = vs[i]?
  | [], g, _, h2 => ⟨[], rfl, fun i => by rw [h2 i (Nat.zero_le _)]; simp⟩
  | d :: r, g, h1, h2 => by
    obtain ⟨v, e, rv⟩ := h1 0 d rfl
    obtain ⟨vs, rr, q⟩ := reps_of_get (ys := r) (g := fun i => g (i + 1)) (fun i d h => h1 (i + 1) d h) (fun i h => h2 (i + 1) (Nat.succ_le_succ h))
    refine ⟨v :: vs, ⟨v, vs, rfl, rv, rr⟩, fun i => ?_⟩
    cases i with
    | zero => exact e
    | succ i => exact q i
theorem frz_go {K : PySem.W.Frag} {W : Hp} {S : Sto} {H : Hp} {d : D} {v : V} {Q0 : Qd} {Q : VK} (ok : Ok K W S H) (r : Rep K W d v) (h : frzD S d Q0) (cv : CV K W S H Q0 Q) : Q v H := by
  cases d with
  | ref a =>
    have r' : v = .ref a := r
    subst r'
    cases q : S a with
    | none => unfold frzD at h; simp only [q] at h
    | some mo =>
      obtain ⟨o, e1, e2⟩ := ok.sto _ _ q
      have hW := ok.sep _ _ q
      cases mo with
      | lst xs =>
        unfold frzD at h
        simp only [q] at h
        obtain ⟨vs, e3, e4⟩ := e2
        subst e3
        exact cv _ _ _ _ _ h (ok.stF q) (ok.frz q e1) ⟨a, vs, rfl, upd_same, e4.mono (same_new hW)⟩
      | ins C N xs =>
        unfold frzD at h
        simp only [q] at h
        obtain ⟨ys, e5, h⟩ := some!_ex h
        obtain ⟨dx, gs, e3, fr⟩ := e2
        subst e3
        obtain ⟨l1, g1⟩ := allV_get e5
        have hlen : N.length = ys.length := by rw [l1, fr.len]
        obtain ⟨vs, rv, gv⟩ := reps_of_get (K := K) (W := W) (ys := ys) (g := fun i => (N[i]?).bind fun f => gs.lookup f) (fun i d hd => by
          have hi : i < N.length := by rw [hlen]; exact lt_of_some hd
          obtain ⟨v, c, rr⟩ := fr.is i N[i] d (List.getElem?_eq_getElem hi) (by rw [g1]; exact hd)
          exact ⟨v, by rw [List.getElem?_eq_getElem hi]; exact c, rr⟩) (fun i hi => by
          rw [List.getElem?_eq_none (by omega)]; rfl)
        refine cv _ _ _ _ _ h (ok.stF q) (ok.frz q e1) ⟨a, dx, gs, vs, rfl, upd_same, fun i f hf => ?_, fr.out, rv.mono (same_new hW)⟩
        rw [← gv i]
        show _ = (N[i]?).bind _
        rw [hf]; rfl
      | _ =>
        unfold frzD at h
        simp only [q] at h
  | _ => exact cv _ _ _ _ _ h Stp.refl ok r
section
variable {X : Cx} {e : Expr} {w : WPe}
theorem pd_frz (h : PD X e w) : PD X e (wFrz w) := ⟨fun Wx tk => PE.imp (h.run Wx tk) fun σ H Q ⟨W, env, S, Q0, X1, ok, sl, hw, cv, cx⟩ => ⟨W, env, S, _, X1, ok, sl, hw, fun d S1 v W1 H1 h1 s1 ok1 r1 => frz_go ok1 r1 h1 (cv.mono s1), cx⟩⟩
end
end DL
set_option Elab.async false
set_option linter.all false
set_option maxRecDepth 100000
set_option maxHeartbeats 2000000
/-! The data layer, part d: operations of values. -/
namespace DL
open PySem PySem.Spec PyProof.Rows L2

/-! ### lists and tuples, however held -/
def seqM (S : Sto) (d : D) : Option (List D) := match d with
  | .lst xs => some xs
  | .ref a => match S a with
    | some (.lst xs) => some xs
    | _ => none
  | _ => none
def seqL (S : Sto) (d : D) : Option (List D) := match d with
  | .fro xs => some xs
  | d => seqM S d
/-- a list or a tuple -/
def seqA (S : Sto) (d : D) : Option (List D) := match d with
  | .tup xs => some xs
  | d => seqL S d
section
variable {K : PySem.W.Frag} {W : Hp} {S : Sto} {H : Hp} {d : D} {v : V} {xs : List D}
theorem seqM_rep (ok : Ok K W S H) (r : Rep K W d v) (h : seqM S d = some xs) : ∃ a vs, v = .ref a ∧ H a = some (.lst vs) ∧ Reps K W xs vs := by
  cases d with
  | lst ys =>
    cases h
    obtain ⟨a, vs, e1, e2, e3⟩ := r
    exact ⟨a, vs, e1, ok.vis _ _ e2, e3⟩
  | ref a =>
    have h' : (match S a with | some (.lst xs) => some xs | _ => none) = some xs := h
    cases q : S a with
    | none => rw [q] at h'; cases h'
    | some m =>
      rw [q] at h'
      cases m with
      | lst ys =>
        cases h'
        obtain ⟨o, e1, vs, e2, e3⟩ := ok.sto _ _ q
        subst e2
        exact ⟨a, vs, r, e1, e3⟩
      | _ => cases h'
  | _ => cases h
theorem seqL_rep (ok : Ok K W S H) (r : Rep K W d v) (h : seqL S d = some xs) : ∃ a vs, v = .ref a ∧ SqL K H a vs ∧ Reps K W xs vs := by
  cases d with
  | fro ys =>
    cases h
    obtain ⟨a, vs, e1, e2, e3⟩ := r
    exact ⟨a, vs, e1, sqL_mono ok.vis e2, e3⟩
  | lst ys =>
    obtain ⟨a, vs, e1, e2, e3⟩ := seqM_rep ok r h
    exact ⟨a, vs, e1, SqL.of e2, e3⟩
  | ref a =>
    obtain ⟨a, vs, e1, e2, e3⟩ := seqM_rep ok r h
    exact ⟨a, vs, e1, SqL.of e2, e3⟩
  | _ => cases h
theorem seqA_rep (ok : Ok K W S H) (r : Rep K W d v) (h : seqA S d = some xs) : ∃ a vs, v = .ref a ∧ (SqL K H a vs ∨ SqT K H a vs) ∧ Reps K W xs vs := by
  cases d with
  | tup ys =>
    cases h
    obtain ⟨a, vs, e1, e2, e3⟩ := r
    exact ⟨a, vs, e1, .inr (sqT_mono ok.vis e2), e3⟩
  | fro ys =>
    obtain ⟨a, vs, e1, e2, e3⟩ := seqL_rep ok r h
    exact ⟨a, vs, e1, .inl e2, e3⟩
  | lst ys =>
    obtain ⟨a, vs, e1, e2, e3⟩ := seqL_rep ok r h
    exact ⟨a, vs, e1, .inl e2, e3⟩
  | ref a =>
    obtain ⟨a, vs, e1, e2, e3⟩ := seqL_rep ok r h
    exact ⟨a, vs, e1, .inl e2, e3⟩
  | _ => cases h
theorem seqM_put {p : Addr} {m : MO} (h : seqM S d = some xs) (hp : S p = none) : seqM (put S p m) d = some xs := by
  cases d with
  | ref a =>
    have h' : (match S a with | some (.lst xs) => some xs | _ => none) = some xs := h
    have ne : a ≠ p := fun e => by subst e; rw [hp] at h'; cases h'
    show (match put S p m a with | some (.lst xs) => some xs | _ => none) = some xs
    rw [put_ne ne]; exact h'
  | _ => exact h
theorem seqL_put {p : Addr} {m : MO} (h : seqL S d = some xs) (hp : S p = none) : seqL (put S p m) d = some xs := by
  cases d with
  | fro ys => exact h
  | ref a => exact seqM_put (d := .ref a) h hp
  | lst ys => exact h
  | _ => cases h
theorem seqA_put {p : Addr} {m : MO} (h : seqA S d = some xs) (hp : S p = none) : seqA (put S p m) d = some xs := by
  cases d with
  | tup ys => exact h
  | fro ys => exact h
  | ref a => exact seqM_put (d := .ref a) h hp
  | lst ys => exact h
  | _ => cases h
/-- a change at p, which is not this list -/
theorem seqA_chg {p : Addr} {m : MO} (h : seqA S d = some xs) (hp : ∀ a, d = .ref a → a ≠ p) : seqA (put S p m) d = some xs := by
  cases d with
  | ref a =>
    have h' : (match S a with | some (.lst xs) => some xs | _ => none) = some xs := h
    show (match put S p m a with | some (.lst xs) => some xs | _ => none) = some xs
    rw [put_ne (hp a rfl)]; exact h'
  | _ => exact h
theorem vals_le {P : Program} {w : World} {h : Heap} {a : Addr} {vs : List V} (hok : HOk P w H h) (e : H a = some (.lst vs)) : vs.length ≤ sizeLine := (hok a _ e).1
end

/-! ### ints in data -/
def toInts : List D → Option (List Int)
  | [] => some []
  | .int i :: r => (toInts r).map (i :: ·)
  | _ :: _ => none
theorem toInts_map : ∀ ns : List Int, toInts (ns.map D.int) = some ns
  | [] => rfl
  | i :: r => by
    show (toInts (r.map D.int)).map (i :: ·) = some (i :: r)
    rw [toInts_map r]; rfl
theorem toInts_rep {K : PySem.W.Frag} {W : Hp} : ∀ {xs : List D} {ns : List Int} {vs : List V}, toInts xs = some ns → Reps K W xs vs → vs = ns.map V.int
  | [], ns, vs, h, r => by
    cases h
    exact r
  | .int i :: xs, ns, vs, h, ⟨v, q, e1, e2, e3⟩ => by
    have h' : (toInts xs).map (i :: ·) = some ns := h
    cases z : toInts xs with
    | none => rw [z] at h'; cases h'
    | some ms =>
      rw [z] at h'
      cases h'
      subst e1
      have e2' : v = .int i := e2
      rw [toInts_rep z e3, e2']; rfl
  | .non :: _, _, _, h, _ => by cases h
  | .bl _ :: _, _, _, h, _ => by cases h
  | .str _ :: _, _, _, h, _ => by cases h
  | .ref _ :: _, _, _, h, _ => by cases h
  | .lst _ :: _, _, _, h, _ => by cases h
  | .tup _ :: _, _, _, h, _ => by cases h
  | .fro _ :: _, _, _, h, _ => by cases h
  | .obj _ _ _ :: _, _, _, h, _ => by cases h
  | .exc _ _ _ _ _ :: _, _, _, h, _ => by cases h
def toBls : List D → Option (List Bool)
  | [] => some []
  | .bl i :: r => (toBls r).map (i :: ·)
  | _ :: _ => none
theorem toBls_map : ∀ ns : List Bool, toBls (ns.map D.bl) = some ns
  | [] => rfl
  | i :: r => by
    show (toBls (r.map D.bl)).map (i :: ·) = some (i :: r)
    rw [toBls_map r]; rfl
theorem toBls_rep {K : PySem.W.Frag} {W : Hp} : ∀ {xs : List D} {ns : List Bool} {vs : List V}, toBls xs = some ns → Reps K W xs vs → vs = ns.map V.bl
  | [], ns, vs, h, r => by
    cases h
    exact r
  | .bl i :: xs, ns, vs, h, ⟨v, q, e1, e2, e3⟩ => by
    have h' : (toBls xs).map (i :: ·) = some ns := h
    cases z : toBls xs with
    | none => rw [z] at h'; cases h'
    | some ms =>
      rw [z] at h'
      cases h'
      subst e1
      have e2' : v = .bl i := e2
      rw [toBls_rep z e3, e2']; rfl
  | .non :: _, _, _, h, _ => by cases h
  | .int _ :: _, _, _, h, _ => by cases h
  | .str _ :: _, _, _, h, _ => by cases h
  | .ref _ :: _, _, _, h, _ => by cases h
  | .lst _ :: _, _, _, h, _ => by cases h
  | .tup _ :: _, _, _, h, _ => by cases h
  | .fro _ :: _, _, _, h, _ => by cases h
  | .obj _ _ _ :: _, _, _, h, _ => by cases h
  | .exc _ _ _ _ _ :: _, _, _, h, _ => by cases h

/-! ### operators on ints -/
section
variable {X : Cx}
def oI (C : Int → Int → Prop) (g : Int → Int → D) : O2 := fun S x y Q => match x, y with
  | .int i, .int j => C i j ∧ Q (g i j) S
  | _, _ => False
def oI0 (g : Int → Int → D) : O2 := fun S x y Q => match x, y with
  | .int i, .int j => Q (g i j) S
  | _, _ => False
theorem OpR.imp {f : Value → Value → Sem Value} {r r' : R2} (h : OpR X f r) (i : ∀ x y H Q, r' x y H Q → r x y H Q) : OpR X f r' := fun pins s σ H x y v u Q I rx ry q => h pins s σ H x y v u Q I rx ry (i _ _ _ _ q)
theorem opI_of {f : Value → Value → Sem Value} {C : Int → Int → Prop} {g : Int → Int → D} {gv : Int → Int → V} (h : OpR X f (rI C gv)) (r : ∀ i j W, Rep X.K W (g i j) (gv i j)) : OpR X f (lOp X.K (oI C g)) :=
  OpR.imp h fun x y H Q ⟨W, S, a, b, Q0, ok, ra, rb, ho, cv⟩ => by
    cases a with
    | int i =>
      cases b with
      | int j => exact ⟨i, j, ra, rb, ho.1, cv _ S _ W H ho.2 Stp.refl ok (r i j W)⟩
      | _ => exact ho.elim
    | _ => exact ho.elim
theorem opI0_of {f : Value → Value → Sem Value} {g : Int → Int → D} {gv : Int → Int → V} (h : OpR X f (rI0 gv)) (r : ∀ i j W, Rep X.K W (g i j) (gv i j)) : OpR X f (lOp X.K (oI0 g)) :=
  OpR.imp h fun x y H Q ⟨W, S, a, b, Q0, ok, ra, rb, ho, cv⟩ => by
    cases a with
    | int i =>
      cases b with
      | int j => exact ⟨i, j, ra, rb, cv _ S _ W H ho Stp.refl ok (r i j W)⟩
      | _ => exact ho.elim
    | _ => exact ho.elim
abbrev oSub : O2 := oI0 fun i j => .int (i - j)
abbrev oMul : O2 := oI CMulW fun i j => .int (i * j)
abbrev oDiv : O2 := oI CDivW fun i j => .int (i / j)
abbrev oMod : O2 := oI (fun _ j => 0 < j) fun i j => .int (i % j)
abbrev oPow : O2 := oI CPow fun i j => .int (i ^ j.toNat)
abbrev oLt : O2 := oI0 fun i j => .bl (decide (i < j))
abbrev oLe : O2 := oI0 fun i j => .bl (decide (i ≤ j))
abbrev oGt : O2 := oI0 fun i j => .bl (decide (j < i))
abbrev oGe : O2 := oI0 fun i j => .bl (decide (j ≤ i))
theorem opd_sub : OpR X (binaryOp .Sub) (lOp X.K oSub) := opI0_of op_sub fun _ _ _ => rfl
theorem opd_mul : OpR X (binaryOp .Mult) (lOp X.K oMul) := opI_of op_mulW fun _ _ _ => rfl
theorem opd_div : OpR X (binaryOp .FloorDiv) (lOp X.K oDiv) := opI_of op_fdivW fun _ _ _ => rfl
theorem opd_mod : OpR X (binaryOp .Mod) (lOp X.K oMod) := opI_of op_mod fun _ _ _ => rfl
theorem opd_pow : OpR X (binaryOp .Pow) (lOp X.K oPow) := opI_of op_pow fun _ _ _ => rfl
theorem opd_lt : OpR X (compareOp .Lt) (lOp X.K oLt) := opI0_of op_lt fun _ _ _ => rfl
theorem opd_le : OpR X (compareOp .LtE) (lOp X.K oLe) := opI0_of op_le fun _ _ _ => rfl
theorem opd_gt : OpR X (compareOp .Gt) (lOp X.K oGt) := opI0_of op_gt fun _ _ _ => rfl
theorem opd_ge : OpR X (compareOp .GtE) (lOp X.K oGe) := opI0_of op_ge fun _ _ _ => rfl
theorem iopd_add : OpR X (inplaceOp .Add) (lOp X.K (oI0 fun i j => .int (i + j))) := opI0_of iop_add fun _ _ _ => rfl
theorem iopd_sub : OpR X (inplaceOp .Sub) (lOp X.K oSub) := opI0_of iop_sub fun _ _ _ => rfl
/-- -i -/
def oNeg : O1 := fun S x Q => match x with
  | .int i => Q (.int (-i)) S
  | _ => False
theorem und_neg : UnR X (unaryOp .USub) (lU X.K oNeg) := fun pins s σ H x v Q I rx h => by
  obtain ⟨W, S, a, Q0, ok, ra, ho, cv⟩ := h
  cases a with
  | int i => exact un_neg pins s σ H x v Q I rx ⟨i, ra, cv _ S _ W H ho Stp.refl ok rfl⟩
  | _ => exact ho.elim

/-! ### + of ints, texts, lists, tuples -/
def oCatL : O2 := fun S x y Q => some! (seqM S x) fun xs => some! (seqM S y) fun ys => xs.length + ys.length ≤ sizeLine ∧ Q (.lst (xs ++ ys)) S
def oAdd : O2 := fun S x y Q => match x, y with
  | .int i, .int j => Q (.int (i + j)) S
  | .str a, .str b => a.length + b.length ≤ sizeLine ∧ Q (.str (a ++ b)) S
  | .tup xs, .tup ys => xs.length + ys.length ≤ sizeLine ∧ Q (.tup (xs ++ ys)) S
  | x, y => oCatL S x y Q
theorem opd_add : OpR X (binaryOp .Add) (lOp X.K oAdd) := fun pins s σ H x y v u Q I rx ry h => by
  obtain ⟨W, S, a, b, Q0, ok, ra, rb, ho, cv⟩ := h
  have catL : oCatL S a b Q0 → wpAny (model X.prog X.w) X.A (binaryOp .Add v u) (EP X pins σ Q) X.xe s := fun z => by
    obtain ⟨xs, e1, z⟩ := some!_ex z
    obtain ⟨ys, e2, hz, z⟩ := some!_ex z
    obtain ⟨p, vs, rfl, hp, r1⟩ := seqM_rep ok ra e1
    obtain ⟨q, ws, rfl, hq, r2⟩ := seqM_rep ok rb e2
    refine op_cat pins s σ H _ _ v u Q I rx ry ⟨p, q, vs, ws, rfl, rfl, hp, hq, by rw [r1.length, r2.length]; exact hz, fun o no => ?_⟩
    have n := ok.fresh no
    exact cv _ S _ _ _ z (ok.stW no) (ok.newW no) ⟨o, _, rfl, upd_same, (r1.append r2).mono (same_new n.1)⟩
  cases a with
  | int i =>
    cases b with
    | int j => exact op_add pins s σ H _ _ v u Q I rx ry ⟨i, j, ra, rb, cv _ S _ W H ho Stp.refl ok rfl⟩
    | _ => exact catL ho
  | str i =>
    cases b with
    | str j => exact op_add_str pins s σ H _ _ v u Q I rx ry ⟨i, j, ra, rb, ho.1, cv _ S _ W H ho.2 Stp.refl ok rfl⟩
    | _ => exact catL ho
  | tup xs =>
    cases b with
    | tup ys =>
      obtain ⟨p, vs, rfl, hp, r1⟩ := id ra
      obtain ⟨q, ws, rfl, hq, r2⟩ := id rb
      have hp' := sqT_mono ok.vis hp
      have hq' := sqT_mono ok.vis hq
      refine op_catA pins s σ H _ _ v u Q I rx ry ⟨p, q, vs, ws, rfl, rfl, hp', hq', by rw [r1.length, r2.length]; exact ho.1, fun z => ?_, fun z1 z2 => ?_, fun z1 z2 o no => ?_⟩
      · subst z
        have e : xs = [] := List.eq_nil_of_length_eq_zero (by rw [← r1.length]; rfl)
        subst e
        exact cv _ S _ W H ho.2 Stp.refl ok ⟨q, ws, rfl, hq, r2⟩
      · subst z2
        have e : ys = [] := List.eq_nil_of_length_eq_zero (by rw [← r2.length]; rfl)
        subst e
        refine cv _ S _ W H ho.2 Stp.refl ok ⟨p, vs, rfl, hp, ?_⟩
        rw [List.append_nil]; exact r1
      · have n := ok.fresh no
        exact cv _ S _ _ _ ho.2 (ok.stW no) (ok.newW no) ⟨o, _, rfl, SqT.of upd_same, (r1.append r2).mono (same_new n.1)⟩
    | _ => exact catL ho
  | _ => exact catL ho

/-! ### == and != of data -/
mutual
def toP : D → PyData
  | .non => .none
  | .bl b => .bool b
  | .int i => .int i
  | .str x => .str x
  | .lst xs => .list (toPs xs)
  | .fro xs => .list (toPs xs)
  | .tup xs => .tuple (toPs xs)
  | .ref _ => .dict []
  | .obj _ _ _ => .dict []
  | .exc _ _ _ _ _ => .dict []
def toPs : List D → List PyData
  | [] => []
  | d :: r => toP d :: toPs r
end
mutual
theorem dp_of {K : PySem.W.Frag} {W H : Hp} (e : Same W H) : ∀ {d : D} {v : V}, Rep K W d v → (toP d).canLay0 = true → Dp K H v (toP d)
  | .non, _, h, _ => by rw [show _ = V.non from h]; exact .non
  | .bl b, _, h, _ => by rw [show _ = V.bl b from h]; exact .bl b
  | .int i, _, h, _ => by rw [show _ = V.int i from h]; exact .int i
  | .str x, _, h, _ => by rw [show _ = V.str x from h]; exact .str x
  | .lst xs, _, ⟨a, vs, e1, e2, e3⟩, c => by subst e1; exact .lst (SqL.of (e _ _ e2)) (dps_of e e3 c)
  | .fro xs, _, ⟨a, vs, e1, e2, e3⟩, c => by subst e1; exact .lst (sqL_mono e e2) (dps_of e e3 c)
  | .tup xs, _, ⟨a, vs, e1, e2, e3⟩, c => by subst e1; exact .tup (sqT_mono e e2) (dps_of e e3 c)
  | .ref _, _, _, c => by cases c
  | .obj _ _ _, _, _, c => by cases c
  | .exc _ _ _ _ _, _, _, c => by cases c
theorem dps_of {K : PySem.W.Frag} {W H : Hp} (e : Same W H) : ∀ {d : List D} {v : List V}, Reps K W d v → PyData.canLayAll0 (toPs d) = true → DpAll K H v (toPs d)
  | [], _, h, _ => by rw [show _ = ([] : List V) from h]; exact .nil
  | d :: ds, _, ⟨v, r, e1, e2, e3⟩, c => by
    subst e1
    have c' : ((toP d).canLay0 && PyData.canLayAll0 (toPs ds)) = true := c
    rw [Bool.and_eq_true] at c'
    exact .cons (dp_of e e2 c'.1) (dps_of e e3 c'.2)
end
/-- a mutable list by what it holds -/
def resD (S : Sto) (d : D) : D := match d with
  | .ref a => match S a with
    | some (.lst xs) => .lst xs
    | _ => .ref a
  | _ => d
theorem dp_res {K : PySem.W.Frag} {W H : Hp} {S : Sto} (ok : Ok K W S H) {d : D} {v : V} (r : Rep K W d v) (c : SeqAt.shaped (toP (resD S d)) = true) : Dp K H v (toP (resD S d)) := by
  have c0 := SeqAt.canLay_of_shaped c
  cases d with
  | ref a =>
    have e : resD S (.ref a) = (match S a with | some (.lst xs) => .lst xs | _ => .ref a) := rfl
    cases q : S a with
    | none => rw [e, q] at c0; cases c0
    | some m =>
      cases m with
      | lst xs =>
        rw [e, q] at c0 ⊢
        obtain ⟨o, e1, vs, e2, e3⟩ := ok.sto _ _ q
        subst e2
        have r' : v = .ref a := r
        subst r'
        exact .lst (SqL.of e1) (dps_of ok.vis e3 c0)
      | _ => rw [e, q] at c0; cases c0
  | _ => exact dp_of ok.vis r c0
def eqD (S : Sto) (x y : D) : Bool := PyData.eqv (toP (resD S x)) (toP (resD S y))
def shD (S : Sto) (x : D) : Bool := SeqAt.shaped (toP (resD S x))
def oEq : O2 := fun S x y Q => shD S x = true ∧ shD S y = true ∧ Q (.bl (eqD S x y)) S
def oNe : O2 := fun S x y Q => shD S x = true ∧ shD S y = true ∧ Q (.bl (!eqD S x y)) S
theorem opd_eq (hu : X.A.units + 64 < cLine) : OpR X (compareOp .Eq) (lOp X.K oEq) := OpR.imp (op_eqD hu) fun x y H Q ⟨W, S, a, b, Q0, ok, ra, rb, ho, cv⟩ =>
  ⟨_, _, dp_res ok ra ho.1, dp_res ok rb ho.2.1, ho.1, ho.2.1, cv _ S _ W H ho.2.2 Stp.refl ok rfl⟩
theorem opd_ne (hu : X.A.units + 64 < cLine) : OpR X (compareOp .NotEq) (lOp X.K oNe) := OpR.imp (op_neD hu) fun x y H Q ⟨W, S, a, b, Q0, ok, ra, rb, ho, cv⟩ =>
  ⟨_, _, dp_res ok ra ho.1, dp_res ok rb ho.2.1, ho.1, ho.2.1, cv _ S _ W H ho.2.2 Stp.refl ok rfl⟩
/-- x is None, x is not None -/
def isNon : D → Bool
  | .non => true
  | _ => false
def oIsN : O2 := fun S x y Q => match y with
  | .non => Q (.bl (isNon x)) S
  | _ => False
def oNotN : O2 := fun S x y Q => match y with
  | .non => Q (.bl (!isNon x)) S
  | _ => False
theorem isNon_rep {K : PySem.W.Frag} {W : Hp} {d : D} {v : V} (r : Rep K W d v) : decide (v = .non) = isNon d := by
  cases d with
  | non => rw [show v = V.non from r]; rfl
  | bl b => rw [show v = V.bl b from r]; rfl
  | int b => rw [show v = V.int b from r]; rfl
  | str b => rw [show v = V.str b from r]; rfl
  | ref b => rw [show v = V.ref b from r]; rfl
  | lst xs => obtain ⟨a, vs, e1, _⟩ := r; rw [e1]; rfl
  | fro xs => obtain ⟨a, vs, e1, _⟩ := r; rw [e1]; rfl
  | tup xs => obtain ⟨a, vs, e1, _⟩ := r; rw [e1]; rfl
  | obj C N xs => obtain ⟨a, dx, gs, vs, e1, _⟩ := r; rw [e1]; rfl
  | exc a dd C f x => rw [show v = V.ref a from r.1]; rfl
theorem opd_isN : OpR X (compareOp .Is) (lOp X.K oIsN) := OpR.imp op_isN fun x y H Q ⟨W, S, a, b, Q0, ok, ra, rb, ho, cv⟩ => by
  cases b with
  | non => exact ⟨rb, by rw [isNon_rep ra]; exact cv _ S _ W H ho Stp.refl ok rfl⟩
  | _ => exact ho.elim
theorem opd_notN : OpR X (compareOp .IsNot) (lOp X.K oNotN) := OpR.imp op_notN fun x y H Q ⟨W, S, a, b, Q0, ok, ra, rb, ho, cv⟩ => by
  cases b with
  | non => exact ⟨rb, by rw [isNon_rep ra]; exact cv _ S _ W H ho Stp.refl ok rfl⟩
  | _ => exact ho.elim

/-! ### items, slices -/
def oIx : O2 := fun S x y Q => match y with
  | .int i => some! (seqA S x) fun xs => some! (atI xs i) fun d => Q d S
  | _ => False
theorem reps_at {K : PySem.W.Frag} {W : Hp} {xs : List D} {vs : List V} {i : Int} {d : D} (r : Reps K W xs vs) (h : atI xs i = some d) : ∃ v, atI vs i = some v ∧ Rep K W d v := by
  unfold atI at h ⊢
  rw [r.length]
  cases q : ixN xs.length i with
  | none => rw [q] at h; cases h
  | some j =>
    rw [q] at h
    obtain ⟨v, e, rv⟩ := r.get (i := j) (d := d) h
    exact ⟨v, e, rv⟩
theorem IxR.imp {r r' : R2} (h : IxR X r) (i : ∀ x y H Q, r' x y H Q → r x y H Q) : IxR X r' := fun va sl pins s σ H x y v u Q I rx ry q hs => h va sl pins s σ H x y v u Q I rx ry (i _ _ _ _ q) hs
theorem ixd : IxR X (lOp X.K oIx) := IxR.imp (ix_list.or ix_tup) fun x y H Q ⟨W, S, a, b, Q0, ok, ra, rb, ho, cv⟩ => by
  cases b with
  | int i =>
    obtain ⟨xs, e1, ho⟩ := some!_ex ho
    obtain ⟨d, e2, ho⟩ := some!_ex ho
    obtain ⟨p, vs, rfl, hq, r1⟩ := seqA_rep ok ra e1
    obtain ⟨v, e3, rv⟩ := reps_at r1 e2
    rcases hq with hq | hq
    · exact .inl ⟨p, vs, i, v, rfl, rb, hq, e3, cv d S v W H ho Stp.refl ok rv⟩
    · exact .inr ⟨p, vs, i, v, rfl, rb, hq, e3, cv d S v W H ho Stp.refl ok rv⟩
  | _ => exact ho.elim
def cutD (xs : List D) (lo hi : Option Int) : List D := (xs.drop (HT.sIx xs.length 0 lo)).take (HT.sIx xs.length xs.length hi - HT.sIx xs.length 0 lo)
theorem reps_cut {K : PySem.W.Frag} {W : Hp} {xs : List D} {vs : List V} {lo hi : Option Int} (r : Reps K W xs vs) : Reps K W (cutD xs lo hi) (cutV vs lo hi) := by
  unfold cutD cutV
  rw [r.length]
  exact (r.drop _).take _
/-- a slice: of a list a new list, of a tuple a tuple -/
def oSl (S : Sto) (x : D) (lo hi : Option Int) (Q : Qd) : Prop := match x with
  | .tup xs => Q (.tup (cutD xs lo hi)) S
  | x => some! (seqL S x) fun xs => Q (.lst (cutD xs lo hi)) S
def lSl (K : PySem.W.Frag) : V → Option Int → Option Int → Hp → VK → Prop := fun x lo hi H Q => ∃ W S a Q0, Ok K W S H ∧ Rep K W a x ∧ oSl S a lo hi Q0 ∧ CV K W S H Q0 Q
theorem sld : SlR X (lSl X.K) := by
  intro pins s σ H x v vl vu lo hi sl Q I rx hs pl pu h
  obtain ⟨W, S, a, Q0, ok, ra, ho, cv⟩ := h
  have onL : some! (seqL S a) (fun xs => Q0 (.lst (cutD xs lo hi)) S) → ∃ T id, typeLookup (.type T) "__getitem__" = pure (some (.builtin id)) ∧ s.TypeIs v T ∧ wpAny (model X.prog X.w) X.A (getItem v (.ref sl)) (EP X pins σ Q) X.xe s := fun z => by
    obtain ⟨xs, e1, z⟩ := some!_ex z
    obtain ⟨p, vs, rfl, hp, r1⟩ := seqL_rep ok ra e1
    refine sl_list pins s σ H _ v vl vu lo hi sl Q I rx hs pl pu ⟨p, vs, rfl, hp, fun o no => ?_⟩
    have n := ok.fresh no
    exact cv _ S _ _ _ z (ok.stW no) (ok.newW no) ⟨o, _, rfl, upd_same, (reps_cut r1).mono (same_new n.1)⟩
  cases a with
  | tup xs =>
    obtain ⟨p, vs, rfl, hp, r1⟩ := id ra
    have hp' := sqT_mono ok.vis hp
    refine sl_tupA pins s σ H _ v vl vu lo hi sl Q I rx hs pl pu ⟨p, vs, rfl, hp', fun z => ?_, fun z o no => ?_⟩
    · refine cv _ S _ W H ho Stp.refl ok ⟨p, vs, rfl, hp, ?_⟩
      have e : cutD xs lo hi = xs := by
        unfold cutD
        rw [r1.length] at z
        rw [z.1, z.2, Nat.sub_zero, List.drop_zero, List.take_length]
      rw [e]; exact r1
    · have n := ok.fresh no
      exact cv _ S _ _ _ ho (ok.stW no) (ok.newW no) ⟨o, _, rfl, SqT.of upd_same, (reps_cut r1).mono (same_new n.1)⟩
  | _ => exact onL ho
end
end DL
set_option Elab.async false
set_option linter.all false
set_option maxRecDepth 100000
set_option maxHeartbeats 400000
/-! The data layer, part e: slices' parts, built-in functions. -/
namespace DL
open PySem PySem.Spec PyProof.Rows L2
section
variable {X : Cx}
/-- the parts of a slice -/
abbrev WPo := DE → Sto → (Option Int → Sto → Prop) → XQ → Prop
def lO (K : PySem.W.Frag) (Wx : WX) (w : WPo) : TO := fun σ H Q => ∃ W env S Q0 X0, Ok K W S H ∧ Sl K W env σ ∧ w env S Q0 X0 ∧ (∀ o S' W' H', Q0 o S' → Stp W S H W' S' H' → Ok K W' S' H' → Q o H') ∧ CXc K W S H X0 (fun c d H' => Wx c d σ H')
structure PDo (X : Cx) (e : Option Expr) (w : WPo) : Prop where
  run : ∀ Wx, Takes X Wx → PO X e (lO X.K Wx w)
def wNoP : WPo := fun _ S Q _ => Q none S
def wP (w : WPe) : WPo := fun env S Q X => w env S (fun d S1 => match d with | .int i => Q (some i) S1 | _ => False) X
theorem PO.imp {e : Option Expr} {t t' : TO} (h : PO X e t) (i : ∀ σ H Q, t' σ H Q → t σ H Q) : PO X e t' := ⟨fun pins s σ H Q I q => h.run pins s σ H Q I (i σ H Q q)⟩
theorem pdo_none : PDo X none wNoP := ⟨fun Wx tk => PO.imp po_none fun σ H Q ⟨W, env, S, Q0, X1, ok, sl, hw, cv, cx⟩ => cv none S W H hw Stp.refl ok⟩
variable {e : Expr} {w : WPe} {wl wu : WPo} {lo hi : Option Expr} {pos p2 : Pos}
theorem pdo_some (h : PD X e w) : PDo X (some e) (wP w) := ⟨fun Wx tk => PO.imp (po_some (h.run Wx tk)) fun σ H Q ⟨W, env, S, Q0, X1, ok, sl, hw, cv, cx⟩ => ⟨W, env, S, _, X1, ok, sl, hw, fun d S1 v W1 H1 h1 s1 ok1 r1 => by
  cases d with
  | int i => exact ⟨i, r1, cv (some i) S1 W1 H1 h1 s1 ok1⟩
  | _ => exact h1.elim, cx⟩⟩
def wSl (we : WPe) (wl wu : WPo) : WPe := fun env S Q X => we env S (fun x S1 => wl env S1 (fun lo S2 => wu env S2 (fun hi S3 => oSl S3 x lo hi Q) X) X) X
theorem pd_slice (he : PD X e w) (hl : PDo X lo wl) (hu : PDo X hi wu) : PD X (.Subscript e (.Slice lo hi none p2) pos) (wSl w wl wu) :=
  ⟨fun Wx tk => PE.imp (pe_slice sld (he.run Wx tk) (hl.run Wx tk) (hu.run Wx tk)) fun σ H Q ⟨W, env, S, Q0, X1, ok, sl, hw, cv, cx⟩ => ⟨W, env, S, _, X1, ok, sl, hw, fun d S1 v W1 H1 h1 s1 ok1 r1 =>
    ⟨W1, env, S1, _, X1, ok1, sl.mono s1.vis, h1, fun o S2 W2 H2 h2 s2 ok2 => ⟨W2, env, S2, _, X1, ok2, sl.mono (s1.trans s2).vis, h2, fun o2 S3 W3 H3 h3 s3 ok3 =>
      ⟨W3, S3, d, Q0, ok3, r1.mono (s2.trans s3).vis, h3, cv.mono (s1.trans (s2.trans s3))⟩, cx.mono (s1.trans s2)⟩, cx.mono s1⟩, cx⟩⟩

/-! ### built-in functions -/
def wCB (o : OC) (wa : WPa) : WPe := fun env S Q X => wa env S (fun ds S1 => o S1 ds Q) X
variable {x : Str} {p : Pos} {es : List Expr} {wa : WPa} {fid T : String} {o : OC}
theorem cb_go {K : PySem.W.Frag} {Wx : WX} {σ : L2.St} {H : Hp} {Q : VK} (h : lE K Wx (wCB o wa) σ H Q) : tCB (lC K o) (lA K Wx wa) σ H Q := by
  obtain ⟨W, env, S, Q0, X1, ok, sl, hw, cv, cx⟩ := h
  exact ⟨W, env, S, _, X1, ok, sl, hw, fun ds S1 vs W1 H1 h1 s1 ok1 r1 => ⟨W1, S1, ds, Q0, ok1, r1, h1, cv.mono s1⟩, cx⟩
theorem pd_callB (hc : CallR X (.builtin fid) (lC X.K o)) (hm : X.mg x = none) (hv : bootBuiltins x = some (.builtin fid)) (ha : PDa X (e :: es) wa) (hg : Gl X x := by rfl) (hn : x ≠ "__name__" := by decide) (hdb : (x == ("__debug__" : Str)) = false := by decide)
    (he : starEach (e :: es) X.env = (false, eval e X.env) :: starEach es X.env := by rfl) (hpl : (backTo pos (starEach es X.env)).any (·.1) = false := by rfl) : PD X (.Call (.Name x p) (e :: es) [] pos) (wCB o wa) :=
  ⟨fun Wx tk => PE.imp (pe_callB hc hg hm hv (ha.run Wx tk) hn hdb he hpl) fun _ _ _ h => cb_go h⟩
theorem pd_callTy (hc : CallR X (.type T) (lC X.K o)) (hm : X.mg x = none) (hv : bootBuiltins x = some (.type T)) (ha : PDa X (e :: es) wa) (hg : Gl X x := by rfl) (hn : x ≠ "__name__" := by decide) (hdb : (x == ("__debug__" : Str)) = false := by decide)
    (he : starEach (e :: es) X.env = (false, eval e X.env) :: starEach es X.env := by rfl) (hpl : (backTo pos (starEach es X.env)).any (·.1) = false := by rfl) : PD X (.Call (.Name x p) (e :: es) [] pos) (wCB o wa) :=
  ⟨fun Wx tk => PE.imp (pe_callTy hc hg hm hv (ha.run Wx tk) hn hdb he hpl) fun _ _ _ h => cb_go h⟩
theorem CallR.imp {f : Value} {r r' : List V → Hp → VK → Prop} (h : CallR X f r) (i : ∀ xs H Q, r' xs H Q → r xs H Q) : CallR X f r' := fun pins s σ H xs us Q I rv q => h pins s σ H xs us Q I rv (i _ _ _ q)
theorem reps1 {K : PySem.W.Frag} {W : Hp} {d : D} {vs : List V} (r : Reps K W [d] vs) : ∃ v, vs = [v] ∧ Rep K W d v := by
  obtain ⟨v, q, e1, e2, e3⟩ := r
  have e3' : q = [] := e3
  subst e1 e3'
  exact ⟨v, rfl, e2⟩
theorem reps2 {K : PySem.W.Frag} {W : Hp} {d e : D} {vs : List V} (r : Reps K W [d, e] vs) : ∃ v u, vs = [v, u] ∧ Rep K W d v ∧ Rep K W e u := by
  obtain ⟨v, q, e1, e2, e3⟩ := r
  obtain ⟨u, rfl, e4⟩ := reps1 e3
  exact ⟨v, u, e1, e2, e4⟩
def one (ds : List D) (k : D → Prop) : Prop := match ds with
  | [d] => k d
  | _ => False
def two (ds : List D) (k : D → D → Prop) : Prop := match ds with
  | [d, e] => k d e
  | _ => False
def asI (d : D) (k : Int → Prop) : Prop := match d with
  | .int i => k i
  | _ => False
theorem one_ex {ds : List D} {k : D → Prop} (h : one ds k) : ∃ d, ds = [d] ∧ k d := by
  cases ds with
  | nil => exact h.elim
  | cons d r =>
    cases r with
    | nil => exact ⟨d, rfl, h⟩
    | cons e r => exact h.elim
theorem two_ex {ds : List D} {k : D → D → Prop} (h : two ds k) : ∃ d e, ds = [d, e] ∧ k d e := by
  cases ds with
  | nil => exact h.elim
  | cons d r =>
    cases r with
    | nil => exact h.elim
    | cons e r =>
      cases r with
      | nil => exact ⟨d, e, rfl, h⟩
      | cons f r => exact h.elim
theorem asI_ex {d : D} {k : Int → Prop} (h : asI d k) : ∃ i, d = .int i ∧ k i := by
  cases d with
  | int i => exact ⟨i, rfl, h⟩
  | _ => exact h.elim
/-- len of a list, a tuple, a text -/
def oLen : OC := fun S ds Q => one ds fun d => match d with
  | .str x => x.length ≤ sizeLine ∧ Q (.int (x.length : Nat)) S
  | d => some! (seqA S d) fun xs => Q (.int (xs.length : Nat)) S
theorem cd_len : CallR X (.builtin "len") (lC X.K oLen) := CallR.imp (call_len_seq.or call_len_str) fun vs H Q ⟨W, S, ds, Q0, ok, r, ho, cv⟩ => by
  obtain ⟨d, rfl, ho⟩ := one_ex ho
  obtain ⟨v, rfl, rv⟩ := reps1 r
  have key : some! (seqA S d) (fun xs => Q0 (.int (xs.length : Nat)) S) → (∃ p ys, [v] = [.ref p] ∧ (SqL X.K H p ys ∨ SqT X.K H p ys) ∧ Q (.int ys.length) H) := fun z => by
    obtain ⟨xs, e1, z⟩ := some!_ex z
    obtain ⟨q, ws, rfl, hq, r1⟩ := seqA_rep ok rv e1
    refine ⟨q, ws, rfl, hq, ?_⟩
    rw [r1.length]
    exact cv _ S _ W H z Stp.refl ok rfl
  cases d with
  | str x => exact .inr ⟨x, by rw [show v = .str x from rv], ho.1, cv _ S _ W H ho.2 Stp.refl ok rfl⟩
  | _ => exact .inl (key ho)
/-- int(n) -/
def oInt : OC := fun S ds Q => one ds fun d => match d with
  | .int i => Q (.int i) S
  | .bl k => Q (.int (if k = true then 1 else 0)) S
  | _ => False
theorem cd_int : CallR X (.type "int") (lC X.K oInt) := CallR.imp call_int1 fun vs H Q ⟨W, S, ds, Q0, ok, r, ho, cv⟩ => by
  obtain ⟨d, rfl, ho⟩ := one_ex ho
  obtain ⟨v, rfl, rv⟩ := reps1 r
  cases d with
  | int i => exact .inl ⟨i, by rw [show v = .int i from rv], cv _ S _ W H ho Stp.refl ok rfl⟩
  | bl k =>
    refine .inr ⟨k, by rw [show v = .bl k from rv], cv _ S _ W H ho Stp.refl ok ?_⟩
    cases k <;> rfl
  | _ => exact ho.elim
/-- max, min of two ints -/
def oMax2 : OC := fun S ds Q => two ds fun a b => asI a fun i => asI b fun j => Q (.int (max i j)) S
def oMin2 : OC := fun S ds Q => two ds fun a b => asI a fun i => asI b fun j => Q (.int (min i j)) S
theorem cd_max2 (hc : X.calm = true) : CallR X (.builtin "max") (lC X.K oMax2) := CallR.imp (call_max2 hc) fun vs H Q ⟨W, S, ds, Q0, ok, r, ho, cv⟩ => by
  obtain ⟨a, b, rfl, ho⟩ := two_ex ho
  obtain ⟨i, rfl, ho⟩ := asI_ex ho
  obtain ⟨j, rfl, ho⟩ := asI_ex ho
  obtain ⟨v, u, rfl, rv, ru⟩ := reps2 r
  have e : (if j > i then j else i) = max i j := by
    by_cases h : j > i
    · rw [if_pos h]; omega
    · rw [if_neg h]; omega
  exact ⟨i, j, by rw [show v = .int i from rv, show u = .int j from ru], by rw [e]; exact cv _ S _ W H ho Stp.refl ok rfl⟩
theorem cd_min2 (hc : X.calm = true) : CallR X (.builtin "min") (lC X.K oMin2) := CallR.imp (call_min2 hc) fun vs H Q ⟨W, S, ds, Q0, ok, r, ho, cv⟩ => by
  obtain ⟨a, b, rfl, ho⟩ := two_ex ho
  obtain ⟨i, rfl, ho⟩ := asI_ex ho
  obtain ⟨j, rfl, ho⟩ := asI_ex ho
  obtain ⟨v, u, rfl, rv, ru⟩ := reps2 r
  have e : (if j < i then j else i) = min i j := by
    by_cases h : j < i
    · rw [if_pos h]; omega
    · rw [if_neg h]; omega
  exact ⟨i, j, by rw [show v = .int i from rv, show u = .int j from ru], by rw [e]; exact cv _ S _ W H ho Stp.refl ok rfl⟩
/-- list(xs), tuple(xs) -/
def oList : OC := fun S ds Q => one ds fun d => some! (seqA S d) fun xs => Q (.lst xs) S
def oListM : OC := fun S ds Q => one ds fun d => some! (seqA S d) fun xs => ∀ p, S p = none → Q (.ref p) (put S p (.lst xs))
def oTuple : OC := fun S ds Q => one ds fun d => some! (seqA S d) fun xs => Q (.tup xs) S
theorem cd_list : CallR X (.type "list") (lC X.K oList) := CallR.imp call_list_of fun vs H Q ⟨W, S, ds, Q0, ok, r, ho, cv⟩ => by
  obtain ⟨d, rfl, ho⟩ := one_ex ho
  obtain ⟨v, rfl, rv⟩ := reps1 r
  obtain ⟨xs, e1, z⟩ := some!_ex ho
  obtain ⟨q, ws, rfl, hq, r1⟩ := seqA_rep ok rv e1
  refine ⟨q, ws, rfl, hq, fun l hl => ?_⟩
  have n := ok.fresh hl
  exact cv _ S _ _ _ z (ok.stW hl) (ok.newW hl) ⟨l, ws, rfl, upd_same, r1.mono (same_new n.1)⟩
theorem cd_listM : CallR X (.type "list") (lC X.K oListM) := CallR.imp call_list_of fun vs H Q ⟨W, S, ds, Q0, ok, r, ho, cv⟩ => by
  obtain ⟨d, rfl, ho⟩ := one_ex ho
  obtain ⟨v, rfl, rv⟩ := reps1 r
  obtain ⟨xs, e1, z⟩ := some!_ex ho
  obtain ⟨q, ws, rfl, hq, r1⟩ := seqA_rep ok rv e1
  refine ⟨q, ws, rfl, hq, fun l hl => ?_⟩
  exact cv _ _ _ _ _ (z l (ok.fresh hl).2) (ok.stS hl) (ok.newS hl ⟨ws, rfl, r1⟩) rfl
theorem cd_tuple : CallR X (.type "tuple") (lC X.K oTuple) := CallR.imp call_tuple_of fun vs H Q ⟨W, S, ds, Q0, ok, r, ho, cv⟩ => by
  obtain ⟨d, rfl, ho⟩ := one_ex ho
  obtain ⟨v, rfl, rv⟩ := reps1 r
  obtain ⟨xs, e1, z⟩ := some!_ex ho
  have onL : seqL S d = some xs → ∃ p ys, [v] = [.ref p] ∧ ((SqL X.K H p ys ∧ ∀ l, H l = none → Q (.ref l) (upd H l (.tup ys))) ∨ (SqT X.K H p ys ∧ Q (.ref p) H)) := fun e2 => by
    obtain ⟨q, ws, rfl, hq, r1⟩ := seqL_rep ok rv e2
    refine ⟨q, ws, rfl, .inl ⟨hq, fun l hl => ?_⟩⟩
    have n := ok.fresh hl
    exact cv _ S _ _ _ z (ok.stW hl) (ok.newW hl) ⟨l, ws, rfl, SqT.of upd_same, r1.mono (same_new n.1)⟩
  cases d with
  | tup ys =>
    cases e1
    obtain ⟨q, ws, rfl, hq, r1⟩ := id rv
    exact ⟨q, ws, rfl, .inr ⟨sqT_mono ok.vis hq, cv _ S _ W H z Stp.refl ok rv⟩⟩
  | _ => exact onL e1
/-- all, any of a list of bools; sum, max, min, sorted of a list of ints -/
def oAll : OC := fun S ds Q => one ds fun d => some! (seqL S d) fun xs => some! (toBls xs) fun bs => Q (.bl (bs.all id)) S
def oAny : OC := fun S ds Q => one ds fun d => some! (seqL S d) fun xs => some! (toBls xs) fun bs => Q (.bl (bs.any id)) S
def oSum : OC := fun S ds Q => one ds fun d => some! (seqL S d) fun xs => some! (toInts xs) fun bs => Q (.int bs.sum) S
def oMaxL : OC := fun S ds Q => one ds fun d => some! (seqL S d) fun xs => some! (toInts xs) fun bs => 0 < bs.length ∧ ∀ m, m ∈ bs → (∀ y, y ∈ bs → y ≤ m) → Q (.int m) S
def oMinL : OC := fun S ds Q => one ds fun d => some! (seqL S d) fun xs => some! (toInts xs) fun bs => 0 < bs.length ∧ ∀ m, m ∈ bs → (∀ y, y ∈ bs → m ≤ y) → Q (.int m) S
def oSorted : OC := fun S ds Q => one ds fun d => some! (seqL S d) fun xs => some! (toInts xs) fun bs => ∀ ms : List Int, ms.Perm bs → ms.Pairwise (· ≤ ·) → Q (.lst (ms.map D.int)) S
theorem reps_ints {K : PySem.W.Frag} {W : Hp} : ∀ {ns : List Int}, Reps K W (ns.map D.int) (ns.map V.int)
  | [] => rfl
  | i :: r => ⟨_, _, rfl, rfl, reps_ints⟩
theorem listI {K : PySem.W.Frag} {W : Hp} {S : Sto} {H : Hp} {d : D} {v : V} {k : List Int → Prop} (ok : Ok K W S H) (r : Rep K W d v) (h : some! (seqL S d) fun xs => some! (toInts xs) k) : ∃ a ns, v = .ref a ∧ SqL K H a (ns.map V.int) ∧ k ns := by
  obtain ⟨xs, e1, h⟩ := some!_ex h
  obtain ⟨ns, e2, h⟩ := some!_ex h
  obtain ⟨q, ws, rfl, hq, r1⟩ := seqL_rep ok r e1
  rw [toInts_rep e2 r1] at hq
  exact ⟨q, ns, rfl, hq, h⟩
theorem listB {K : PySem.W.Frag} {W : Hp} {S : Sto} {H : Hp} {d : D} {v : V} {k : List Bool → Prop} (ok : Ok K W S H) (r : Rep K W d v) (h : some! (seqL S d) fun xs => some! (toBls xs) k) : ∃ a ns, v = .ref a ∧ SqL K H a (ns.map V.bl) ∧ k ns := by
  obtain ⟨xs, e1, h⟩ := some!_ex h
  obtain ⟨ns, e2, h⟩ := some!_ex h
  obtain ⟨q, ws, rfl, hq, r1⟩ := seqL_rep ok r e1
  rw [toBls_rep e2 r1] at hq
  exact ⟨q, ns, rfl, hq, h⟩
theorem cd_all (hc : X.calm = true) : CallR X (.builtin "all") (lC X.K oAll) := CallR.imp (cr_all hc) fun vs H Q ⟨W, S, ds, Q0, ok, r, ho, cv⟩ => by
  obtain ⟨d, rfl, ho⟩ := one_ex ho
  obtain ⟨v, rfl, rv⟩ := reps1 r
  obtain ⟨a, bs, rfl, h1, h2⟩ := listB ok rv ho
  exact ⟨a, bs, rfl, h1, cv _ S _ W H h2 Stp.refl ok rfl⟩
theorem cd_any (hc : X.calm = true) : CallR X (.builtin "any") (lC X.K oAny) := CallR.imp (cr_any hc) fun vs H Q ⟨W, S, ds, Q0, ok, r, ho, cv⟩ => by
  obtain ⟨d, rfl, ho⟩ := one_ex ho
  obtain ⟨v, rfl, rv⟩ := reps1 r
  obtain ⟨a, bs, rfl, h1, h2⟩ := listB ok rv ho
  exact ⟨a, bs, rfl, h1, cv _ S _ W H h2 Stp.refl ok rfl⟩
theorem cd_sum (hc : X.calm = true) : CallR X (.builtin "sum") (lC X.K oSum) := CallR.imp (cr_sum hc) fun vs H Q ⟨W, S, ds, Q0, ok, r, ho, cv⟩ => by
  obtain ⟨d, rfl, ho⟩ := one_ex ho
  obtain ⟨v, rfl, rv⟩ := reps1 r
  obtain ⟨a, bs, rfl, h1, h2⟩ := listI ok rv ho
  exact ⟨a, bs, rfl, h1, cv _ S _ W H h2 Stp.refl ok rfl⟩
theorem cd_maxL (hc : X.calm = true) : CallR X (.builtin "max") (lC X.K oMaxL) := CallR.imp (cr_max hc) fun vs H Q ⟨W, S, ds, Q0, ok, r, ho, cv⟩ => by
  obtain ⟨d, rfl, ho⟩ := one_ex ho
  obtain ⟨v, rfl, rv⟩ := reps1 r
  obtain ⟨a, bs, rfl, h1, h2, h3⟩ := listI ok rv ho
  exact ⟨a, bs, rfl, h1, h2, fun m q1 q2 => cv _ S _ W H (h3 m q1 q2) Stp.refl ok rfl⟩
theorem cd_minL (hc : X.calm = true) : CallR X (.builtin "min") (lC X.K oMinL) := CallR.imp (cr_min hc) fun vs H Q ⟨W, S, ds, Q0, ok, r, ho, cv⟩ => by
  obtain ⟨d, rfl, ho⟩ := one_ex ho
  obtain ⟨v, rfl, rv⟩ := reps1 r
  obtain ⟨a, bs, rfl, h1, h2, h3⟩ := listI ok rv ho
  exact ⟨a, bs, rfl, h1, h2, fun m q1 q2 => cv _ S _ W H (h3 m q1 q2) Stp.refl ok rfl⟩
theorem cd_sorted : CallR X (.builtin "sorted") (lC X.K oSorted) := CallR.imp cr_sortedI fun vs H Q ⟨W, S, ds, Q0, ok, r, ho, cv⟩ => by
  obtain ⟨d, rfl, ho⟩ := one_ex ho
  obtain ⟨v, rfl, rv⟩ := reps1 r
  obtain ⟨a, bs, rfl, h1, h2⟩ := listI ok rv ho
  refine ⟨a, bs, rfl, h1, fun ms p q1 q2 hp => ?_⟩
  have n := ok.fresh hp
  exact cv _ S _ _ _ (h2 ms q1 q2) (ok.stW hp) (ok.newW hp) ⟨p, _, rfl, upd_same, reps_ints⟩

/-! ### isinstance of a built-in class -/
/-- the name of a value's type -/
def tyN (S : Sto) (d : D) : Option String := match d with
  | .non => some "NoneType"
  | .bl _ => some "bool"
  | .int _ => some "int"
  | .str _ => some "str"
  | .tup _ => some "tuple"
  | d => (seqL S d).map fun _ => "list"
theorem tyN_rep {K : PySem.W.Frag} {W : Hp} {S : Sto} {H : Hp} {d : D} {v : V} {n : String} (ok : Ok K W S H) (r : Rep K W d v) (h : tyN S d = some n) : TyX K H v (.type n) := by
  have onL : (seqL S d).map (fun _ => "list") = some n → TyX K H v (.type n) := fun z => by
    cases q : seqL S d with
    | none => rw [q] at z; cases z
    | some xs =>
      rw [q] at z
      cases z
      obtain ⟨a, vs, rfl, hq, _⟩ := seqL_rep ok r q
      rcases hq with (hq | ⟨o, hq⟩) | ⟨o, its, m, hk, hc, _⟩
      · exact .base (.lst hq)
      · exact .base (.frz hq)
      · exact .kList hk hc
  cases d with
  | non => cases h; rw [show v = V.non from r]; exact .base .non
  | bl b => cases h; rw [show v = V.bl b from r]; exact .base (.bl b)
  | int b => cases h; rw [show v = V.int b from r]; exact .base (.int b)
  | str b => cases h; rw [show v = V.str b from r]; exact .base (.str b)
  | tup xs =>
    cases h
    obtain ⟨a, vs, rfl, hq, _⟩ := r
    have hq' := sqT_mono ok.vis hq
    rcases hq' with (hq | ⟨o, hq⟩) | ⟨o, its, m, hk, hc, _⟩
    · exact .base (.tup hq)
    · exact .fTuple hq
    · exact .kTuple hk hc
  | _ => exact onL h
/-- isinstance(e, T) -/
def wIsi (T : String) (w : WPe) : WPe := fun env S Q X => w env S (fun d S1 => some! (tyN S1 d) fun n => some! (kitB n T) fun b => Q (.bl b) S1) X
theorem pd_isi {e2 : Expr} (he : PD X e w) (hc : PE X e2 (tC (.ty T))) (hm : X.mg "isinstance" = none) (hg : Gl X "isinstance" := by rfl)
    (hs : starEach [e, e2] X.env = (false, eval e X.env) :: starEach [e2] X.env := by rfl) (hs2 : starEach [e2] X.env = [(false, eval e2 X.env)] := by rfl) (hpl : (backTo pos (starEach [e2] X.env)).any (·.1) = false := by rfl) :
    PD X (.Call (.Name "isinstance" p) [e, e2] [] pos) (wIsi T w) :=
  ⟨fun Wx tk => PE.imp (pe_callB call_isi hg hm (by decide +kernel) (pa_cons (he.run Wx tk) (pa_cons hc pa_nil hs2) hs) (by decide) (by decide) hs hpl) fun σ H Q ⟨W, env, S, Q0, X1, ok, sl, hw, cv, cx⟩ => ⟨W, env, S, _, X1, ok, sl, hw, fun d S1 v W1 H1 h1 s1 ok1 r1 => by
    obtain ⟨n, e1, h1⟩ := some!_ex h1
    obtain ⟨b, e2, h1⟩ := some!_ex h1
    exact ⟨v, .ty T, _, _, b, rfl, .ty T, tyN_rep ok1 r1 e1, kit_ty e2, cv _ S1 _ W1 H1 h1 s1 ok1 rfl⟩, cx⟩⟩
end
end DL
set_option Elab.async false
set_option linter.all false
set_option maxRecDepth 100000
set_option maxHeartbeats 1000000
/-! The data layer, part f: fields, methods of lists, statements, defs. -/
namespace DL
open PySem PySem.Spec PyProof.Rows L2

/-! ### chains -/
section
variable {X : Cx} {a b c : Expr} {pos : Pos} {wa wb wc : WPe} {o o' : O2} {op op' : CmpOp}
theorem chain_go {K : PySem.W.Frag} {Wx : WX} {σ : L2.St} {H : Hp} {Q : VK} (h : lE K Wx (wChain o o' wa wb wc) σ H Q) : tChain (lOp K o) (lOp K o') (lE K Wx wa) (lE K Wx wb) (lE K Wx wc) σ H Q := by
  obtain ⟨W, env, S, Q0, X1, ok, sl, hw, cv, cx⟩ := h
  refine ⟨W, env, S, _, X1, ok, sl, hw, fun x S1 v W1 H1 h1 s1 ok1 r1 => ?_, cx⟩
  refine ⟨W1, env, S1, _, X1, ok1, sl.mono s1.vis, h1, fun y S2 u W2 H2 h2 s2 ok2 r2 => ?_, cx.mono s1⟩
  refine ⟨W2, S2, x, y, _, ok2, r1.mono s2.vis, r2, h2, fun k S3 t W3 H3 h3 s3 ok3 r3 => ?_⟩
  cases k with
  | bl k =>
    refine ⟨k, r3, ?_⟩
    cases k with
    | true =>
      refine iteT ⟨W3, env, S3, _, X1, ok3, sl.mono (s1.trans (s2.trans s3)).vis, (if_pos rfl).mp h3, fun z S4 v4 W4 H4 h4 s4 ok4 r4 => ?_, cx.mono (s1.trans (s2.trans s3))⟩
      exact ⟨W4, S4, y, z, Q0, ok4, r2.mono (s3.trans s4).vis, r4, h4, cv.mono (s1.trans (s2.trans (s3.trans s4)))⟩
    | false => exact iteF (cv _ S3 _ W3 H3 ((if_neg Bool.false_ne_true).mp h3) (s1.trans (s2.trans s3)) ok3 rfl)
  | _ => exact h3.elim
theorem pd_chain (ho : OpR X (compareOp op) (lOp X.K o)) (ho' : OpR X (compareOp op') (lOp X.K o')) (ha : PD X a wa) (hb : PD X b wb) (hc : PD X c wc) (hm : lastMarks [op, op'] [b, c] = false := by with_unfolding_all rfl) :
    PD X (.Compare a [op, op'] [b, c] pos) (wChain o o' wa wb wc) := ⟨fun Wx tk => PE.imp (pe_chain ho ho' (ha.run Wx tk) (hb.run Wx tk) (hc.run Wx tk) hm) fun _ _ _ h => chain_go h⟩
theorem pdt_chain (ho : OpR X (compareOp op) (lOp X.K o)) (ho' : OpR X (compareOp op') (lOp X.K o')) (ha : PD X a wa) (hb : PD X b wb) (hc : PD X c wc) (hm : lastMarks [op, op'] [b, c] = false := by with_unfolding_all rfl) :
    PDt X (.Compare a [op, op'] [b, c] pos) (wTest (wChain o o' wa wb wc)) := ⟨fun Wx tk => PT.imp (pt_chain ho ho' (ha.run Wx tk) (hb.run Wx tk) (hc.run Wx tk) hm) fun σ H Q ⟨W, env, S, Q0, X1, ok, sl, hw, cv, cx⟩ => chain_go ⟨W, env, S, _, X1, ok, sl, hw, fun d S1 v W1 H1 h1 s1 ok1 r1 => by
    cases d with
    | bl k =>
      have e : v = .bl k := r1
      exact ⟨k, e, cv k S1 W1 H1 h1 s1 ok1⟩
    | _ => exact h1.elim, cx⟩⟩
end

/-! ### fields -/
/-- field i of an instance of C with the fields N -/
def fldD (C : Addr) (N : List Str) (i : Nat) (S : Sto) (d : D) (k : D → Prop) : Prop := match d with
  | .ref a => match S a with
    | some (.ins C' N' xs) => (C' = C ∧ N' = N) ∧ some! (getV xs i) k
    | _ => False
  | .obj C' N' xs => (C' = C ∧ N' = N) ∧ some! xs[i]? k
  | _ => False
theorem fldD_rep {K : PySem.W.Frag} {W : Hp} {S : Sto} {H : Hp} {C : Addr} {N : List Str} {i : Nat} {f : Str} {d : D} {v : V} {k : D → Prop} (ok : Ok K W S H) (r : Rep K W d v) (hi : N[i]? = some f) (h : fldD C N i S d k) :
    ∃ a dx gs x u, v = .ref a ∧ H a = some (.ins C dx gs) ∧ gs.lookup f = some u ∧ Rep K W x u ∧ k x := by
  cases d with
  | ref a =>
    have h' : (match S a with | some (.ins C' N' xs) => (C' = C ∧ N' = N) ∧ some! (getV xs i) k | _ => False) := h
    cases q : S a with
    | none => rw [q] at h'; exact h'.elim
    | some mo =>
      rw [q] at h'
      cases mo with
      | ins C' N' xs =>
        obtain ⟨⟨rfl, rfl⟩, h'⟩ := h'
        obtain ⟨x, e, h'⟩ := some!_ex h'
        obtain ⟨o, e3, dx, gs, rfl, fr⟩ := ok.sto _ _ q
        obtain ⟨u, e5, ru⟩ := fr.is i f x hi e
        exact ⟨a, dx, gs, x, u, r, e3, e5, ru, h'⟩
      | _ => exact h'.elim
  | obj C' N' xs =>
    obtain ⟨⟨rfl, rfl⟩, h'⟩ := h
    obtain ⟨x, e, h'⟩ := some!_ex h'
    obtain ⟨a, dx, gs, vs, rfl, e2, e3, _, rr⟩ := r
    obtain ⟨u, e5, ru⟩ := rr.get e
    exact ⟨a, dx, gs, x, u, rfl, ok.vis _ _ e2, (e3 i f hi).trans e5, ru, h'⟩
  | _ => exact h.elim
def wFld (C : Addr) (N : List Str) (i : Nat) (w : WPe) : WPe := fun env S Q X => w env S (fun o S1 => fldD C N i S1 o fun d => Q d S1) X
/-- o.f = e -/
def setD (C : Addr) (N : List Str) (i : Nat) (S : Sto) (o : D) (d : D) (k : Sto → Prop) : Prop := match o with
  | .ref a => match S a with
    | some (.ins C' N' xs) => (C' = C ∧ N' = N) ∧ k (put S a (.ins C N (setV xs i d)))
    | _ => False
  | _ => False
theorem setD_rep {K : PySem.W.Frag} {W : Hp} {S : Sto} {H : Hp} {C : Addr} {N : List Str} {i : Nat} {f : Str} {o d : D} {v u : V} {k : Sto → Prop} (ok : Ok K W S H) (r : Rep K W o v) (rd : Rep K W d u) (hi : N[i]? = some f) (h : setD C N i S o d k) :
    ∃ a dx gs S', v = .ref a ∧ H a = some (.ins C dx gs) ∧ gs.length < 1000 ∧ Stp W S H W S' (upd H a (.ins C dx (putF f u gs))) ∧ Ok K W S' (upd H a (.ins C dx (putF f u gs))) ∧ k S' := by
  cases o with
  | ref a =>
    have h' : (match S a with | some (.ins C' N' xs) => (C' = C ∧ N' = N) ∧ k (put S a (.ins C N (setV xs i d))) | _ => False) := h
    cases q : S a with
    | none => rw [q] at h'; exact h'.elim
    | some mo =>
      rw [q] at h'
      cases mo with
      | ins C' N' xs =>
        obtain ⟨⟨rfl, rfl⟩, h'⟩ := h'
        obtain ⟨o, e3, dx, gs, rfl, fr⟩ := ok.sto _ _ q
        exact ⟨a, dx, gs, _, r, e3, fr.lt, ok.stC (m := .ins C' N' (setV xs i d)) q, ok.chg (m := .ins C' N' (setV xs i d)) q ⟨dx, _, rfl, fr.put hi rd⟩, h'⟩
      | _ => exact h'.elim
  | _ => exact h.elim

/-! ### statements -/
def wSeq (w u : WPs) : WPs := fun env S q => w env S { q with nx := fun e s => u e s q }
def wNext : WPs := fun env S q => q.nx env S
def xcQ (q : QS) (env : DE) : XQ := fun C fs S => q.xc C fs env S
def wSet (i : Nat) (w : WPe) : WPs := fun env S q => w env S (fun d S1 => q.nx (setV env i d) S1) (xcQ q env)
def wDrop (w : WPe) : WPs := fun env S q => w env S (fun _ S1 => q.nx env S1) (xcQ q env)
def wRet (w : WPe) : WPs := fun env S q => w env S q.rt (xcQ q env)
def wRetN : WPs := fun _ S q => q.rt .non S
def wIf (t : WPt) (u v : WPs) : WPs := fun env S q => t env S (fun k S1 => if k = true then u env S1 q else v env S1 q) (xcQ q env)
def wBreak : WPs := fun env S q => q.bk env S
def wCont : WPs := fun env S q => q.ct env S
def wAug (i : Nat) (o : O2) (w : WPe) : WPs := fun env S q => some! (getV env i) fun x => w env S (fun y S1 => o S1 x y fun z S2 => q.nx (setV env i z) S2) (xcQ q env)
def wSetF (C : Addr) (N : List Str) (i : Nat) (wo we : WPe) : WPs := fun env S q => we env S (fun d S1 => wo env S1 (fun o S2 => setD C N i S2 o d fun S3 => q.nx env S3) (xcQ q env)) (xcQ q env)
def wAugF (C : Addr) (N : List Str) (i : Nat) (op : O2) (wo we : WPe) : WPs := fun env S q => wo env S (fun o S1 => fldD C N i S1 o fun x => we env S1 (fun y S2 => op S2 x y fun z S3 => setD C N i S3 o z fun S4 => q.nx env S4) (xcQ q env)) (xcQ q env)
/-- o[i] = e for a list -/
def setIx (S : Sto) (o i d : D) (k : Sto → Prop) : Prop := match o, i with
  | .ref a, .int j => match S a with
    | some (.lst xs) => some! (ixN xs.length j) fun n => k (put S a (.lst (xs.set n d)))
    | _ => False
  | _, _ => False
def wSetI (wo wi we : WPe) : WPs := fun env S q => we env S (fun d S1 => wo env S1 (fun o S2 => wi env S2 (fun i S3 => setIx S3 o i d fun S4 => q.nx env S4) (xcQ q env)) (xcQ q env)) (xcQ q env)
section
variable {X : Cx} {e o i' : Expr} {st : Stmt} {rest : List Stmt} {pos pos' tpos : Pos} {w we wo wi : WPe} {ws u v : WPs} {t : WPt} {i : Nat} {x f : Str} {C : Addr} {N : List Str}
theorem CXc.of {K : PySem.W.Frag} {W : Hp} {S : Sto} {H : Hp} {Wx : WX} {q : QS} {D : Ends} {env : DE} {σ : L2.St} (h : CS K Wx W S H q D) (sl : Sl K W env σ) : CXc K W S H (xcQ q env) (fun c d H' => Wx c d σ H') :=
  fun C fs S' dd gs W' H' q1 s1 ok1 e1 r1 => h.xc C fs env S' dd gs σ W' H' q1 s1 ok1 (sl.mono s1.vis) e1 r1
theorem pss_nilD : PDss X [] wNext := ⟨fun Wx tk => PSs.imp pss_nil fun D σ H ⟨W, env, S, q, ok, sl, hl, hw, cs⟩ => cs.nx env S σ W H hw Stp.refl ok sl hl⟩
theorem pss_consD (h1 : PDs X st ws) (h2 : PDss X rest u) : PDss X (st :: rest) (wSeq ws u) :=
  ⟨fun Wx tk => PSs.imp (pss_cons (h1.run Wx tk) (h2.run Wx tk)) fun D σ H ⟨W, env, S, q, ok, sl, hl, hw, cs⟩ =>
    ⟨W, env, S, _, ok, sl, hl, hw, fun e S1 σ1 W1 H1 h1 s1 ok1 sl1 hl1 => ⟨W1, e, S1, q, ok1, sl1, hl1, h1, cs.mono s1⟩, cs.rt, cs.bk, cs.ct, cs.xc⟩⟩
theorem pss_oneD (h1 : PDs X st ws) : PDss X [st] ws := ⟨fun Wx tk => pss_one (h1.run Wx tk)⟩
theorem pds_set (hN : X.N.Nodup) (hi : X.N[i]? = some x) (hx : Loc X.env.scope x) (he : PD X e w) (hs : swapsWith e (some (.Name x pos')) pos.line X.env = pure false := by rfl) (hf : X.fn x = true ∨ X.env.scope.names.lookup x = some .local := by first | exact .inl rfl | exact .inr rfl | assumption) :
    PDs X (.Assign [.Name x pos'] e pos) (wSet i w) :=
  ⟨fun Wx tk => PS.imp (ps_set hN hi hx (he.run Wx tk) hs hf) fun D σ H ⟨W, env, S, q, ok, sl, hl, hw, cs⟩ => ⟨W, env, S, _, _, ok, sl, hw, fun d S1 v W1 H1 h1 s1 ok1 r1 =>
    cs.nx _ S1 _ W1 H1 h1 s1 ok1 ((sl.mono s1.vis).set (by rw [hl]; exact lt_of_some hi) r1) (by rw [List.length_set]; exact hl), CXc.of cs sl⟩⟩
theorem pds_drop (he : PD X e w) (hs : swapsWith e none pos.line X.env = pure false := by rfl) : PDs X (.Expr e pos) (wDrop w) :=
  ⟨fun Wx tk => PS.imp (ps_expr (he.run Wx tk) hs) fun D σ H ⟨W, env, S, q, ok, sl, hl, hw, cs⟩ => ⟨W, env, S, _, _, ok, sl, hw, fun d S1 v W1 H1 h1 s1 ok1 r1 => cs.nx _ S1 _ W1 H1 h1 s1 ok1 (sl.mono s1.vis) hl, CXc.of cs sl⟩⟩
theorem pds_ret (he : PD X e w) : PDs X (.Return (some e) pos) (wRet w) :=
  ⟨fun Wx tk => PS.imp (ps_ret (he.run Wx tk)) fun D σ H ⟨W, env, S, q, ok, sl, hl, hw, cs⟩ => ⟨W, env, S, _, _, ok, sl, hw, fun d S1 v W1 H1 h1 s1 ok1 r1 => cs.rt d S1 v W1 H1 h1 s1 ok1 r1, CXc.of cs sl⟩⟩
theorem pds_retN : PDs X (.Return none pos) wRetN := ⟨fun Wx tk => PS.imp ps_retN fun D σ H ⟨W, env, S, q, ok, sl, hl, hw, cs⟩ => cs.rt .non S .non W H hw Stp.refl ok rfl⟩
theorem pds_pass : PDs X (.Pass pos) wNext := ⟨fun Wx tk => PS.imp ps_pass fun D σ H ⟨W, env, S, q, ok, sl, hl, hw, cs⟩ => cs.nx env S σ W H hw Stp.refl ok sl hl⟩
theorem pds_doc {y : Str} {j : Nat} : PDs X (.Expr (.Constant (.str y) j pos) pos') wNext := ⟨fun Wx tk => PS.imp ps_doc fun D σ H ⟨W, env, S, q, ok, sl, hl, hw, cs⟩ => cs.nx env S σ W H hw Stp.refl ok sl hl⟩
theorem pds_break : PDs X (.Break pos) wBreak := ⟨fun Wx tk => PS.imp ps_break fun D σ H ⟨W, env, S, q, ok, sl, hl, hw, cs⟩ => cs.bk env S σ W H hw Stp.refl ok sl hl⟩
theorem pds_cont : PDs X (.Continue pos) wCont := ⟨fun Wx tk => PS.imp ps_continue fun D σ H ⟨W, env, S, q, ok, sl, hl, hw, cs⟩ => cs.ct env S σ W H hw Stp.refl ok sl hl⟩
theorem pds_if {a b : List Stmt} (hc : PDt X e t) (ha : PDss X a u) (hb : PDss X b v) : PDs X (.If e a b pos) (wIf t u v) :=
  ⟨fun Wx tk => PS.imp (ps_if (hc.run Wx tk) (ha.run Wx tk) (hb.run Wx tk)) fun D σ H ⟨W, env, S, q, ok, sl, hl, hw, cs⟩ => ⟨W, env, S, _, _, ok, sl, hw, fun k S1 W1 H1 h1 s1 ok1 => by
    cases k with
    | true => exact iteT ⟨W1, env, S1, q, ok1, sl.mono s1.vis, hl, (if_pos rfl).mp h1, cs.mono s1⟩
    | false => exact iteF ⟨W1, env, S1, q, ok1, sl.mono s1.vis, hl, (if_neg Bool.false_ne_true).mp h1, cs.mono s1⟩, CXc.of cs sl⟩⟩
theorem pds_aug {op : Operator} {ob : O2} (hN : X.N.Nodup) (hi : X.N[i]? = some x) (hx : Loc X.env.scope x) (he : PD X e w) (ho : OpR X (inplaceOp op) (lOp X.K ob)) (hf : X.fn x = true ∨ X.env.scope.names.lookup x = some .local := by first | exact .inl rfl | exact .inr rfl | assumption) :
    PDs X (.AugAssign (.Name x pos') op e pos) (wAug i ob w) :=
  ⟨fun Wx tk => PS.imp (ps_aug hN hi hx (he.run Wx tk) ho hf) fun D σ H ⟨W, env, S, q, ok, sl, hl, hw, cs⟩ => by
    obtain ⟨d, e1, hw⟩ := some!_ex hw
    obtain ⟨v, e2, rv⟩ := sl i d e1
    refine ⟨v, e2, W, env, S, _, _, ok, sl, hw, fun y S1 u W1 H1 h1 s1 ok1 r1 => ?_, CXc.of cs sl⟩
    refine ⟨W1, S1, d, y, _, ok1, rv.mono s1.vis, r1, h1, fun z S2 t W2 H2 h2 s2 ok2 r2 => ?_⟩
    exact cs.nx _ S2 _ W2 H2 h2 (s1.trans s2) ok2 ((sl.mono (s1.trans s2).vis).set (by rw [hl]; exact lt_of_some hi) r2) (by rw [List.length_set]; exact hl)⟩
theorem pd_fld (c : Cls X.K C) (n : NoAttr X.K C f) (hi : N[i]? = some f) (he : PD X e w) (hb : attributeBase e f X.env (eval e X.env) = eval e X.env := by rfl) : PD X (.Attribute e f pos) (wFld C N i w) :=
  ⟨fun Wx tk => PE.imp (pe_fld (he.run Wx tk) hb) fun σ H Q ⟨W, env, S, Q0, X1, ok, sl, hw, cv, cx⟩ => ⟨W, env, S, _, X1, ok, sl, hw, fun d S1 v W1 H1 h1 s1 ok1 r1 => by
    obtain ⟨a, dx, gs, y, u, rfl, e1, e2, ru, h2⟩ := fldD_rep ok1 r1 hi h1
    exact ⟨a, C, dx, gs, u, rfl, e1, c, n, e2, cv y S1 u W1 H1 h2 s1 ok1 ru⟩, cx⟩⟩
theorem pds_setF (c : Cls X.K C) (n : NoAttr X.K C f) (hi : N[i]? = some f) (ho : PD X o wo) (he : PD X e we) (hs : swapsWith e (some (.Attribute o f pos')) pos.line X.env = pure false := by rfl) : PDs X (.Assign [.Attribute o f pos'] e pos) (wSetF C N i wo we) :=
  ⟨fun Wx tk => PS.imp (ps_fld (ho.run Wx tk) (he.run Wx tk) hs) fun D σ H ⟨W, env, S, q, ok, sl, hl, hw, cs⟩ => ⟨W, env, S, _, _, ok, sl, hw, fun d S1 v W1 H1 h1 s1 ok1 r1 =>
    ⟨W1, env, S1, _, _, ok1, sl.mono s1.vis, h1, fun y S2 u W2 H2 h2 s2 ok2 r2 => by
      obtain ⟨a, dx, gs, S3, rfl, e1, e2, st3, ok3, h3⟩ := setD_rep ok2 r2 (r1.mono s2.vis) hi h2
      exact ⟨a, C, dx, gs, rfl, e1, c, n, e2, cs.nx _ S3 _ W2 _ h3 (s1.trans (s2.trans st3)) ok3 (sl.mono (s1.trans s2).vis) hl⟩, CXc.of (cs.mono s1) (sl.mono s1.vis)⟩, CXc.of cs sl⟩⟩
theorem inop_of {op : Operator} {rd : V → V → Hp → VK → Prop} (h : OpR X (inplaceOp op) rd) : InOp X op rd := fun pins s σ H x y u v Q I rx ry q => h pins s σ H x y u v Q I rx ry q
theorem pds_augF {op : Operator} {ob : O2} (c : Cls X.K C) (n : NoAttr X.K C f) (hi : N[i]? = some f) (ho : PD X o wo) (he : PD X e we) (hop : OpR X (inplaceOp op) (lOp X.K ob)) : PDs X (.AugAssign (.Attribute o f tpos) op e pos) (wAugF C N i ob wo we) :=
  ⟨fun Wx tk => PS.imp (ps_fldaug (ho.run Wx tk) (he.run Wx tk) (inop_of hop)) fun D σ H ⟨W, env, S, q, ok, sl, hl, hw, cs⟩ => ⟨W, env, S, _, _, ok, sl, hw, fun d S1 v W1 H1 h1 s1 ok1 r1 => by
    obtain ⟨a, dx, gs, y, u, rfl, e1, e2, ru, h2⟩ := fldD_rep ok1 r1 hi h1
    refine ⟨a, C, dx, gs, u, rfl, e1, c, n, e2, W1, env, S1, _, _, ok1, sl.mono s1.vis, h2, fun z S2 t W2 H2 h3 s2 ok2 r2 => ?_, CXc.of (cs.mono s1) (sl.mono s1.vis)⟩
    refine ⟨W2, S2, y, z, _, ok2, ru.mono s2.vis, r2, h3, fun z2 S3 t2 W3 H3 h4 s3 ok3 r3 => ?_⟩
    obtain ⟨a2, dx2, gs2, S4, e3, e4, e5, st4, ok4, h5⟩ := setD_rep ok3 (r1.mono (s2.trans s3).vis) r3 hi h4
    cases e3
    exact ⟨dx2, gs2, e4, e5, cs.nx _ S4 _ W3 _ h5 (s1.trans (s2.trans (s3.trans st4))) ok4 (sl.mono (s1.trans (s2.trans s3)).vis) hl⟩, CXc.of cs sl⟩⟩
theorem setIx_rep {K : PySem.W.Frag} {W : Hp} {S : Sto} {H : Hp} {o i d : D} {v vi u : V} {k : Sto → Prop} (ok : Ok K W S H) (r : Rep K W o v) (ri : Rep K W i vi) (rd : Rep K W d u) (h : setIx S o i d k) :
    ∃ a xs n j S', v = .ref a ∧ vi = .int j ∧ H a = some (.lst xs) ∧ ixN xs.length j = some n ∧ Stp W S H W S' (upd H a (.lst (xs.set n u))) ∧ Ok K W S' (upd H a (.lst (xs.set n u))) ∧ k S' := by
  cases o with
  | ref a =>
    cases i with
    | int j =>
      have h' : (match S a with | some (.lst xs) => some! (ixN xs.length j) fun n => k (put S a (.lst (xs.set n d))) | _ => False) := h
      cases q : S a with
      | none => rw [q] at h'; exact h'.elim
      | some mo =>
        rw [q] at h'
        cases mo with
        | lst xs =>
          obtain ⟨n, e1, h'⟩ := some!_ex h'
          obtain ⟨o, e3, vs, rfl, rv⟩ := ok.sto _ _ q
          exact ⟨a, vs, n, j, _, r, ri, e3, by rw [rv.length]; exact e1, ok.stC (m := .lst (xs.set n d)) q, ok.chg (m := .lst (xs.set n d)) q ⟨_, rfl, rv.set rd n⟩, h'⟩
        | _ => exact h'.elim
    | _ => exact h.elim
  | _ => exact h.elim
theorem pds_setI {ip : Expr} {p2 : Pos} (ho : PD X o wo) (hi : PD X ip wi) (he : PD X e we) (hs : swapsWithSole [.Subscript o ip p2] e pos.line X.env = pure false := by rfl) (hw : swappedStores [.Subscript o ip p2] e X.env = pure none := by rfl)
    (h1 : (assignEach [.Subscript o ip p2] X.env).map (·.2) = [assign (.Subscript o ip p2) X.env] := by rfl)
    (ha : ∀ v, assign (.Subscript o ip p2) X.env v = (do
      let ov ← holding [v] (eval o X.env)
      let iv ← holding [v, ov] (eval ip X.env)
      standAt p2
      holding [v, ov, iv] (setItem ov iv v)
      release [v, ov, iv] []) := by intro _; rfl) : PDs X (.Assign [.Subscript o ip p2] e pos) (wSetI wo wi we) :=
  ⟨fun Wx tk => PS.imp (ps_asg (he.run Wx tk) (pg_sub (ho.run Wx tk) (hi.run Wx tk) set_list ha) hs hw h1) fun D σ H ⟨W, env, S, q, ok, sl, hl, hw, cs⟩ => ⟨W, env, S, _, _, ok, sl, hw, fun d S1 v W1 H1 h1 s1 ok1 r1 =>
    ⟨W1, env, S1, _, _, ok1, sl.mono s1.vis, h1, fun o1 S2 u W2 H2 h2 s2 ok2 r2 => ⟨W2, env, S2, _, _, ok2, sl.mono (s1.trans s2).vis, h2, fun i1 S3 t W3 H3 h3 s3 ok3 r3 => by
      obtain ⟨a, xs, n, j, S4, rfl, rfl, e1, e2, st4, ok4, h4⟩ := setIx_rep ok3 (r2.mono s3.vis) r3 (r1.mono (s2.trans s3).vis) h3
      exact ⟨a, xs, j, n, rfl, rfl, e1, e2, cs.nx _ S4 _ W3 _ h4 (s1.trans (s2.trans (s3.trans st4))) ok4 (sl.mono (s1.trans (s2.trans s3)).vis) hl⟩, CXc.of (cs.mono (s1.trans s2)) (sl.mono (s1.trans s2).vis)⟩, CXc.of (cs.mono s1) (sl.mono s1.vis)⟩, CXc.of cs sl⟩⟩
end

/-! ### methods of a mutable list -/
def mutL (S : Sto) (d : D) (k : Addr → List D → Prop) : Prop := match d with
  | .ref a => match S a with
    | some (.lst xs) => k a xs
    | _ => False
  | _ => False
theorem mutL_rep {K : PySem.W.Frag} {W : Hp} {S : Sto} {H : Hp} {d : D} {v : V} {k : Addr → List D → Prop} (ok : Ok K W S H) (r : Rep K W d v) (h : mutL S d k) : ∃ a xs vs, d = .ref a ∧ v = .ref a ∧ S a = some (.lst xs) ∧ H a = some (.lst vs) ∧ Reps K W xs vs ∧ k a xs := by
  cases d with
  | ref a =>
    have h' : (match S a with | some (.lst xs) => k a xs | _ => False) := h
    cases q : S a with
    | none => rw [q] at h'; exact h'.elim
    | some mo =>
      rw [q] at h'
      cases mo with
      | lst xs =>
        obtain ⟨o, e3, vs, rfl, rv⟩ := ok.sto _ _ q
        exact ⟨a, xs, vs, rfl, r, q, e3, rv, h'⟩
      | _ => exact h'.elim
  | _ => exact h.elim
def lM (K : PySem.W.Frag) (o : OM) : V → List V → Hp → VK → Prop := fun x xs H Q => ∃ W S d ds Q0, Ok K W S H ∧ Rep K W d x ∧ Reps K W ds xs ∧ o S d ds Q0 ∧ CV K W S H Q0 Q
def wMt (o : OM) (wo : WPe) (wa : WPa) : WPe := fun env S Q X => wo env S (fun x S1 => mutL S1 x fun _ _ => wa env S1 (fun ds S2 => o S2 x ds Q) X) X
theorem MtR.imp {X : Cx} {id : String} {r r' : V → List V → Hp → VK → Prop} (h : MtR X id r) (i : ∀ x xs H Q, r' x xs H Q → r x xs H Q) : MtR X id r' := fun pins s σ H x xs v us Q I rx rs q => h pins s σ H x xs v us Q I rx rs (i _ _ _ _ q)
section
variable {X : Cx} {o e : Expr} {es : List Expr} {name : Str} {apos cpos : Pos} {mid : String} {om : OM} {wo : WPe} {wa : WPa}
theorem pd_lm (slot : Slot "list" name mid) (hty : typeOf (.builtin mid) = pure (.type "method_descriptor")) (hm : MtR X mid (lM X.K om)) (ho : PD X o wo) (ha : PDa X (e :: es) wa)
    (hbase : attributeBase o name X.env (eval o X.env) = eval o X.env := by rfl)
    (hfew : ((backTo cpos (starEach (e :: es) X.env)).all (fun x => !x.1) && (backToKw cpos (keywordEach [] X.env)).all (fun x => x.1.isSome)
      && decide ((e :: es).length + ([] : List Keyword).length + (if ([] : List Keyword).isEmpty then 0 else 1) < 30)) = true := by rfl)
    (hline : (apos.endLine == cpos.line) = true := by rfl) (hs : starEach (e :: es) X.env = (false, eval e X.env) :: starEach es X.env := by rfl) (hplain : (backTo cpos (starEach es X.env)).any (·.1) = false := by rfl) :
    PD X (.Call (.Attribute o name apos) (e :: es) [] cpos) (wMt om wo wa) :=
  ⟨fun Wx tk => PE.imp (pe_bm PySem.F.plainAttrs_list slot hty hm (ho.run Wx tk) (ha.run Wx tk) hbase hfew hline hs hplain) fun σ H Q ⟨W, env, S, Q0, X1, ok, sl, hw, cv, cx⟩ => ⟨W, env, S, _, X1, ok, sl, hw, fun d S1 v W1 H1 h1 s1 ok1 r1 => by
    obtain ⟨a, xs, vs, rfl, rfl, e1, e2, rv, h2⟩ := mutL_rep ok1 r1 h1
    exact ⟨.inl ⟨rfl, vs, SqL.of e2⟩, W1, env, S1, _, X1, ok1, sl.mono s1.vis, h2, fun ds S2 us W2 H2 h3 s2 ok2 r2 => ⟨W2, S2, _, ds, Q0, ok2, r1.mono s2.vis, r2, h3, cv.mono (s1.trans s2)⟩, cx.mono s1⟩, cx⟩⟩
theorem pd_lm0 (slot : Slot "list" name mid) (hty : typeOf (.builtin mid) = pure (.type "method_descriptor")) (hm : MtR X mid (lM X.K om)) (ho : PD X o wo)
    (hbase : attributeBase o name X.env (eval o X.env) = eval o X.env := by rfl) (hline : (apos.endLine == cpos.line) = true := by rfl) :
    PD X (.Call (.Attribute o name apos) [] [] cpos) (wMt om wo wNil) :=
  ⟨fun Wx tk => PE.imp (pe_bm0 PySem.F.plainAttrs_list slot hty hm (ho.run Wx tk) hbase hline) fun σ H Q ⟨W, env, S, Q0, X1, ok, sl, hw, cv, cx⟩ => ⟨W, env, S, _, X1, ok, sl, hw, fun d S1 v W1 H1 h1 s1 ok1 r1 => by
    obtain ⟨a, xs, vs, rfl, rfl, e1, e2, rv, h2⟩ := mutL_rep ok1 r1 h1
    exact ⟨.inl ⟨rfl, vs, SqL.of e2⟩, W1, S1, _, [], Q0, ok1, r1, rfl, h2, cv.mono s1⟩, cx⟩⟩
def oAppend : OM := fun S d ds Q => mutL S d fun a xs => one ds fun e => xs.length < sizeLine ∧ Q .non (put S a (.lst (xs ++ [e])))
theorem md_append : MtR X "list.append" (lM X.K oAppend) := MtR.imp mt_append fun x vs H Q ⟨W, S, d, ds, Q0, ok, r, rs, ho, cv⟩ => by
  obtain ⟨a, xs, us, rfl, rfl, e1, e2, rv, h⟩ := mutL_rep ok r ho
  obtain ⟨y, rfl, hz, h⟩ := one_ex h
  obtain ⟨t, rfl, rt⟩ := reps1 rs
  exact ⟨a, us, t, rfl, rfl, e2, by rw [rv.length]; exact hz, cv _ _ _ _ _ h (ok.stC e1) (ok.chg e1 ⟨_, rfl, rv.append (Reps.one rt)⟩) rfl⟩
def oExtend : OM := fun S d ds Q => mutL S d fun a xs => one ds fun e => some! (seqM S e) fun ys => xs.length + ys.length ≤ sizeLine ∧ Q .non (put S a (.lst (xs ++ ys)))
theorem md_extend : MtR X "list.extend" (lM X.K oExtend) := MtR.imp mt_extend fun x vs H Q ⟨W, S, d, ds, Q0, ok, r, rs, ho, cv⟩ => by
  obtain ⟨a, xs, us, rfl, rfl, e1, e2, rv, h⟩ := mutL_rep ok r ho
  obtain ⟨y, rfl, h⟩ := one_ex h
  obtain ⟨ys, e3, hz, h⟩ := some!_ex h
  obtain ⟨t, rfl, rt⟩ := reps1 rs
  obtain ⟨b, zs, rfl, e4, rz⟩ := seqM_rep ok rt e3
  exact ⟨a, b, us, zs, rfl, rfl, e2, e4, by rw [rv.length, rz.length]; exact hz, cv _ _ _ _ _ h (ok.stC e1) (ok.chg e1 ⟨_, rfl, rv.append rz⟩) rfl⟩
theorem reps_dropLast {K : PySem.W.Frag} {W : Hp} {xs : List D} {vs : List V} (r : Reps K W xs vs) : Reps K W xs.dropLast vs.dropLast := by
  rw [List.dropLast_eq_take, List.dropLast_eq_take, r.length]
  exact r.take _
def oPop : OM := fun S d ds Q => mutL S d fun a xs => ds = [] ∧ some! xs[xs.length - 1]? fun y => Q y (put S a (.lst xs.dropLast))
theorem md_pop : MtR X "list.pop" (lM X.K oPop) := MtR.imp mt_pop fun x vs H Q ⟨W, S, d, ds, Q0, ok, r, rs, ho, cv⟩ => by
  obtain ⟨a, xs, us, rfl, rfl, e1, e2, rv, rfl, h⟩ := mutL_rep ok r ho
  obtain ⟨y, e3, h⟩ := some!_ex h
  obtain ⟨t, e4, rt⟩ := rv.get e3
  have e5 : vs = [] := rs
  exact ⟨a, us, t, rfl, e5, e2, by rw [rv.length]; exact e4, cv _ _ _ _ _ h (ok.stC e1) (ok.chg e1 ⟨_, rfl, reps_dropLast rv⟩) rt⟩
end

/-! ### defs -/
section
variable {P : Program} {w : World} {K : PySem.W.Frag} {mg : Str → Option Value} {base : Heap}
def startD (N : List Str) (ds : List D) : DE := ds.map some ++ List.replicate (N.length - ds.length) none
theorem getV_map : ∀ {ds : List D} {m : Nat} {i : Nat} {d : D}, getV (ds.map some ++ List.replicate m none) i = some d → ds[i]? = some d
  | [], 0, i, d, h => by cases h
  | [], m + 1, 0, d, h => by cases h
  | [], m + 1, i + 1, d, h => by
    have h' := getV_map (ds := []) (m := m) (i := i) h
    simp at h'
  | x :: r, m, 0, d, h => h
  | x :: r, m, i + 1, d, h => getV_map (ds := r) (m := m) (i := i) h
theorem sl_start {W : Hp} {N : List Str} {ds : List D} {vs : List V} (r : Reps K W ds vs) : Sl K W (startD N ds) (L2.start N vs) := fun i d h => by
  obtain ⟨v, e, rv⟩ := r.get (getV_map h)
  refine ⟨v, ?_, rv⟩
  unfold L2.start
  rw [List.getElem?_append_left (by rw [List.length_map]; exact lt_of_some e), List.getElem?_map, e]
  rfl
/-- THE RULE for a def: its body as a derivation, and its reading over data -/
theorem Fun.okD {x qual : Str} {st : Stmt} {f : Addr} {fd : FuncData} {N ps : List Str} {k : Nat} {spec : Ctr} (F : Fun K x qual st f fd) (S : FnScope N ps (defScope st)) (hle : ps.length ≤ N.length)
    (len : ∀ ds S Q E, spec ds S Q E → ds.length = ps.length)
    (hbody : ∀ (cdv : Value) (A : Around) (outer : List Env) (s : Shared) (H : Hp) (E : XK), Room k (A.deeper (envOfC qual (defScope st) s.heap.objs.size f cdv)) →
      ∃ ws, PDss (cxOf (L2.CX P w) P w K mg base N qual (defScope st) f cdv A outer s H E) (defBody st) ws ∧ ∀ ds S Q X1, spec ds S Q X1 → ws (startD N ds) S { nx := fun _ S' => Q .non S', rt := Q, bk := fun _ _ => False, ct := fun _ _ => False, xc := fun C fs _ S' => X1 C fs S' }) :
    FnD P w K mg base (k + 1) f fd ps spec := by
  refine F.okX S (fun vs H Q E ⟨W, S', ds, Q0, X1, ok, r, h, _⟩ => ?_) (fun cdv A outer s H vs Q E hr ⟨W, S', ds, Q0, X1, ok, r, h, cv, cx⟩ => ?_)
  · rw [r.length]; exact len ds S' Q0 X1 h
  · obtain ⟨ws, hp, hq⟩ := hbody cdv A outer s H E hr
    refine ⟨_, hp.run (fun c d σ H' => E c d H') (takes_of rfl rfl rfl rfl), W, _, S', _, ok, sl_start r, ?_, hq ds S' Q0 X1 h, ?_, ?_, ?_, ?_, ?_⟩
    · have e := r.length
      have e2 := len ds S' Q0 X1 h
      show (L2.start N vs).length = N.length
      unfold L2.start
      rw [List.length_append, List.length_map, List.length_replicate]
      omega
    · exact fun _ S1 σ1 W1 H1 h1 s1 ok1 _ _ => cv .non S1 .non W1 H1 h1 s1 ok1 rfl
    · exact fun d S1 v W1 H1 h1 s1 ok1 r1 => cv d S1 v W1 H1 h1 s1 ok1 r1
    · exact fun _ _ _ _ _ h1 _ _ _ => h1.elim
    · exact fun _ _ _ _ _ h1 _ _ _ => h1.elim
    · exact fun C fs _ S1 dd gs _ W1 H1 h1 s1 ok1 _ e1 r1 => cx C fs S1 dd gs W1 H1 h1 s1 ok1 e1 r1
end
end DL
set_option Elab.async false
set_option linter.all false
set_option maxRecDepth 100000
set_option maxHeartbeats 1000000
/-! The data layer, part g: targets, loops, comprehensions. -/
namespace DL
open PySem PySem.Spec PyProof.Rows L2

/-! ### targets: names and tuples of names -/
abbrev WPg := D → DE → (DE → Prop) → Prop
def gN (i : Nat) : WPg := fun d env k => k (setV env i d)
def gAll : List WPg → List D → DE → (DE → Prop) → Prop
  | [], [], env, k => k env
  | g :: gs, d :: ds, env, k => g d env fun e => gAll gs ds e k
  | _, _, _, _ => False
def gT (gs : List WPg) : WPg := fun d env k => match d with
  | .tup xs => xs.length = gs.length ∧ gAll gs xs env k
  | _ => False
def lG (K : PySem.W.Frag) (n : Nat) (vs : List Nat) (t : WPg) : TG := fun v σ H Q => ∃ W S env d k, Ok K W S H ∧ Sl K W env σ ∧ σ.length = n ∧ Rep K W d v ∧ t d env k ∧
  ∀ e σ', k e → Sl K W e σ' → σ'.length = n → wipe σ' vs = wipe σ vs → Q σ' H
def lGs (K : PySem.W.Frag) (n : Nat) (vs : List Nat) (ts : List WPg) : TGs := fun v σ H Q => ∃ W S env d k, Ok K W S H ∧ Sl K W env σ ∧ σ.length = n ∧ Reps K W d v ∧ gAll ts d env k ∧
  ∀ e σ', k e → Sl K W e σ' → σ'.length = n → wipe σ' vs = wipe σ vs → Q σ' H
structure PDg (X : Cx) (tg : Expr) (vs : List Nat) (t : WPg) : Prop where
  run : PG X tg (lG X.K X.N.length vs t)
structure PDgs (X : Cx) (tg : List Expr) (vs : List Nat) (t : List WPg) : Prop where
  run : PGs X tg (lGs X.K X.N.length vs t)
theorem wipe_set : ∀ {vs : List Nat} {σ : L2.St} {i : Nat} {o : Option V}, i ∈ vs → wipe (σ.set i o) vs = wipe σ vs
  | [], _, _, _, h => by cases h
  | v :: vs, σ, i, o, h => by
    show (wipe (σ.set i o) vs).set v none = (wipe σ vs).set v none
    by_cases hi : i ∈ vs
    · rw [wipe_set hi]
    · have e : i = v := by
        cases h with
        | head => rfl
        | tail _ h => exact absurd h hi
      subst e
      have key : ∀ {us : List Nat} {τ : L2.St}, i ∉ us → wipe (τ.set i o) us = (wipe τ us).set i o := fun {us τ} => by
        induction us with
        | nil => intro _; rfl
        | cons u us ih =>
          intro hu
          have h1 : i ≠ u := fun z => hu (by rw [z]; exact List.mem_cons_self)
          show (wipe (τ.set i o) us).set u none = ((wipe τ us).set u none).set i o
          rw [ih (fun z => hu (List.mem_cons_of_mem _ z)), List.set_comm _ _ h1]
      rw [key hi, List.set_set]
theorem PG.imp {X : Cx} {tg : Expr} {g g' : TG} (h : PG X tg g) (i : ∀ v σ H Q, g' v σ H Q → g v σ H Q) : PG X tg g' := ⟨fun pins s σ H v u Q I r q => h.run pins s σ H v u Q I r (i _ _ _ _ q)⟩
theorem PGs.imp {X : Cx} {tg : List Expr} {g g' : TGs} (h : PGs X tg g) (i : ∀ v σ H Q, g' v σ H Q → g v σ H Q) : PGs X tg g' := ⟨fun pins s σ H v u Q I r q => h.run pins s σ H v u Q I r (i _ _ _ _ q)⟩
section
variable {X : Cx} {pos : Pos} {vs : List Nat} {x : Str} {i : Nat} {e : Expr} {es : List Expr} {t : WPg} {ts : List WPg}
theorem pdg_name (hN : X.N.Nodup) (hi : X.N[i]? = some x) (hx : Loc X.env.scope x) (hv : i ∈ vs) (hf : X.fn x = true ∨ X.env.scope.names.lookup x = some .local := by first | exact .inl rfl | exact .inr rfl | assumption) : PDg X (.Name x pos) vs (gN i) :=
  ⟨PG.imp (pg_name hN hi hx hf) fun v σ H Q ⟨W, S, env, d, k, ok, sl, hl, r, ht, hq⟩ => hq _ _ ht (sl.set (by rw [hl]; exact lt_of_some hi) r) (by rw [List.length_set]; exact hl) (wipe_set hv)⟩
theorem pdgs_nil : PDgs X [] vs [] := ⟨PGs.imp pgs_nil fun v σ H Q ⟨W, S, env, d, k, ok, sl, hl, r, ht, hq⟩ => by
  cases d with
  | nil => exact ⟨r, hq _ _ ht sl hl rfl⟩
  | cons _ _ => exact ht.elim⟩
theorem pdgs_cons (h1 : PDg X e vs t) (h2 : PDgs X es vs ts) (hs : (assignEach (e :: es) X.env).map (·.2) = assign e X.env :: (assignEach es X.env).map (·.2) := by rfl) : PDgs X (e :: es) vs (t :: ts) :=
  ⟨PGs.imp (pgs_cons h1.run h2.run hs) fun v σ H Q ⟨W, S, env, d, k, ok, sl, hl, r, ht, hq⟩ => by
    cases d with
    | nil => exact ht.elim
    | cons d ds =>
      obtain ⟨u, us, e1, r1, r2⟩ := r
      refine ⟨u, us, e1, W, S, env, d, _, ok, sl, hl, r1, ht, fun e σ1 h1 sl1 hl1 hw1 => ⟨W, S, e, ds, k, ok, sl1, hl1, r2, h1, fun e2 σ2 h2 sl2 hl2 hw2 => hq e2 σ2 h2 sl2 hl2 (hw2.trans hw1)⟩⟩⟩
theorem pdg_tup {z : Nat} (hc : X.calm = true) (h : PDgs X es vs ts) (hn : (assignEach es X.env).length = ts.length := by rfl) (hst : (assignEach es X.env).findIdx? (·.1) = none := by rfl) : PDg X (.Tuple es z pos) vs (gT ts) :=
  ⟨PG.imp (pg_tup hc h.run hn hst) fun v σ H Q ⟨W, S, env, d, k, ok, sl, hl, r, ht, hq⟩ => by
    cases d with
    | tup xs =>
      obtain ⟨a, us, e1, e2, e3⟩ := r
      exact ⟨a, us, e1, sqT_mono ok.vis e2, by rw [e3.length]; exact ht.1, W, S, env, xs, k, ok, sl, hl, e3, ht.2, hq⟩
    | _ => exact ht.elim⟩
end

/-! ### what is walked -/
abbrev WPi := DE → Sto → (List D → (Sto → Prop) → Sto → Prop) → XQ → Prop
structure JOk (K : PySem.W.Frag) (J : It) (W0 : Hp) (items : List D) (g : Sto → Prop) : Prop where
  step : ∀ (i : Nat) W S H d, items[i]? = some d → Same W0 W → Ok K W S H → g S → J.go i H ∧ ∀ x H', J.yld i H x H' → ∃ W', Stp W S H W' S H' ∧ Ok K W' S H' ∧ Rep K W' d x
  stop : ∀ W S H, Same W0 W → Ok K W S H → g S → J.stop items.length H
def lI (K : PySem.W.Frag) (Wx : WX) (w : WPi) : TI := fun σ H R => ∃ W env S Q0 X0, Ok K W S H ∧ Sl K W env σ ∧ w env S Q0 X0 ∧
  (∀ items g S' W' H' J, Q0 items g S' → Stp W S H W' S' H' → Ok K W' S' H' → JOk K J W' items g → R J H') ∧ CXc K W S H X0 (fun c d H' => Wx c d σ H')
structure PDi (X : Cx) (tg e : Expr) (w : WPi) : Prop where
  run : ∀ Wx, Takes X Wx → PI X tg e (lI X.K Wx w)
theorem PI.imp {X : Cx} {tg e : Expr} {t t' : TI} (h : PI X tg e t) (i : ∀ σ H R, t' σ H R → t σ H R) : PI X tg e t' := ⟨fun pins s σ H R I q => h.run pins s σ H R I (i _ _ _ q)⟩
/-- a list or a tuple -/
def iSeq (K : PySem.W.Frag) (tl : TE) : TI := fun σ H R => tl σ H fun x H1 => ∃ a, x = .ref a ∧ (((∃ xs, SqL K H1 a xs) ∧ R (Itl K a) H1) ∨ ((∃ xs, SqT K H1 a xs) ∧ R (Itt K a) H1))
theorem pi_seq {X : Cx} {tg l : Expr} {tl : TE} (hl : PE X l tl) : PI X tg l (iSeq X.K tl) := by
  refine ⟨fun pins s σ H R I h => ?_⟩
  refine thn (hl.run pins s σ H _ I h) fun v s1 ⟨x, H1, I1, r1, q1⟩ => ?_
  obtain ⟨a, e, ⟨⟨xs, hq⟩, q⟩ | ⟨⟨xs, hq⟩, q⟩⟩ := q1
  · subst e
    cases r1
    obtain ⟨its, rv, p, hz⟩ := I1.list hq
    refine wpAny_pyIter_list p.isList ?_
    refine ⟨s1.heap.objs.size, [s1.heap.objs.size], _, _, H1, rfl, I1.kept (t' := s1.toks) fun b o e => Heap.get?_push_of_some _ e, turn_list a _, ⟨_, Heap.get?_push_size _ rfl, rfl, rfl⟩, fun b hb => ?_, q⟩
    have e : b = s1.heap.objs.size := by simpa using hb
    subst e
    exact I1.fpOk (Nat.le_refl _) (I1.hok.fresh (Nat.le_refl _))
  · subst e
    cases r1
    obtain ⟨its, rv, p, hz⟩ := I1.tuple hq
    refine wpAny_pyIter_tuple (show s1.heap.IsTuple a its.toArray from p) ?_
    refine ⟨s1.heap.objs.size, [s1.heap.objs.size], _, _, H1, rfl, I1.kept (t' := s1.toks) fun b o e => Heap.get?_push_of_some _ e, turn_tuple a _, ⟨_, Heap.get?_push_size _ rfl, rfl, rfl⟩, fun b hb => ?_, q⟩
    have e : b = s1.heap.objs.size := by simpa using hb
    subst e
    exact I1.fpOk (Nat.le_refl _) (I1.hok.fresh (Nat.le_refl _))
def wIt (w : WPe) : WPi := fun env S Q X => w env S (fun d S1 => some! (seqA S1 d) fun xs => Q xs (fun S' => seqA S' d = some xs) S1) X
section
variable {K : PySem.W.Frag}
theorem jok_list {W0 : Hp} {S0 : Sto} {H0 : Hp} {d : D} {a : Addr} {xs : List D} (ok : Ok K W0 S0 H0) (r : Rep K W0 d (.ref a)) (hL : seqL S0 d = some xs) (hA : ∀ {S}, seqA S d = seqL S d) :
    (∃ vs, SqL K H0 a vs) ∧ JOk K (Itl K a) W0 xs (fun S' => seqA S' d = some xs) := by
  obtain ⟨b, ws, e1, e2, e3⟩ := seqL_rep ok r hL
  cases e1
  refine ⟨⟨ws, e2⟩, ⟨fun i W S H d hd s1 ok1 g => ?_, fun W S H s1 ok1 g => ?_⟩⟩
  · rw [hA] at g
    obtain ⟨c, zs, e7, e8, e9⟩ := seqL_rep ok1 (r.mono s1) g
    cases e7
    obtain ⟨u, hu, ru⟩ := e9.get hd
    refine ⟨⟨zs, u, e8, hu⟩, fun x H' ⟨e4, e5⟩ => ?_⟩
    subst e4
    have e6 := e5 zs e8
    rw [hu] at e6
    cases e6
    exact ⟨W, Stp.refl, ok1, ru⟩
  · rw [hA] at g
    obtain ⟨c, zs, e7, e8, e9⟩ := seqL_rep ok1 (r.mono s1) g
    cases e7
    exact ⟨zs, e8, Nat.le_of_eq e9.length⟩
theorem jok_seq {W0 : Hp} {S0 : Sto} {H0 : Hp} {d : D} {v : V} {xs : List D} (ok : Ok K W0 S0 H0) (r : Rep K W0 d v) (h : seqA S0 d = some xs) :
    ∃ a, v = .ref a ∧ (((∃ vs, SqL K H0 a vs) ∧ JOk K (Itl K a) W0 xs (fun S' => seqA S' d = some xs)) ∨ ((∃ vs, SqT K H0 a vs) ∧ JOk K (Itt K a) W0 xs (fun S' => seqA S' d = some xs))) := by
  obtain ⟨a, vs, rfl, hq, rv⟩ := seqA_rep ok r h
  refine ⟨a, rfl, ?_⟩
  cases d with
  | tup ys =>
    cases h
    obtain ⟨b, ws, e1, e2, e3⟩ := r
    cases e1
    refine .inr ⟨⟨ws, sqT_mono ok.vis e2⟩, ⟨fun i W S H d hd s1 ok1 _ => ?_, fun W S H s1 ok1 _ => ?_⟩⟩
    · obtain ⟨u, hu, ru⟩ := e3.get hd
      have hT := sqT_mono (s1.trans ok1.vis) e2
      refine ⟨⟨ws, u, hT, hu⟩, fun x H' ⟨e4, e5⟩ => ?_⟩
      subst e4
      have e6 := e5 ws hT
      rw [hu] at e6
      cases e6
      exact ⟨W, Stp.refl, ok1, ru.mono s1⟩
    · exact ⟨ws, sqT_mono (s1.trans ok1.vis) e2, Nat.le_of_eq e3.length⟩
  | lst ys => exact .inl (jok_list ok r h rfl)
  | fro ys => exact .inl (jok_list ok r h rfl)
  | ref b => exact .inl (jok_list ok r h rfl)
  | _ => cases h
end
section
variable {X : Cx} {tg e a b : Expr} {w wa wb : WPe} {p pos : Pos}
theorem pdi_seq (h : PD X e w) : PDi X tg e (wIt w) :=
  ⟨fun Wx tk => PI.imp (pi_seq (h.run Wx tk)) fun σ H R ⟨W, env, S, Q0, X1, ok, sl, hw, cv, cx⟩ => ⟨W, env, S, _, X1, ok, sl, hw, fun d S1 v W1 H1 h1 s1 ok1 r1 => by
    obtain ⟨xs, e1, h1⟩ := some!_ex h1
    obtain ⟨a, rfl, ⟨q, j⟩ | ⟨q, j⟩⟩ := jok_seq ok1 r1 e1
    · exact ⟨a, rfl, .inl ⟨q, cv _ _ S1 W1 H1 _ h1 s1 ok1 j⟩⟩
    · exact ⟨a, rfl, .inr ⟨q, cv _ _ S1 W1 H1 _ h1 s1 ok1 j⟩⟩, cx⟩⟩
def rngD (lo : Int) (n : Nat) : List D := (List.range n).map fun (i : Nat) => D.int (lo + (i : Int))
theorem rngD_get {lo : Int} {n i : Nat} {d : D} (h : (rngD lo n)[i]? = some d) : i < n ∧ d = .int (lo + (i : Int)) := by
  unfold rngD at h
  rw [List.getElem?_map] at h
  by_cases hi : i < n
  · rw [List.getElem?_range hi] at h
    exact ⟨hi, (Option.some.inj h).symm⟩
  · rw [List.getElem?_eq_none (by rw [List.length_range]; omega)] at h
    cases h
theorem rngD_length {lo : Int} {n : Nat} : (rngD lo n).length = n := by
  unfold rngD
  rw [List.length_map, List.length_range]
theorem jok_rng {K : PySem.W.Frag} {W0 : Hp} {lo : Int} {n : Nat} : JOk K (Itr lo n) W0 (rngD lo n) (fun _ => True) :=
  ⟨fun i W S H d hd s1 ok1 _ => by
    obtain ⟨hi, rfl⟩ := rngD_get hd
    exact ⟨hi, fun x H' ⟨e1, e2⟩ => by subst e1; exact ⟨W, Stp.refl, ok1, e2⟩⟩, fun W S H _ _ _ => by rw [rngD_length]; exact Nat.le_refl _⟩
def wRg1 (wa : WPe) : WPi := fun env S Q X => wa env S (fun a S1 => asI a fun j => (-(2 ^ 62) ≤ j ∧ j < 2 ^ 62) ∧ Q (rngD 0 j.toNat) (fun _ => True) S1) X
def wRg2 (wa wb : WPe) : WPi := fun env S Q X => wa env S (fun a S1 => asI a fun i => wb env S1 (fun b S2 => asI b fun j => (-(2 ^ 62) ≤ i ∧ i < 2 ^ 62 ∧ -(2 ^ 62) ≤ j ∧ j < 2 ^ 62) ∧ Q (rngD i (j - i).toNat) (fun _ => True) S2) X) X
theorem pdi_rg1 (hm : X.mg "range" = none) (ha : PD X a wa) (hg : Gl X "range" := by rfl) (hs : starEach [a] X.env = [(false, eval a X.env)] := by rfl) : PDi X tg (.Call (.Name "range" p) [a] [] pos) (wRg1 wa) :=
  ⟨fun Wx tk => PI.imp (pi_range1 hg hm (pa_cons (ha.run Wx tk) pa_nil hs) hs) fun σ H R ⟨W, env, S, Q0, X1, ok, sl, hw, cv, cx⟩ => ⟨W, env, S, _, X1, ok, sl, hw, fun d S1 v W1 H1 h1 s1 ok1 r1 => by
    obtain ⟨j, rfl, ⟨h2, h3⟩, h4⟩ := asI_ex h1
    exact ⟨j, by rw [show v = .int j from r1], h2, h3, cv _ _ S1 W1 H1 _ h4 s1 ok1 jok_rng⟩, cx⟩⟩
theorem pdi_rg2 (hm : X.mg "range" = none) (ha : PD X a wa) (hb : PD X b wb) (hg : Gl X "range" := by rfl) (hs : starEach [a, b] X.env = [(false, eval a X.env), (false, eval b X.env)] := by rfl) (hs2 : starEach [b] X.env = [(false, eval b X.env)] := by rfl) :
    PDi X tg (.Call (.Name "range" p) [a, b] [] pos) (wRg2 wa wb) :=
  ⟨fun Wx tk => PI.imp (pi_range2 hg hm (pa_cons (ha.run Wx tk) (pa_cons (hb.run Wx tk) pa_nil hs2) (by rw [hs, hs2])) hs hs2) fun σ H R ⟨W, env, S, Q0, X1, ok, sl, hw, cv, cx⟩ => ⟨W, env, S, _, X1, ok, sl, hw, fun d S1 v W1 H1 h1 s1 ok1 r1 => by
    obtain ⟨i, rfl, h1⟩ := asI_ex h1
    refine ⟨W1, env, S1, _, X1, ok1, sl.mono s1.vis, h1, fun d2 S2 u W2 H2 h2 s2 ok2 r2 => ?_, cx.mono s1⟩
    obtain ⟨j, rfl, h3, h4⟩ := asI_ex h2
    exact ⟨i, j, by rw [show v = .int i from r1, show u = .int j from r2], h3, cv _ _ S2 W2 H2 _ h4 (s1.trans s2) ok2 jok_rng⟩, cx⟩⟩
end

/-! ### for -/
/-- by an invariant over (turn, slots, store) -/
def forI (t : WPg) (body : WPs) (g : Sto → Prop) (items : List D) (env : DE) (S : Sto) (q : QS) : Prop := ∃ P : Nat → DE → Sto → Prop, P 0 env S ∧ (∀ i e S, i ≤ items.length → P i e S → g S) ∧
  (∀ i d e S, items[i]? = some d → P i e S → t d e fun e1 => body e1 S { q with nx := P (i + 1), ct := P (i + 1), bk := q.nx }) ∧ ∀ e S, P items.length e S → q.nx e S
/-- turn by turn -/
def forL (t : WPg) (body : WPs) (g : Sto → Prop) : List D → WPs
  | [], env, S, q => g S ∧ q.nx env S
  | d :: r, env, S, q => g S ∧ t d env fun e => body e S { q with nx := fun e2 S2 => forL t body g r e2 S2 q, ct := fun e2 S2 => forL t body g r e2 S2 q, bk := q.nx }
theorem forI_of {t : WPg} {body : WPs} {g : Sto → Prop} {items : List D} {env : DE} {S : Sto} {q : QS} (h : forL t body g items env S q) : forI t body g items env S q := by
  refine ⟨fun i e S => forL t body g (items.drop i) e S q, h, fun i e S hi h => ?_, fun i d e S hd h => ?_, fun e S h => ?_⟩
  · dsimp only at h
    by_cases hlt : i < items.length
    · rw [List.drop_eq_getElem_cons hlt] at h
      exact h.1
    · rw [List.drop_eq_nil_of_le (by omega)] at h
      exact h.1
  · dsimp only at h
    obtain ⟨hlt, e1⟩ := List.getElem?_eq_some_iff.mp hd
    subst e1
    rw [List.drop_eq_getElem_cons hlt] at h
    exact h.2
  · dsimp only at h
    rw [List.drop_length] at h
    exact h.2
/-- a fold -/
theorem forI_fold {α : Type} {t : WPg} {body : WPs} {g : Sto → Prop} {items : List D} {env : DE} {S : Sto} {q : QS} (st : α → DE → Sto → Prop) (step : α → D → α) (init : α) (h0 : st init env S) (hg : ∀ a e S, st a e S → g S)
    (hs : ∀ i d a e S, items[i]? = some d → a = (items.take i).foldl step init → st a e S → t d e fun e1 => body e1 S { q with nx := st (step a d), ct := st (step a d), bk := q.nx }) (hd : ∀ e S, st (items.foldl step init) e S → q.nx e S) : forI t body g items env S q := by
  refine ⟨fun i e S => st ((items.take i).foldl step init) e S, by simpa using h0, fun i e S _ h => hg _ e S h, fun i d e S hi h => ?_, fun e S h => hd e S (by simpa using h)⟩
  have key : (items.take (i + 1)).foldl step init = step ((items.take i).foldl step init) d := by
    rw [List.take_add_one, hi]
    simp
  dsimp only
  rw [key]
  exact hs i d _ e S hi rfl h
/-- .. what follows the body told by what it wants -/
theorem forI_foldq {α : Type} {t : WPg} {body : WPs} {g : Sto → Prop} {items : List D} {env : DE} {S : Sto} {q : QS} (st : α → DE → Sto → Prop) (step : α → D → α) (init : α) (h0 : st init env S) (hg : ∀ a e S, st a e S → g S)
    (hs : ∀ i d a e S, items[i]? = some d → a = (items.take i).foldl step init → st a e S → ∀ q' : QS, (∀ e S, st (step a d) e S → q'.nx e S) → q'.rt = q.rt → q'.bk = q.nx → q'.ct = q'.nx → q'.xc = q.xc → t d e fun e1 => body e1 S q') (hd : ∀ e S, st (items.foldl step init) e S → q.nx e S) : forI t body g items env S q :=
  forI_fold st step init h0 hg (fun i d a e S hi ha h => hs i d a e S hi ha h _ (fun _ _ z => z) rfl rfl rfl rfl) hd
/-- .. by an invariant -/
theorem forI_invq {t : WPg} {body : WPs} {g : Sto → Prop} {items : List D} {env : DE} {S : Sto} {q : QS} (P : Nat → DE → Sto → Prop) (h0 : P 0 env S) (hg : ∀ i e S, P i e S → g S)
    (hs : ∀ i d e S, items[i]? = some d → P i e S → ∀ q' : QS, (∀ e S, P (i + 1) e S → q'.nx e S) → q'.rt = q.rt → q'.bk = q.nx → q'.ct = q'.nx → q'.xc = q.xc → t d e fun e1 => body e1 S q') (hd : ∀ e S, P items.length e S → q.nx e S) : forI t body g items env S q :=
  ⟨P, h0, fun i e S _ h => hg i e S h, fun i d e S hi h => hs i d e S hi h _ (fun _ _ z => z) rfl rfl rfl rfl, hd⟩
def wFor (wi : WPi) (t : WPg) (body : WPs) : WPs := fun env S q => wi env S (fun items g S1 => forI t body g items env S1 q) (xcQ q env)
section
variable {X : Cx} {tg iter : Expr} {body : List Stmt} {wi : WPi} {t : WPg} {ws : WPs} {pos : Pos} {vs : List Nat}
theorem pds_for (hc : X.calm = true) (hp : PassesOwn (model X.prog X.w) X.A X.env X.xe) (hi : PDi X tg iter wi) (hg : PDg X tg vs t) (hb : PDss X body ws) (hs : ∀ x, foldedSetIterable iter X.env x = pure x := by intro _; rfl) : PDs X (.For tg iter body [] pos) (wFor wi t ws) :=
  ⟨fun Wx tk => PS.imp (ps_for hp hc (hi.run Wx tk) hg.run (hb.run Wx tk) hs) fun D σ H ⟨W, env, S, q, ok, sl, hl, hw, cs⟩ => by
    refine ⟨W, env, S, _, _, ok, sl, hw, fun items g S1 W1 H1 J ⟨P, h0, hg0, hs0, hd0⟩ s1 ok1 jok => ?_, CXc.of cs sl⟩
    refine ⟨fun i m σ' H' => m = items.length - i ∧ i ≤ items.length ∧ σ'.length = X.N.length ∧ ∃ W' env' S', Stp W1 S1 H1 W' S' H' ∧ Ok X.K W' S' H' ∧ Sl X.K W' env' σ' ∧ P i env' S',
      ⟨items.length, rfl, Nat.zero_le _, hl, W1, env, S1, Stp.refl, ok1, sl.mono s1.vis, h0⟩, ?_⟩
    rintro i m σ' H' ⟨rfl, hi2, hl', W', env', S', s2, ok2, sl2, h2⟩
    have hgS := hg0 i env' S' hi2 h2
    by_cases hlt : i < items.length
    · have hd := List.getElem?_eq_getElem hlt
      obtain ⟨go, yl⟩ := jok.step i W' S' H' _ hd s2.vis ok2 hgS
      refine .inr ⟨go, fun σ2 H2 => σ2.length = X.N.length ∧ ∃ W2 env2 S2, Stp W1 S1 H1 W2 S2 H2 ∧ Ok X.K W2 S2 H2 ∧ Sl X.K W2 env2 σ2 ∧ P (i + 1) env2 S2,
        fun σ2 H2 ⟨hl2, h3⟩ => ⟨items.length - (i + 1), by omega, rfl, hlt, hl2, h3⟩, fun x H2 y => ?_⟩
      obtain ⟨W2, s3, ok3, rx⟩ := yl x H2 y
      refine ⟨W2, S', env', items[i], _, ok3, sl2.mono s3.vis, hl', rx, hs0 i _ env' S' hd h2, fun e2 σ3 h3 sl3 hl3 _ => ?_⟩
      have st := s1.trans (s2.trans s3)
      refine ⟨W2, e2, S', _, ok3, sl3, hl3, h3, ?_⟩
      have fin : ∀ {e4 : DE} {S4 : Sto} {σ4 : L2.St} {W4 H4 : Hp}, P (i + 1) e4 S4 → Stp W2 S' H2 W4 S4 H4 → Ok X.K W4 S4 H4 → Sl X.K W4 e4 σ4 → σ4.length = X.N.length →
          (σ4.length = X.N.length ∧ ∃ W2 env2 S2, Stp W1 S1 H1 W2 S2 H4 ∧ Ok X.K W2 S2 H4 ∧ Sl X.K W2 env2 σ4 ∧ P (i + 1) env2 S2) :=
        fun h4 s4 ok4 sl4 hl4 => ⟨hl4, _, _, _, s2.trans (s3.trans s4), ok4, sl4, h4⟩
      exact ⟨fun e4 S4 σ4 W4 H4 h4 s4 ok4 sl4 hl4 => fin h4 s4 ok4 sl4 hl4, (cs.mono st).rt, (cs.mono st).nx, fun e4 S4 σ4 W4 H4 h4 s4 ok4 sl4 hl4 => fin h4 s4 ok4 sl4 hl4, (cs.mono st).xc⟩
    · have e : i = items.length := by omega
      subst e
      exact .inl ⟨jok.stop W' S' H' s2.vis ok2 hgS, cs.nx env' S' σ' W' H' (hd0 _ _ h2) (s1.trans s2) ok2 sl2 hl'⟩⟩
end

/-! ### while -/
def wWhile (t : WPt) (body : WPs) : WPs := fun env S q => ∃ P : Nat → DE → Sto → Prop, (∃ m, P m env S) ∧ ∀ m e S, P m e S →
  t e S (fun b S1 => if b = true then body e S1 { q with nx := fun e2 S2 => ∃ m', m' < m ∧ P m' e2 S2, ct := fun e2 S2 => ∃ m', m' < m ∧ P m' e2 S2, bk := q.nx } else q.nx e S1) (xcQ q e)
theorem pds_while {X : Cx} {c : Expr} {body : List Stmt} {t : WPt} {ws : WPs} {pos : Pos} (hp : PassesOwn (model X.prog X.w) X.A X.env X.xe) (hc : PDt X c t) (hb : PDss X body ws) : PDs X (.While c body [] pos) (wWhile t ws) :=
  ⟨fun Wx tk => PS.imp (ps_while hp (hc.run Wx tk) (hb.run Wx tk)) fun D σ H ⟨W, env, S, q, ok, sl, hl, ⟨P, ⟨m0, h0⟩, hs⟩, cs⟩ => by
    refine ⟨fun m σ' H' => σ'.length = X.N.length ∧ ∃ W' env' S', Stp W S H W' S' H' ∧ Ok X.K W' S' H' ∧ Sl X.K W' env' σ' ∧ P m env' S', ⟨m0, hl, W, env, S, Stp.refl, ok, sl, h0⟩, ?_⟩
    rintro m σ' H' ⟨hl', W', env', S', s1, ok1, sl1, h1⟩
    refine ⟨W', env', S', _, _, ok1, sl1, hs m env' S' h1, fun b S2 W2 H2 h2 s2 ok2 => ?_, CXc.of (cs.mono s1) sl1⟩
    cases b with
    | true =>
      refine iteT ⟨fun σ3 H3 => ∃ m', m' < m ∧ σ3.length = X.N.length ∧ ∃ W' env' S', Stp W S H W' S' H3 ∧ Ok X.K W' S' H3 ∧ Sl X.K W' env' σ3 ∧ P m' env' S', fun σ3 H3 ⟨m', hm, h3⟩ => ⟨m', hm, h3⟩, W2, env', S2, _, ok2, sl1.mono s2.vis, hl', (if_pos rfl).mp h2, ?_⟩
      have st := s1.trans s2
      exact ⟨fun e4 S4 σ4 W4 H4 ⟨m', hm, h4⟩ s4 ok4 sl4 hl4 => ⟨m', hm, hl4, W4, e4, S4, st.trans s4, ok4, sl4, h4⟩, (cs.mono st).rt, (cs.mono st).nx, fun e4 S4 σ4 W4 H4 ⟨m', hm, h4⟩ s4 ok4 sl4 hl4 => ⟨m', hm, hl4, W4, e4, S4, st.trans s4, ok4, sl4, h4⟩, (cs.mono st).xc⟩
    | false => exact iteF (cs.nx env' S2 σ' W2 H2 ((if_neg Bool.false_ne_true).mp h2) (s1.trans s2) ok2 (sl1.mono s2.vis) hl')⟩

/-! ### list comprehensions -/
def wYes : WPt := fun _ S Q _ => Q true S
structure PDts (X : Cx) (ifs : List Expr) (w : WPt) : Prop where
  run : ∀ Wx, Takes X Wx → PTs X ifs (lT X.K Wx w)
theorem pdts_nil {X : Cx} : PDts X [] wYes := ⟨fun Wx tk => ⟨fun pins s σ H Q I ⟨W, env, S, Q0, X1, ok, sl, hw, cv, cx⟩ => pts_nil.run pins s σ H Q I (cv true S W H hw Stp.refl ok)⟩⟩
theorem pdts_one {X : Cx} {c : Expr} {w : WPt} (h : PDt X c w) : PDts X [c] w := ⟨fun Wx tk => pts_one (h.run Wx tk)⟩
def delVs (env : DE) : List Nat → DE
  | [] => env
  | v :: vs => delV (delVs env vs) v
theorem sl_wipe {K : PySem.W.Frag} {W : Hp} {env : DE} {σ : L2.St} (h : Sl K W env σ) : ∀ vs : List Nat, Sl K W (delVs env vs) (wipe σ vs)
  | [] => h
  | v :: vs => fun i d q => by
    obtain ⟨a, b⟩ := getV_delV q
    obtain ⟨u, c, r⟩ := sl_wipe h vs i d b
    refine ⟨u, ?_, r⟩
    show ((wipe σ vs).set v none)[i]? = _
    rw [List.getElem?_set_ne (Ne.symm a)]; exact c
theorem delVs_len {σ : L2.St} {vs : List Nat} {n : Nat} (h : σ.length = n) : (wipe σ vs).length = n := by rw [wipe_length]; exact h
theorem wipe_wipe {σ : L2.St} {vs : List Nat} : wipe (wipe σ vs) vs = wipe σ vs := by
  apply List.ext_getElem?
  intro i
  have key : ∀ {τ : L2.St} {us : List Nat}, (i ∈ us → i < τ.length → (wipe τ us)[i]? = some none) ∧ (i ∉ us → (wipe τ us)[i]? = τ[i]?) := fun {τ us} => by
    induction us with
    | nil => exact ⟨(fun h => by cases h), (fun _ => rfl)⟩
    | cons u us ih =>
      refine ⟨fun h hl => ?_, fun h => ?_⟩
      · show ((wipe τ us).set u none)[i]? = some none
        by_cases e : u = i
        · subst e
          exact List.getElem?_set_self (by rw [wipe_length]; exact hl)
        · rw [List.getElem?_set_ne e]
          exact ih.1 (by cases h with | head => exact absurd rfl e | tail _ h => exact h) hl
      · show ((wipe τ us).set u none)[i]? = _
        rw [List.getElem?_set_ne (fun e => h (by rw [e]; exact List.mem_cons_self))]
        exact ih.2 fun z => h (List.mem_cons_of_mem _ z)
  by_cases h : i ∈ vs
  · by_cases hl : i < σ.length
    · rw [(key (τ := wipe σ vs)).1 h (by rw [wipe_length]; exact hl), (key (τ := σ)).1 h hl]
    · rw [List.getElem?_eq_none (by rw [wipe_length, wipe_length]; omega), List.getElem?_eq_none (by rw [wipe_length]; omega)]
  · rw [(key (τ := wipe σ vs)).2 h]
def compI (t : WPg) (tt : WPt) (te : WPe) (g : Sto → Prop) (env : DE) (items : List D) (S : Sto) (Q : List D → Sto → Prop) : Prop := ∃ P : Nat → List D → Sto → Prop, P 0 [] S ∧ (∀ i acc S, i ≤ items.length → P i acc S → g S) ∧
  (∀ i d acc S, items[i]? = some d → P i acc S → t d env fun e => tt e S (fun b S1 => if b = true then te e S1 (fun y S2 => P (i + 1) (acc ++ [y]) S2) X0 else P (i + 1) acc S1) X0) ∧ ∀ acc S, P items.length acc S → Q acc S
/-- item by item -/
def compL (t : WPg) (tt : WPt) (te : WPe) (g : Sto → Prop) (env : DE) : List D → List D → Sto → (List D → Sto → Prop) → Prop
  | [], acc, S, Q => g S ∧ Q acc S
  | d :: r, acc, S, Q => g S ∧ t d env fun e => tt e S (fun b S1 => if b = true then te e S1 (fun y S2 => compL t tt te g env r (acc ++ [y]) S2 Q) X0 else compL t tt te g env r acc S1 Q) X0
theorem compI_of {t : WPg} {tt : WPt} {te : WPe} {g : Sto → Prop} {env : DE} {items : List D} {S : Sto} {Q : List D → Sto → Prop} (h : compL t tt te g env items [] S Q) : compI t tt te g env items S Q := by
  refine ⟨fun i acc S => compL t tt te g env (items.drop i) acc S Q, h, fun i acc S hi h => ?_, fun i d acc S hd h => ?_, fun acc S h => ?_⟩
  · dsimp only at h
    by_cases hlt : i < items.length
    · rw [List.drop_eq_getElem_cons hlt] at h
      exact h.1
    · rw [List.drop_eq_nil_of_le (by omega)] at h
      exact h.1
  · dsimp only at h
    obtain ⟨hlt, e1⟩ := List.getElem?_eq_some_iff.mp hd
    subst e1
    rw [List.drop_eq_getElem_cons hlt] at h
    exact h.2
  · dsimp only at h
    rw [List.drop_length] at h
    exact h.2
/-- each item's value told by a function -/
theorem compI_map {t : WPg} {tt : WPt} {te : WPe} {g : Sto → Prop} {env : DE} {items : List D} {S : Sto} {Q : List D → Sto → Prop} (f : D → Option D) (hg : g S)
    (h : ∀ d, d ∈ items → ∀ R : Option D → Sto → Prop, R (f d) S → t d env fun e => tt e S (fun b S1 => if b = true then te e S1 (fun y S2 => R (some y) S2) X0 else R none S1) X0) (hq : Q (items.filterMap f) S) : compI t tt te g env items S Q := by
  refine ⟨fun i acc S' => S' = S ∧ acc = (items.take i).filterMap f, ⟨rfl, by simp⟩, fun i acc S' _ h => by rw [h.1]; exact hg, fun i d acc S' hd ⟨e1, e2⟩ => ?_, fun acc S' ⟨e1, e2⟩ => ?_⟩
  · subst e1 e2
    refine h d (List.mem_of_getElem? hd) (fun o S2 => match o with
      | some y => S2 = S' ∧ (items.take i).filterMap f ++ [y] = (items.take (i + 1)).filterMap f
      | none => S2 = S' ∧ (items.take i).filterMap f = (items.take (i + 1)).filterMap f) ?_
    have key : (items.take (i + 1)).filterMap f = (items.take i).filterMap f ++ [d].filterMap f := by
      rw [List.take_add_one, hd]
      simp
    cases e : f d with
    | none =>
      refine ⟨rfl, ?_⟩
      rw [key]
      simp [e]
    | some y =>
      refine ⟨rfl, ?_⟩
      rw [key]
      simp [e]
  · subst e1 e2
    simpa using hq
/-- by an invariant of what is made so far -/
theorem compI_inv {t : WPg} {tt : WPt} {te : WPe} {g : Sto → Prop} {env : DE} {items : List D} {S : Sto} {Q : List D → Sto → Prop} (P : Nat → List D → Sto → Prop) (h0 : P 0 [] S) (hg : ∀ i acc S, P i acc S → g S)
    (hs : ∀ i d acc S, items[i]? = some d → P i acc S → t d env fun e => tt e S (fun b S1 => if b = true then te e S1 (fun y S2 => P (i + 1) (acc ++ [y]) S2) X0 else P (i + 1) acc S1) X0) (hd : ∀ acc S, P items.length acc S → Q acc S) : compI t tt te g env items S Q :=
  ⟨P, h0, fun i acc S _ h => hg i acc S h, hs, hd⟩
def wLc (wi : WPi) (t : WPg) (tt : WPt) (te : WPe) (vs : List Nat) : WPe := fun env S Q X => wi env S (fun items g S1 => items.length ≤ sizeLine ∧ compI t tt te g (delVs env vs) items S1 fun ds S2 => Q (.lst ds) S2) X
/-- .. a new mutable list -/
def wLcM (wi : WPi) (t : WPg) (tt : WPt) (te : WPe) (vs : List Nat) : WPe := fun env S Q X => wi env S (fun items g S1 => items.length ≤ sizeLine ∧ compI t tt te g (delVs env vs) items S1 fun ds S2 => ∀ p, S2 p = none → Q (.ref p) (put S2 p (.lst ds))) X
theorem takesF {X : Cx} {s : Shared} {H : Hp} {scope : Scope} {cenv : Env} {fp : List Addr} : Takes (X.blk s H scope cenv fp) (fun _ _ _ _ => False) := takes0
theorem Stp.see {W W' : Hp} {S S' : Sto} {H H' : Hp} {p : Addr} {o : HO} (st : Stp W S H W' S' H') (h : H p = none) (hW : W' p = none) : Stp W S H (upd W' p o) S' H' :=
  ⟨st.vis.trans (same_new hW), fun a x h1 h2 h3 => by
    have ne : a ≠ p := ne_of_none h1 h
    obtain ⟨y1, y2, y3⟩ := st.frm a x h1 h2 h3
    exact ⟨y1, by rw [upd_ne ne]; exact y2, y3⟩⟩
theorem Stp.see' {W W1 W' : Hp} {S S1 S' : Sto} {H H1 H' : Hp} {p : Addr} {o : HO} (st : Stp W S H W' S' H') (h : H1 p = none) (hW : W' p = none) (s1 : Stp W S H W1 S1 H1) : Stp W S H (upd W' p o) S' H' :=
  ⟨st.vis.trans (same_new hW), fun a x h1 h2 h3 => by
    have ne : a ≠ p := fun e => by
      subst e
      have := (s1.frm a x h1 h2 h3).1
      rw [h] at this; cases this
    obtain ⟨y1, y2, y3⟩ := st.frm a x h1 h2 h3
    exact ⟨y1, by rw [upd_ne ne]; exact y2, y3⟩⟩
theorem Stp.own {W W' : Hp} {S S' : Sto} {H H' : Hp} {p : Addr} {m : MO} (st : Stp W S H W' S' H') (h : H p = none) : Stp W S H W' (put S' p m) H' :=
  ⟨st.vis, fun a x h1 h2 h3 => by
    have ne : a ≠ p := ne_of_none h1 h
    obtain ⟨y1, y2, y3⟩ := st.frm a x h1 h2 h3
    exact ⟨y1, y2, by rw [put_ne ne]; exact y3⟩⟩
theorem Stp.out {W W' : Hp} {S S' : Sto} {H H' : Hp} {p : Addr} {o : HO} (st : Stp W S H W' S' H') (h : H p = none) : Stp W S H W' S' (upd H' p o) :=
  ⟨st.vis, fun a x h1 h2 h3 => by
    have ne : a ≠ p := ne_of_none h1 h
    obtain ⟨y1, y2, y3⟩ := st.frm a x h1 h2 h3
    exact ⟨by rw [upd_ne ne]; exact y1, y2, y3⟩⟩
theorem Ok.out {K : PySem.W.Frag} {W : Hp} {S : Sto} {H : Hp} {p : Addr} {o : HO} (ok : Ok K W S H) (hW : W p = none) (hS : S p = none) : Ok K W S (upd H p o) :=
  ⟨fun b x e => by rw [upd_ne (ne_of_none e hW)]; exact ok.vis _ _ e, fun a m e => by
    obtain ⟨x, e1, e2⟩ := ok.sto _ _ e
    exact ⟨x, by rw [upd_ne (ne_of_S e hS)]; exact e1, e2⟩, ok.sep⟩
theorem Ok.see {K : PySem.W.Frag} {W : Hp} {S : Sto} {H : Hp} {p : Addr} {o : HO} (ok : Ok K W S H) (hW : W p = none) (hS : S p = none) (hH : H p = some o) : Ok K (upd W p o) S H :=
  ⟨fun b x e => by
    by_cases q : b = p
    · subst q; rw [upd_same] at e; cases e; exact hH
    · rw [upd_ne q] at e; exact ok.vis _ _ e, fun a m e => by
    obtain ⟨x, e1, e2⟩ := ok.sto _ _ e
    exact ⟨x, e1, e2.mono (same_new hW)⟩, fun a m e => by
    rw [upd_ne (ne_of_S e hS)]; exact ok.sep _ _ e⟩
theorem Ok.own {K : PySem.W.Frag} {W : Hp} {S : Sto} {H : Hp} {p : Addr} {o : HO} {m : MO} (ok : Ok K W S H) (hW : W p = none) (hH : H p = some o) (r : MRep K W m o) : Ok K W (put S p m) H :=
  ⟨ok.vis, fun a n e => by
    by_cases q : a = p
    · subst q; rw [put_same] at e; cases e; exact ⟨o, hH, r⟩
    · rw [put_ne q] at e; exact ok.sto _ _ e, fun a n e => by
    by_cases q : a = p
    · subst q; exact hW
    · rw [put_ne q] at e; exact ok.sep _ _ e⟩
section
variable {X : Cx} {elt tg iter : Expr} {ifs : List Expr} {scope : Scope} {own : List (Str × Nat)} {pos : Pos} {wi : WPi} {t : WPg} {tt : WPt} {te : WPe}
/-- the made list stands at p, nobody else's -/
theorem lc_go {Wx : WX} {vs : List Nat} {σ : L2.St} {H : Hp} {Q : VK} {K : PySem.W.Frag} {n : Nat} {items : List D} {g : Sto → Prop} {env : DE} {W1 : Hp} {S1 : Sto} {H1 : Hp} {J : It} {Q1 : List D → Sto → Prop} (hl : σ.length = n) (hz : items.length ≤ sizeLine)
    (h : compI t tt te g (delVs env vs) items S1 Q1) (ok1 : Ok K W1 S1 H1) (sl : Sl K W1 env σ) (jok : JOk K J W1 items g)
    (fin : ∀ (p : Addr) acc ws W2 S2 H2, H1 p = none → Q1 acc S2 → Stp W1 S1 H1 W2 S2 H2 → Ok K W2 S2 H2 → W2 p = none → S2 p = none → H2 p = some (.lst ws) → Reps K W2 acc ws → Q (.ref p) H2) :
    ∀ p, H1 p = none → ∃ Wt : Nat → Nat → Hp → Prop, (∃ m, Wt 0 m (upd H1 p (.lst []))) ∧ ∀ i m H, Wt i m H →
      (J.stop i H ∧ Q (.ref p) H) ∨ (J.go i H ∧ ∃ Nx : Hp → Prop, (∀ H', Nx H' → ∃ m', m' < m ∧ Wt (i + 1) m' H') ∧ ∀ x H', J.yld i H x H' → lG K n vs t x (wipe σ vs) H' fun σ2 H2 => wipe σ2 vs = wipe σ vs ∧ lT K (fun _ _ _ _ => False) tt σ2 H2 fun b H3 =>
        if b = true then lE K (fun _ _ _ _ => False) te σ2 H3 fun y H4 => ∃ acc, H4 p = some (.lst acc) ∧ acc.length < sizeLine ∧ Nx (upd H4 p (.lst (acc ++ [y]))) else Nx H3) := by
  intro p hp
  obtain ⟨P, h0, hg, hs, hd⟩ := h
  have hf := ok1.fresh hp
  refine ⟨fun i m H' => m = items.length - i ∧ i ≤ items.length ∧ ∃ W' S' acc ws, Stp W1 S1 H1 W' S' H' ∧ Ok K W' S' H' ∧ W' p = none ∧ S' p = none ∧ H' p = some (.lst ws) ∧ Reps K W' acc ws ∧ acc.length ≤ i ∧ P i acc S',
    ⟨items.length, rfl, Nat.zero_le _, W1, S1, [], [], ok1.stJ hp, ok1.junk hp, hf.1, hf.2, upd_same, rfl, Nat.le_refl _, h0⟩, ?_⟩
  rintro i m H' ⟨rfl, hi, W', S', acc, ws, s2, ok2, hW', hS', hH', rw', hle, h2⟩
  have hgS := hg i acc S' hi h2
  by_cases hlt : i < items.length
  · have hdd := List.getElem?_eq_getElem hlt
    obtain ⟨go, yl⟩ := jok.step i W' S' H' _ hdd s2.vis ok2 hgS
    refine .inr ⟨go, fun H3 => ∃ W' S' acc ws, Stp W1 S1 H1 W' S' H3 ∧ Ok K W' S' H3 ∧ W' p = none ∧ S' p = none ∧ H3 p = some (.lst ws) ∧ Reps K W' acc ws ∧ acc.length ≤ i + 1 ∧ P (i + 1) acc S',
      fun H3 h3 => ⟨items.length - (i + 1), by omega, rfl, hlt, h3⟩, fun x H2 y => ?_⟩
    obtain ⟨W2, s3, ok3, rx⟩ := yl x H2 y
    obtain ⟨k1, k2, k3⟩ := s3.frm p _ hH' hW' hS'
    refine ⟨W2, S', delVs env vs, items[i], _, ok3, sl_wipe (sl.mono (s2.trans s3).vis) vs, delVs_len hl, rx, hs i _ acc S' hdd h2, fun e2 σ3 h3 sl3 hl3 hw3 => ⟨?_, ?_⟩⟩
    · rw [hw3]; exact wipe_wipe
    · refine ⟨W2, e2, S', _, _, ok3, sl3, h3, fun b S4 W4 H4 h4 s4 ok4 => ?_, CXc.no⟩
      obtain ⟨j1, j2, j3⟩ := s4.frm p _ k1 k2 k3
      cases b with
      | true =>
        refine iteT ⟨W4, e2, S4, _, _, ok4, sl3.mono s4.vis, (if_pos rfl).mp h4, fun d S5 v W5 H5 h5 s5 ok5 r5 => ?_, CXc.no⟩
        obtain ⟨l1, l2, l3⟩ := s5.frm p _ j1 j2 j3
        have st := s2.trans (s3.trans (s4.trans s5))
        have rlen := rw'.length
        refine ⟨ws, l1, by omega, W5, S5, acc ++ [d], ws ++ [v], st.out hp, ok5.out l2 l3, l2, l3, upd_same, (rw'.mono (s3.trans (s4.trans s5)).vis).append (Reps.one r5), ?_, h5⟩
        rw [List.length_append, List.length_singleton]; omega
      | false =>
        have st := s2.trans (s3.trans s4)
        exact iteF ⟨W4, S4, acc, ws, st, ok4, j2, j3, j1, rw'.mono (s3.trans s4).vis, by omega, (if_neg Bool.false_ne_true).mp h4⟩
  · have e : i = items.length := by omega
    subst e
    exact .inl ⟨jok.stop W' S' H' s2.vis ok2 hgS, fin p acc ws W' S' H' hp (hd _ _ h2) s2 ok2 hW' hS' hH' rw'⟩
theorem lc_lst {Wx : WX} {vs : List Nat} {σ : L2.St} {H : Hp} {Q : VK} {K : PySem.W.Frag} {n : Nat} (hl : σ.length = n) (h : lE K Wx (wLc wi t tt te vs) σ H Q) :
    tLc (lI K Wx wi) (lG K n vs t) (lT K (fun _ _ _ _ => False) tt) (lE K (fun _ _ _ _ => False) te) vs σ H Q := by
  obtain ⟨W, env, S, Q0, X1, ok, sl, hw, cv, cx⟩ := h
  refine ⟨W, env, S, _, X1, ok, sl, hw, fun items g S1 W1 H1 J ⟨hz, h1⟩ s1 ok1 jok => ?_, cx⟩
  exact lc_go (Wx := Wx) (H := H) hl hz h1 ok1 (sl.mono s1.vis) jok fun p acc ws W2 S2 H2 hp q s2 ok2 a b c r =>
    cv _ S2 _ _ H2 q ((s1.trans s2).see' hp a s1) (ok2.see a b c) ⟨p, ws, rfl, upd_same, r.mono (same_new a)⟩
theorem lc_lstM {Wx : WX} {vs : List Nat} {σ : L2.St} {H : Hp} {Q : VK} {K : PySem.W.Frag} {n : Nat} (hl : σ.length = n) (h : lE K Wx (wLcM wi t tt te vs) σ H Q) :
    tLc (lI K Wx wi) (lG K n vs t) (lT K (fun _ _ _ _ => False) tt) (lE K (fun _ _ _ _ => False) te) vs σ H Q := by
  obtain ⟨W, env, S, Q0, X1, ok, sl, hw, cv, cx⟩ := h
  refine ⟨W, env, S, _, X1, ok, sl, hw, fun items g S1 W1 H1 J ⟨hz, h1⟩ s1 ok1 jok => ?_, cx⟩
  exact lc_go (Wx := Wx) (H := H) hl hz h1 ok1 (sl.mono s1.vis) jok fun p acc ws W2 S2 H2 hp q s2 ok2 a b c r =>
    cv _ _ _ _ H2 (q p b) (s1.trans (s2.own hp)) (ok2.own (m := .lst acc) a c ⟨ws, rfl, r⟩) rfl
variable {pos2 : Pos} {i : Nat} {x : Str}
theorem pd_lcW {w : WPe} (hc : X.calm = true) (hN : X.N.Nodup) (hi : PDi X tg iter wi) (ok : BlkOk X.N X.env.scope scope own)
    (hg : ∀ (s : Shared) (H : Hp) (C : Addr) (cl : List (Str × Addr)) (fp : List Addr), PDg (X.blk s H scope (compEnvC scope cl C X.env) fp) tg (own.map (·.2)) t) (ht : ∀ (s : Shared) (H : Hp) (C : Addr) (cl : List (Str × Addr)) (fp : List Addr), PDts (X.blk s H scope (compEnvC scope cl C X.env) fp) ifs tt)
    (he : ∀ (s : Shared) (H : Hp) (C : Addr) (cl : List (Str × Addr)) (fp : List Addr), PD (X.blk s H scope (compEnvC scope cl C X.env) fp) elt te)
    (hw : ∀ Wx σ H Q, σ.length = X.N.length → lE X.K Wx w σ H Q → tLc (lI X.K Wx wi) (lG X.K X.N.length (own.map (·.2)) t) (lT X.K (fun _ _ _ _ => False) tt) (lE X.K (fun _ _ _ _ => False) te) (own.map (·.2)) σ H Q)
    (hs : ∀ x, foldedSetIterable iter X.env x = pure x := by intro _; rfl) : PD X (.ListComp elt [⟨tg, iter, ifs, 0⟩] scope pos) w :=
  ⟨fun Wx tk => ⟨fun pins s σ H Q I h => (pe_lc hc hN (hi.run Wx tk) ok (fun s H C cl fp => (hg s H C cl fp).run) (fun s H C cl fp => (ht s H C cl fp).run _ takesF) (fun s H C cl fp => (he s H C cl fp).run _ takesF) hs).run pins s σ H Q I (hw Wx σ H Q I.len h)⟩⟩
theorem pd_lc (hc : X.calm = true) (hN : X.N.Nodup) (hi : PDi X tg iter wi) (ok : BlkOk X.N X.env.scope scope own)
    (hg : ∀ (s : Shared) (H : Hp) (C : Addr) (cl : List (Str × Addr)) (fp : List Addr), PDg (X.blk s H scope (compEnvC scope cl C X.env) fp) tg (own.map (·.2)) t) (ht : ∀ (s : Shared) (H : Hp) (C : Addr) (cl : List (Str × Addr)) (fp : List Addr), PDts (X.blk s H scope (compEnvC scope cl C X.env) fp) ifs tt)
    (he : ∀ (s : Shared) (H : Hp) (C : Addr) (cl : List (Str × Addr)) (fp : List Addr), PD (X.blk s H scope (compEnvC scope cl C X.env) fp) elt te)
    (hs : ∀ x, foldedSetIterable iter X.env x = pure x := by intro _; rfl) : PD X (.ListComp elt [⟨tg, iter, ifs, 0⟩] scope pos) (wLc wi t tt te (own.map (·.2))) := pd_lcW hc hN hi ok hg ht he (fun _ _ _ _ hl h => lc_lst hl h) hs
theorem pd_lcM (hc : X.calm = true) (hN : X.N.Nodup) (hi : PDi X tg iter wi) (ok : BlkOk X.N X.env.scope scope own)
    (hg : ∀ (s : Shared) (H : Hp) (C : Addr) (cl : List (Str × Addr)) (fp : List Addr), PDg (X.blk s H scope (compEnvC scope cl C X.env) fp) tg (own.map (·.2)) t) (ht : ∀ (s : Shared) (H : Hp) (C : Addr) (cl : List (Str × Addr)) (fp : List Addr), PDts (X.blk s H scope (compEnvC scope cl C X.env) fp) ifs tt)
    (he : ∀ (s : Shared) (H : Hp) (C : Addr) (cl : List (Str × Addr)) (fp : List Addr), PD (X.blk s H scope (compEnvC scope cl C X.env) fp) elt te)
    (hs : ∀ x, foldedSetIterable iter X.env x = pure x := by intro _; rfl) : PD X (.ListComp elt [⟨tg, iter, ifs, 0⟩] scope pos) (wLcM wi t tt te (own.map (·.2))) := pd_lcW hc hN hi ok hg ht he (fun _ _ _ _ hl h => lc_lstM hl h) hs
/-- x = [..] on one line -/
theorem pds_setLcW {w : WPe} (hc : X.calm = true) (hN : X.N.Nodup) (hy : X.N[i]? = some x) (hyl : X.env.scope.names.lookup x = some .local) {px : Pos}
    (hsw : swapsWith (.ListComp elt [⟨tg, iter, ifs, 0⟩] scope pos) (some (.Name x px)) pos2.line X.env = pure true) (hi : PDi X tg iter wi) (ok : BlkOk X.N X.env.scope scope own)
    (hg : ∀ (s : Shared) (H : Hp) (C : Addr) (cl : List (Str × Addr)) (fp : List Addr), PDg (X.blk s H scope (compEnvC scope cl C X.env) fp) tg (own.map (·.2)) t) (ht : ∀ (s : Shared) (H : Hp) (C : Addr) (cl : List (Str × Addr)) (fp : List Addr), PDts (X.blk s H scope (compEnvC scope cl C X.env) fp) ifs tt)
    (he : ∀ (s : Shared) (H : Hp) (C : Addr) (cl : List (Str × Addr)) (fp : List Addr), PD (X.blk s H scope (compEnvC scope cl C X.env) fp) elt te)
    (hw : ∀ Wx σ H Q, σ.length = X.N.length → lE X.K Wx w σ H Q → tLc (lI X.K Wx wi) (lG X.K X.N.length (own.map (·.2)) t) (lT X.K (fun _ _ _ _ => False) tt) (lE X.K (fun _ _ _ _ => False) te) (own.map (·.2)) σ H Q)
    (hs : ∀ x, foldedSetIterable iter X.env x = pure x := by intro _; rfl) : PDs X (.Assign [.Name x px] (.ListComp elt [⟨tg, iter, ifs, 0⟩] scope pos) pos2) (wSet i w) :=
  ⟨fun Wx tk => PS.imp (ps_setLc hc hN hy hyl hsw (hi.run Wx tk) ok (fun s H C cl fp => (hg s H C cl fp).run) (fun s H C cl fp => (ht s H C cl fp).run _ takesF) (fun s H C cl fp => (he s H C cl fp).run _ takesF) hs) fun D σ H ⟨W, env, S, q, ok, sl, hl, hww, cs⟩ =>
    hw Wx σ H _ hl ⟨W, env, S, _, _, ok, sl, hww, fun d S1 v W1 H1 h1 s1 ok1 r1 => cs.nx _ S1 _ W1 H1 h1 s1 ok1 ((sl.mono s1.vis).set (by rw [hl]; exact lt_of_some hy) r1) (by rw [List.length_set]; exact hl), CXc.of cs sl⟩⟩
theorem pds_setLc (hc : X.calm = true) (hN : X.N.Nodup) (hy : X.N[i]? = some x) (hyl : X.env.scope.names.lookup x = some .local) {px : Pos}
    (hsw : swapsWith (.ListComp elt [⟨tg, iter, ifs, 0⟩] scope pos) (some (.Name x px)) pos2.line X.env = pure true) (hi : PDi X tg iter wi) (ok : BlkOk X.N X.env.scope scope own)
    (hg : ∀ (s : Shared) (H : Hp) (C : Addr) (cl : List (Str × Addr)) (fp : List Addr), PDg (X.blk s H scope (compEnvC scope cl C X.env) fp) tg (own.map (·.2)) t) (ht : ∀ (s : Shared) (H : Hp) (C : Addr) (cl : List (Str × Addr)) (fp : List Addr), PDts (X.blk s H scope (compEnvC scope cl C X.env) fp) ifs tt)
    (he : ∀ (s : Shared) (H : Hp) (C : Addr) (cl : List (Str × Addr)) (fp : List Addr), PD (X.blk s H scope (compEnvC scope cl C X.env) fp) elt te)
    (hs : ∀ x, foldedSetIterable iter X.env x = pure x := by intro _; rfl) : PDs X (.Assign [.Name x px] (.ListComp elt [⟨tg, iter, ifs, 0⟩] scope pos) pos2) (wSet i (wLc wi t tt te (own.map (·.2)))) :=
  pds_setLcW hc hN hy hyl hsw hi ok hg ht he (fun _ _ _ _ hl h => lc_lst hl h) hs
theorem pds_setLcM (hc : X.calm = true) (hN : X.N.Nodup) (hy : X.N[i]? = some x) (hyl : X.env.scope.names.lookup x = some .local) {px : Pos}
    (hsw : swapsWith (.ListComp elt [⟨tg, iter, ifs, 0⟩] scope pos) (some (.Name x px)) pos2.line X.env = pure true) (hi : PDi X tg iter wi) (ok : BlkOk X.N X.env.scope scope own)
    (hg : ∀ (s : Shared) (H : Hp) (C : Addr) (cl : List (Str × Addr)) (fp : List Addr), PDg (X.blk s H scope (compEnvC scope cl C X.env) fp) tg (own.map (·.2)) t) (ht : ∀ (s : Shared) (H : Hp) (C : Addr) (cl : List (Str × Addr)) (fp : List Addr), PDts (X.blk s H scope (compEnvC scope cl C X.env) fp) ifs tt)
    (he : ∀ (s : Shared) (H : Hp) (C : Addr) (cl : List (Str × Addr)) (fp : List Addr), PD (X.blk s H scope (compEnvC scope cl C X.env) fp) elt te)
    (hs : ∀ x, foldedSetIterable iter X.env x = pure x := by intro _; rfl) : PDs X (.Assign [.Name x px] (.ListComp elt [⟨tg, iter, ifs, 0⟩] scope pos) pos2) (wSet i (wLcM wi t tt te (own.map (·.2)))) :=
  pds_setLcW hc hN hy hyl hsw hi ok hg ht he (fun _ _ _ _ hl h => lc_lstM hl h) hs
end
end DL
set_option Elab.async false
set_option linter.all false
set_option maxRecDepth 100000
set_option maxHeartbeats 1000000
/-! The data layer, part h: contracts of defs by name. -/
namespace DL
open PySem PySem.Spec PyProof.Rows L2

def DefAt (K : PySem.W.Frag) (mg : Str → Option Value) (x qual : Str) (st : Stmt) (ps : List Str) : Prop := ∃ f fd, Fun K x qual st f fd ∧ mg x = some (.ref f) ∧ Binds K fd ps []
def MetAt (K : PySem.W.Frag) (C : Addr) (m qual : Str) (st : Stmt) (ps : List Str) : Prop := ∃ f fd, Fun K m qual st f fd ∧ Meth K C m f ∧ Binds K fd ps []
def MkAt (K : PySem.W.Frag) (C : Addr) (qual : Str) (st : Stmt) (ps : List Str) : Prop := ∃ f fd, Fun K "__init__" qual st f fd ∧ Mk K C f ∧ Binds K fd ps []
section
variable (P : Program) (w : World) (K : PySem.W.Frag) (mg : Str → Option Value) (base : Heap)
def FnC (k : Nat) (x : Str) (ps : List Str) (spec : Ctr) : Prop := ∃ f fd, FnD P w K mg base k f fd ps spec ∧ mg x = some (.ref f) ∧ PySem.W.keepIn K (.ref f) = true ∧ Binds K fd ps []
def MtC (C : Addr) (k : Nat) (m : Str) (ps : List Str) (spec : Ctr) : Prop := ∃ f fd, FnD P w K mg base k f fd ps spec ∧ Meth K C m f ∧ Binds K fd ps []
def MkC (C : Addr) (k : Nat) (ps : List Str) (spec : Ctr) : Prop := ∃ f fd, FnD P w K mg base k f fd ps spec ∧ Mk K C f ∧ Binds K fd ps []
end
/-- what a body is to end in -/
def endQ (Q : Qd) (X1 : XQ) : QS := { nx := fun _ S' => Q .non S', rt := Q, bk := fun _ _ => False, ct := fun _ _ => False, xc := fun C fs _ S' => X1 C fs S' }
section
variable {P : Program} {w : World} {K : PySem.W.Frag} {mg : Str → Option Value} {base : Heap} {x qual : Str} {st : Stmt} {N ps : List Str} {k : Nat} {spec : Ctr} {ws : WPs} {C : Addr}
theorem fnd_mk {f : Addr} {fd : FuncData} (F : Fun K x qual st f fd) (S : FnScope N ps (defScope st)) (hle : ps.length ≤ N.length) (len : ∀ ds S Q E, spec ds S Q E → ds.length = ps.length)
    (hd : ∀ (f : Addr) (cdv : Value) (A : Around) (outer : List Env) (s : Shared) (H : Hp) (E : XK), Room k (A.deeper (envOfC qual (defScope st) s.heap.objs.size f cdv)) → PDss (cxOf (L2.CX P w) P w K mg base N qual (defScope st) f cdv A outer s H E) (defBody st) ws)
    (hr : ∀ ds S Q X1, spec ds S Q X1 → ws (startD N ds) S (endQ Q X1)) : FnD P w K mg base (k + 1) f fd ps spec :=
  Fun.okD F S hle len fun cdv A outer s H E hrm => ⟨ws, hd f cdv A outer s H E hrm, hr⟩
theorem FnC.mk (D : DefAt K mg x qual st ps) (S : FnScope N ps (defScope st)) (hle : ps.length ≤ N.length) (len : ∀ ds S Q E, spec ds S Q E → ds.length = ps.length)
    (hd : ∀ (f : Addr) (cdv : Value) (A : Around) (outer : List Env) (s : Shared) (H : Hp) (E : XK), Room k (A.deeper (envOfC qual (defScope st) s.heap.objs.size f cdv)) → PDss (cxOf (L2.CX P w) P w K mg base N qual (defScope st) f cdv A outer s H E) (defBody st) ws)
    (hr : ∀ ds S Q X1, spec ds S Q X1 → ws (startD N ds) S (endQ Q X1)) : FnC P w K mg base (k + 1) x ps spec := by
  obtain ⟨f, fd, F, hm, hb⟩ := D
  exact ⟨f, fd, fnd_mk F S hle len hd hr, hm, F.kp, hb⟩
theorem MtC.mk {m : Str} (D : MetAt K C m qual st ps) (S : FnScope N ps (defScope st)) (hle : ps.length ≤ N.length) (len : ∀ ds S Q E, spec ds S Q E → ds.length = ps.length)
    (hd : ∀ (f : Addr) (cdv : Value) (A : Around) (outer : List Env) (s : Shared) (H : Hp) (E : XK), Room k (A.deeper (envOfC qual (defScope st) s.heap.objs.size f cdv)) → PDss (cxOf (L2.CX P w) P w K mg base N qual (defScope st) f cdv A outer s H E) (defBody st) ws)
    (hr : ∀ ds S Q X1, spec ds S Q X1 → ws (startD N ds) S (endQ Q X1)) : MtC P w K mg base C (k + 1) m ps spec := by
  obtain ⟨f, fd, F, hm, hb⟩ := D
  exact ⟨f, fd, fnd_mk F S hle len hd hr, hm, hb⟩
theorem MkC.mk (D : MkAt K C qual st ps) (S : FnScope N ps (defScope st)) (hle : ps.length ≤ N.length) (len : ∀ ds S Q E, spec ds S Q E → ds.length = ps.length)
    (hd : ∀ (f : Addr) (cdv : Value) (A : Around) (outer : List Env) (s : Shared) (H : Hp) (E : XK), Room k (A.deeper (envOfC qual (defScope st) s.heap.objs.size f cdv)) → PDss (cxOf (L2.CX P w) P w K mg base N qual (defScope st) f cdv A outer s H E) (defBody st) ws)
    (hr : ∀ ds S Q X1, spec ds S Q X1 → ws (startD N ds) S (endQ Q X1)) : MkC P w K mg base C (k + 1) ps spec := by
  obtain ⟨f, fd, F, hm, hb⟩ := D
  exact ⟨f, fd, fnd_mk F S hle len hd hr, hm, hb⟩
/-- a promise for no arguments at all: where a recursion begins -/
theorem FnC.zero (D : DefAt K mg x qual st ps) : FnC P w K mg base k x ps (fun _ _ _ _ => False) := by
  obtain ⟨f, fd, F, hm, hb⟩ := D
  exact ⟨f, fd, ⟨fun vs H Q E ⟨_, _, _, _, _, _, _, h, _⟩ => h.elim, fun A outer s H args us vs Q E _ _ _ _ ⟨_, _, _, _, _, _, _, h, _⟩ => h.elim⟩, hm, F.kp, hb⟩
theorem FnD.imp {f : Addr} {fd : FuncData} {spec' : Ctr} (F : FnD P w K mg base k f fd ps spec) (h : ∀ ds S Q X1, spec' ds S Q X1 → spec ds S Q X1) : FnD P w K mg base k f fd ps spec' :=
  FnOk.imp F fun vs H Q E ⟨W, S, ds, Q0, X1, ok, r, hs, cv, cx⟩ => ⟨W, S, ds, Q0, X1, ok, r, h _ _ _ _ hs, cv, cx⟩
theorem FnC.imp {spec' : Ctr} (F : FnC P w K mg base k x ps spec) (h : ∀ ds S Q X1, spec' ds S Q X1 → spec ds S Q X1) : FnC P w K mg base k x ps spec' := by
  obtain ⟨f, fd, F, a⟩ := F
  exact ⟨f, fd, FnD.imp F h, a⟩
theorem FnC.mono {k' : Nat} (F : FnC P w K mg base k x ps spec) (h : k ≤ k') : FnC P w K mg base k' x ps spec := by
  obtain ⟨f, fd, F, a⟩ := F
  exact ⟨f, fd, FnOk.mono F h, a⟩
end
section
variable {X : Cx} {k : Nat} {C : Addr} {ps : List Str} {spec : Ctr} {x m : Str} {p pos apos : Pos} {e o : Expr} {es : List Expr} {wo : WPe} {wa : WPa}
theorem pd_fn (G : FnC X.prog X.w X.K X.mg X.base k x ps spec) (hr : Room k X.A) (ha : PDa X (e :: es) wa) (hg : Gl X x := by rfl) (hdb : (x == ("__debug__" : Str)) = false := by decide)
    (he : starEach (e :: es) X.env = (false, eval e X.env) :: starEach es X.env := by rfl) (hpl : (backTo pos (starEach es X.env)).any (·.1) = false := by rfl) : PD X (.Call (.Name x p) (e :: es) [] pos) (wCall spec wa) := by
  obtain ⟨f, fd, F, hm, hk, hb⟩ := G
  exact pd_call F hr hm hk hb ha hg hdb he hpl
theorem pd_fn0 (G : FnC X.prog X.w X.K X.mg X.base k x ps spec) (hr : Room k X.A) (hg : Gl X x := by rfl) (hdb : (x == ("__debug__" : Str)) = false := by decide) : PD X (.Call (.Name x p) [] [] pos) (wCall spec wNil) := by
  obtain ⟨f, fd, F, hm, hk, hb⟩ := G
  exact pd_call0 F hr hm hk hb hg hdb
theorem pd_mt {N : List Str} {pl : Sem Bool} (c : Cls X.K C) (G : MtC X.prog X.w X.K X.mg X.base C k m ps spec) (hN : m ∉ N) (hr : Room k X.A) (ho : PD X o wo) (ha : PDa X (e :: es) wa)
    (hst : starEach (e :: es) X.env = (false, eval e X.env) :: starEach es X.env := by rfl) (hpl : (backTo pos (starEach es X.env)).any (·.1) = false := by rfl)
    (ht : eval (.Call (.Attribute o m apos) (e :: es) [] pos) X.env = (do
      let ov ← eval o X.env
      standAt apos.atName
      let (f, first) ← holding [ov] (getMethod ov m pl)
      callWith pos f first (backTo pos (starEach (e :: es) X.env)) (backToKw pos (keywordEach [] X.env))) := by rfl) : PD X (.Call (.Attribute o m apos) (e :: es) [] pos) (wMeth C N spec wo wa) := by
  obtain ⟨f, fd, F, hm, hb⟩ := G
  exact pd_meth c hm hN F hr hb ho ha hst hpl ht
theorem pd_mt0 {N : List Str} {pl : Sem Bool} (c : Cls X.K C) (G : MtC X.prog X.w X.K X.mg X.base C k m ps spec) (hN : m ∉ N) (hr : Room k X.A) (ho : PD X o wo)
    (ht : eval (.Call (.Attribute o m apos) [] [] pos) X.env = (do
      let ov ← eval o X.env
      standAt apos.atName
      let (f, first) ← holding [ov] (getMethod ov m pl)
      callWith pos f first (backTo pos (starEach [] X.env)) (backToKw pos (keywordEach [] X.env))) := by rfl) : PD X (.Call (.Attribute o m apos) [] [] pos) (wMeth C N spec wo wNil) := by
  obtain ⟨f, fd, F, hm, hb⟩ := G
  exact pd_meth0 c hm hN F hr hb ho ht
theorem pd_mk {N : List Str} (G : MkC X.prog X.w X.K X.mg X.base C k ps spec) (hm : X.mg x = some (.ref C)) (hN : N.Nodup) (hl : N.length ≤ 900) (hr : Room (k + 1) X.A) (ha : PDa X (e :: es) wa) (hg : Gl X x := by rfl) (hdb : (x == ("__debug__" : Str)) = false := by decide)
    (he : starEach (e :: es) X.env = (false, eval e X.env) :: starEach es X.env := by rfl) (hpl : (backTo pos (starEach es X.env)).any (·.1) = false := by rfl) : PD X (.Call (.Name x p) (e :: es) [] pos) (wMake C N spec wa) := by
  obtain ⟨f, fd, F, M, hb⟩ := G
  exact pd_make M hN hl F hr hm hb ha hg hdb he hpl
end
end DL
set_option Elab.async false
set_option linter.all false
set_option maxRecDepth 100000
set_option maxHeartbeats 1000000
/-! The data layer, part i: forms of data, their equality; words that reduce a reading. -/
namespace DL
open PySem PySem.Spec PyProof.Rows L2

/-! ### data of a depth -/
def okP (n : Nat) (p : PyData) : Prop := p.canLay0 = true ∧ p.depth ≤ n
theorem okP_int {n : Nat} {i : Int} : okP n (.int i) := ⟨rfl, Nat.zero_le _⟩
theorem okP_bool {n : Nat} {i : Bool} : okP n (.bool i) := ⟨rfl, Nat.zero_le _⟩
theorem okP_none {n : Nat} : okP n .none := ⟨rfl, Nat.zero_le _⟩
theorem okP_all {n : Nat} : ∀ {xs : List D}, (∀ x, x ∈ xs → okP n (toP x)) → PyData.canLayAll0 (toPs xs) = true ∧ PyData.depthAll (toPs xs) ≤ n
  | [], _ => ⟨rfl, Nat.zero_le _⟩
  | x :: r, h => by
    obtain ⟨a, b⟩ := h x List.mem_cons_self
    obtain ⟨c, d⟩ := okP_all (xs := r) fun y hy => h y (List.mem_cons_of_mem _ hy)
    refine ⟨?_, ?_⟩
    · show (PyData.canLay0 (toP x) && PyData.canLayAll0 (toPs r)) = true
      rw [a, c]; rfl
    · show max (PyData.depth (toP x)) (PyData.depthAll (toPs r)) ≤ n
      exact Nat.max_le.mpr ⟨b, d⟩
theorem okP_lst {n : Nat} {xs : List D} (h : ∀ x, x ∈ xs → okP n (toP x)) : okP (n + 1) (toP (.lst xs)) := ⟨(okP_all h).1, Nat.succ_le_succ (okP_all h).2⟩
theorem okP_tup {n : Nat} {xs : List D} (h : ∀ x, x ∈ xs → okP n (toP x)) : okP (n + 1) (toP (.tup xs)) := ⟨(okP_all h).1, Nat.succ_le_succ (okP_all h).2⟩
theorem okP_mono {n m : Nat} {p : PyData} (h : okP n p) (e : n ≤ m) : okP m p := ⟨h.1, Nat.le_trans h.2 e⟩
theorem shaped_of {n : Nat} {p : PyData} (h : okP n p) (e : n ≤ 64) : SeqAt.shaped p = true := by
  unfold SeqAt.shaped
  rw [h.1, decide_eq_true (Nat.le_trans h.2 e)]; rfl
theorem eqvAll_map {α : Type} [DecidableEq α] {f : α → D} (hf : ∀ a b, PyData.eqv (toP (f a)) (toP (f b)) = decide (a = b)) : ∀ xs ys : List α, PyData.eqvAll (toPs (xs.map f)) (toPs (ys.map f)) = decide (xs = ys)
  | [], [] => by simp [toPs, PyData.eqvAll]
  | [], _ :: _ => by simp [toPs, PyData.eqvAll]
  | _ :: _, [] => by simp [toPs, PyData.eqvAll]
  | a :: r, b :: s => by
    show (PyData.eqv (toP (f a)) (toP (f b)) && PyData.eqvAll (toPs (r.map f)) (toPs (s.map f))) = _
    rw [hf, eqvAll_map hf r s]
    by_cases h1 : a = b <;> by_cases h2 : r = s <;> simp [h1, h2]
/-! ### rows of ints -/
def dL (xs : List Int) : D := .lst (xs.map D.int)
def dT (xs : List Int) : D := .tup (xs.map D.int)
/-- a row of ints as a tuple (true) or a list -/
def dR (k : Bool) (xs : List Int) : D := if k = true then dT xs else dL xs
/-- rows as a tuple or a list of tuples or lists -/
def rows (k j : Bool) (xs : List (List Int)) : D := if k = true then .tup (xs.map (dR j)) else .lst (xs.map (dR j))
theorem eqv_int (a b : Int) : PyData.eqv (toP (.int a)) (toP (.int b)) = decide (a = b) := by
  show (a == b) = _
  rw [Bool.beq_eq_decide_eq]
theorem eqv_dL (a b : List Int) : PyData.eqv (toP (dL a)) (toP (dL b)) = decide (a = b) := eqvAll_map eqv_int a b
theorem eqv_dT (a b : List Int) : PyData.eqv (toP (dT a)) (toP (dT b)) = decide (a = b) := eqvAll_map eqv_int a b
theorem okP_ints {xs : List Int} : ∀ x, x ∈ xs.map D.int → okP 0 (toP x) := fun x h => by
  obtain ⟨i, _, rfl⟩ := List.mem_map.mp h
  exact okP_int
theorem okP_dL {xs : List Int} : okP 1 (toP (dL xs)) := okP_lst okP_ints
theorem okP_dT {xs : List Int} : okP 1 (toP (dT xs)) := okP_tup okP_ints
theorem seqA_dR {S : Sto} {k : Bool} {xs : List Int} : seqA S (dR k xs) = some (xs.map D.int) := by cases k <;> rfl
theorem seqA_rows {S : Sto} {k j : Bool} {xs : List (List Int)} : seqA S (rows k j xs) = some (xs.map (dR j)) := by cases k <;> rfl
section
variable {S : Sto} {a b : List Int} {i j : Int} {p q : Bool}
theorem shD_int : shD S (.int i) = true := rfl
theorem shD_bl : shD S (.bl p) = true := rfl
theorem shD_non : shD S .non = true := rfl
theorem shD_dL : shD S (dL a) = true := shaped_of okP_dL (by decide)
theorem shD_dT : shD S (dT a) = true := shaped_of okP_dT (by decide)
theorem shD_lst : shD S (.lst (a.map D.int)) = true := shaped_of okP_dL (by decide)
theorem shD_tup : shD S (.tup (a.map D.int)) = true := shaped_of okP_dT (by decide)
theorem eqD_int : eqD S (.int i) (.int j) = decide (i = j) := eqv_int i j
theorem eqD_bl : eqD S (.bl p) (.bl q) = (p == q) := rfl
theorem eqD_dL : eqD S (dL a) (dL b) = decide (a = b) := eqv_dL a b
theorem eqD_dT : eqD S (dT a) (dT b) = decide (a = b) := eqv_dT a b
theorem eqD_lst : eqD S (.lst (a.map D.int)) (.lst (b.map D.int)) = decide (a = b) := eqv_dL a b
theorem eqD_tup : eqD S (.tup (a.map D.int)) (.tup (b.map D.int)) = decide (a = b) := eqv_dT a b
end
/-! ### slices of rows of ints -/
def cutI (xs : List Int) (lo hi : Option Int) : List Int := (xs.drop (HT.sIx xs.length 0 lo)).take (HT.sIx xs.length xs.length hi - HT.sIx xs.length 0 lo)
theorem cutD_int {xs : List Int} {lo hi : Option Int} : cutD (xs.map D.int) lo hi = (cutI xs lo hi).map D.int := by
  unfold cutD cutI
  rw [List.length_map, List.map_take, List.map_drop]
theorem sIx_pos {n d : Nat} {i : Int} (h : 0 ≤ i) : HT.sIx n d (some i) = min i.toNat n := by
  obtain ⟨k, rfl⟩ := Int.eq_ofNat_of_zero_le h
  rw [HT.sIx_nat]
  simp
theorem cutI_from {xs : List Int} {i : Int} (h : 0 ≤ i) : cutI xs (some i) none = xs.drop i.toNat := by
  unfold cutI
  rw [sIx_pos h, HT.sIx_none]
  by_cases q : i.toNat ≤ xs.length
  · rw [Nat.min_eq_left q, List.take_of_length_le]
    rw [List.length_drop]; exact Nat.le_refl _
  · rw [Nat.min_eq_right (by omega), List.drop_length, List.drop_eq_nil_of_le (by omega), List.take_nil]
theorem cutI_to {xs : List Int} {i : Int} (h : 0 ≤ i) : cutI xs none (some i) = xs.take i.toNat := by
  unfold cutI
  rw [sIx_pos h, HT.sIx_none, List.drop_zero, Nat.sub_zero]
  by_cases q : i.toNat ≤ xs.length
  · rw [Nat.min_eq_left q]
  · rw [Nat.min_eq_right (by omega), List.take_length, List.take_of_length_le (by omega)]
theorem cutI_both {xs : List Int} {i j : Int} (h : 0 ≤ i) (h2 : 0 ≤ j) : cutI xs (some i) (some j) = (xs.drop i.toNat).take (j.toNat - i.toNat) := by
  unfold cutI
  rw [sIx_pos h, sIx_pos h2]
  generalize i.toNat = a
  generalize j.toNat = b
  by_cases q : a ≤ xs.length
  · rw [Nat.min_eq_left q]
    by_cases q2 : b ≤ xs.length
    · rw [Nat.min_eq_left q2]
    · rw [Nat.min_eq_right (Nat.le_of_not_le q2), List.take_of_length_le (by rw [List.length_drop]; exact Nat.le_refl _), List.take_of_length_le (by rw [List.length_drop]; omega)]
  · rw [Nat.min_eq_right (Nat.le_of_not_le q), List.drop_length, List.drop_eq_nil_of_le (by omega), List.take_nil, List.take_nil]
end DL
set_option Elab.async false
set_option linter.all false
set_option maxRecDepth 100000
set_option maxHeartbeats 1000000
/-! The data layer, part j: the law's own head. -/
namespace DL
open PySem PySem.Spec PyProof.Rows L2
theorem cx_no {P : Program} {w : World} {o : List Env} {H : Hp} {s s' : Shared} {e : Value} (h : L2.CX P w o H s (fun _ _ _ => False) e s') : False := by
  obtain ⟨_, _, _, _, _, _, _, _, _, _, _, _, h⟩ := h
  exact h
/-- what is asked of the law: true, whatever else it leaves -/
def spScript : Ctr := fun ds S Q _ => ∃ cells : List Int, ds = [.fro (cells.map D.int)] ∧ cells.length ≤ 63 ∧ ∀ S', Q (.bl true) S'
theorem spScript_at {K : PySem.W.Frag} {H : Hp} {a : Addr} {ns : List Int} {E : XK} (hl : ns.length ≤ 63) (hS : SqL K H a (ns.map V.int)) : lSp K spScript [.ref a] H (fun v _ => v = .bl true) E :=
  ⟨H, fun _ => none, [.fro (ns.map D.int)], fun d _ => d = .bl true, X0, ⟨Same.refl H, (fun _ _ h => nomatch h), (fun _ _ h => nomatch h)⟩, ⟨_, _, rfl, ⟨a, _, rfl, hS, reps_ints⟩, rfl⟩, ⟨ns, rfl, hl, fun _ => rfl⟩,
    fun d S' v W' H' h _ _ r => by subst h; exact r, CXc.no⟩
end DL
set_option Elab.async false
set_option linter.all false
set_option maxRecDepth 100000
set_option maxHeartbeats 2000000
/-! The data layer, part k: enumerate of tuples. -/
namespace DL
open PySem PySem.Spec PyProof.Rows L2
abbrev itObj (a : Addr) : Obj := { cls := .type "tuple_iterator", data := .fields #[.ref a, .int 0 0] }
abbrev enObj (i : Addr) : Obj := { cls := .type "enumerate", data := .fields #[.none, .bool false, .ref i, rawInt 0, .none, .none] }
theorem enumT_meets (a : Addr) (xs : Array Value) (m : Nat) (od : Option Addr) (sl : Array (Option Value)) :
    Meets (Builtin.«enumerate.__new__» ⟨[.type "enumerate", .ref a], []⟩) (fun _ R s => s.heap.get? a = some { cls := .type "tuple", dict := od, data := .seq xs m, slots := sl } ∧
      R (.ok (.ret (.ref (s.heap.push (itObj a)).objs.size))) { s with heap := (s.heap.push (itObj a)).push (enObj s.heap.objs.size) }) :=
  .of_wp fun prog w A R s q => by
    obtain ⟨hp, gg, dr, tk, os⟩ := s
    obtain ⟨ha, q⟩ := q
    have hsub := sub_enumerate
    have hT : Heap.IsTuple (Shared.heap ⟨hp, gg, dr, tk, os⟩) a xs := ⟨_, ha, rfl, m, rfl⟩
    wp_walk using wpAny_loadPart' ha
    refine wpAny_stack_any fun st => wpAny_pure ?_
    split
    · rename_i c _ _ _ _ _
      cases (c == Value.type "enumerate")
      all_goals
        wp_walk using wpAny_loadPart' ha, wpAny_pyIter_tuple hT
        exact ⟨_, rfl, q⟩
    · wp_walk using wpAny_loadPart' ha, wpAny_pyIter_tuple hT
      exact ⟨_, rfl, q⟩
theorem call_enumT {prog : Program} {w : World} {A : Around} {E : Value → Shared → Prop} {s : Shared} {a : Addr} {xs : Array Value} {Q : Value → Shared → Prop} (hT : s.heap.IsTuple a xs)
    (q : ∀ h', IsEnum h' (s.heap.objs.size + 1) s.heap.objs.size 0 .none → h'.IsTupleIter s.heap.objs.size a 0 → (∀ b o, s.heap.get? b = some o → h'.get? b = some o) → Q (.ref (s.heap.objs.size + 1)) { s with heap := h' }) :
    wpAny (model prog w) A (call (.type "enumerate") [.ref a]) Q E s := by
  obtain ⟨⟨c, od, dt, sl⟩, ha, hc, m, hd⟩ := hT
  replace hc : c = .type "tuple" := hc
  replace hd : dt = .seq xs m := hd
  subst hc hd
  refine callType_new F.called_enumerate (by decide) (F.typeCall_enumerate_1 _) (F.newCall_enumerate_1 _) (fun obj => F.args_object_init_2 obj _) F.entry_enumerate_new (enumT_meets a xs m od sl) ⟨ha, ?_⟩
  have hz : (s.heap.push (itObj a)).objs.size = s.heap.objs.size + 1 := Heap.size_push ..
  show _ ∧ _
  rw [hz]
  have he : IsEnum ((s.heap.push (itObj a)).push (enObj s.heap.objs.size)) (s.heap.objs.size + 1) s.heap.objs.size 0 .none := by
    have z := Heap.get?_push_size (s.heap.push (itObj a)) (o := enObj s.heap.objs.size) rfl
    rw [hz] at z
    exact z
  exact ⟨⟨_, he, rfl⟩, q _ he ⟨_, Heap.get?_push_of_some _ (Heap.get?_push_size _ rfl), rfl, rfl⟩ fun b o x => Heap.get?_push_of_some _ (Heap.get?_push_of_some _ x)⟩
/-- the tuple at a, each item in a new pair -/
def IteT (K : PySem.W.Frag) (a : Addr) : It :=
  ⟨fun i H => ∃ (xs : List V) (x : V), SqT K H a xs ∧ xs[i]? = some x, fun i H v H' => ∃ T x, v = .ref T ∧ H T = none ∧ H' = upd H T (.tup [.int (i : Nat), x]) ∧ ∀ xs, SqT K H a xs → xs[i]? = some x, fun i H => ∃ xs : List V, SqT K H a xs ∧ xs.length = i⟩
theorem turn_enumT {P : Program} {w : World} {K : PySem.W.Frag} {elts : List Expr} {kk : Nat} {tpos : Pos} (a e it : Addr) :
    Turn P w K (.Tuple elts kk tpos) (IteT K a) [e, it] e (fun i h => (∃ old, IsEnum h e it ((i : Nat) : Int) old) ∧ h.IsTupleIter it a i ∧ e ≠ it ∧ a ≠ it ∧ e ≠ a) where
  mem := by simp
  obj := fun i h st b hb => by
    obtain ⟨⟨old, he⟩, ⟨o, ho, hc, hd⟩, _⟩ := st
    rcases (show b = e ∨ b = it by simpa using hb) with z | z
    · rw [z]; exact ⟨_, he, fun v q => nomatch q⟩
    · rw [z]; exact ⟨o, ho, fun v q => by rw [hd] at q; cases q⟩
  keep := fun i h h' st k => let ⟨⟨old, he⟩, hi, hne⟩ := st; ⟨⟨old, k e (by simp) _ he⟩, hi.at fun o q => k it (by simp) o q, hne⟩
  item := by
    intro X hP hw hK hc i pins s σ H E I hf st hg
    subst hP hw hK
    obtain ⟨⟨old, he⟩, hit, n1, n2, n3⟩ := st
    obtain ⟨xs, x, hq, hx⟩ := hg
    obtain ⟨its, rv, p, hz⟩ := I.tuple hq
    obtain ⟨u, hu, ru⟩ := rv.get hx
    have hel : e < s.heap.objs.size := Heap.lt_size he
    have hil : it < s.heap.objs.size := by obtain ⟨_, q, _⟩ := hit; exact Heap.lt_size q
    have hil2 : i < its.toArray.size := by
      have := lt_of_some hu
      simpa using this
    have hh : X.A.in1.handled = Option.none := I.ok.hd hc
    refine wpAny_pyNext_enum_itemD (Draws.tuple hh it a n2 its.toArray) he ⟨hit, (show s.heap.IsTuple a its.toArray from p)⟩ hil2 n1 (by simp [n1, n3]) fun x' h' tk hPx ho hst hT hsz hk => ?_
    have ex : x' = u := by
      have h1 : its[i]? = some x' := by simpa using hPx
      rw [hu] at h1
      exact (Option.some.inj h1).symm
    subst ex
    refine ⟨_, rfl, wpAny_letOwnedTupleGo_enum (s := { s with heap := h', toks := tk + 1 }) ho fun h'' he' sb => ?_⟩
    have hT2 : h''.get? s.heap.objs.size = some { cls := .type "tuple", data := .seq #[.int i tk, x'] } := (sb.2 _ (Nat.ne_of_gt hel)).trans hT
    have new : ObjOk X.prog X.w (upd H s.heap.objs.size (.tup [.int (i : Nat), x])) h'' s.heap.objs.size (.tup [.int (i : Nat), x]) :=
      ⟨by show 2 ≤ sizeLine; decide, [.int i tk, x'], .cons ⟨_, rfl⟩ (.cons ru .nil), ⟨_, hT2, rfl, _, rfl⟩⟩
    have I1 : Inv X pins σ (upd H s.heap.objs.size (.tup [.int (i : Nat), x])) { s with heap := h'', toks := tk + 1 } :=
      I.turnedNew (ch := [e, it]) (fun b ob hb q => (sb.2 b (fun z => hb (by simp [z]))).trans (hk b ob (fun z => hb (by simp [z])) (fun z => hb (by simp [z])) q)) hf (Nat.le_refl _) new
    refine ⟨.ref s.heap.objs.size, _, I1, rfl, ⟨_, x, rfl, I.hok.fresh (Nat.le_refl _), rfl, fun ys hy => by rw [I.tuple_inj hy hq]; exact hx⟩, ⟨⟨x', ?_⟩, hst.1.at fun o q => (sb.2 it (Ne.symm n1)).trans q, n1, n2, n3⟩, fun b hb => ?_⟩
    · have e1 : ((i + 1 : Nat) : Int) = (i : Int) + 1 := by omega
      rw [e1]; exact he'
    · have hb' : b < s.heap.objs.size := by
        rcases (show b = e ∨ b = it by simpa using hb) with z | z
        · rw [z]; exact hel
        · rw [z]; exact hil
      rw [upd_ne (Nat.ne_of_lt hb')]
      exact (hf b hb).1
  done := by
    intro X hP hw hK hc i pins s σ H E I hf st hg
    subst hP hw hK
    obtain ⟨⟨old, he⟩, hit, n1, n2, n3⟩ := st
    obtain ⟨xs, hq, hx⟩ := hg
    obtain ⟨its, rv, p, hz⟩ := I.tuple hq
    obtain ⟨f0, f1, f2, f3, f4, f5⟩ := hf it (by simp)
    have hl := rv.length
    have hh : X.A.in1.handled = Option.none := I.ok.hd hc
    have ei : i = its.toArray.size := by simp; omega
    subst ei
    exact wpAny_pyNext_enum_endD (Draws.tuple hh it a n2 its.toArray) he ⟨hit, (show s.heap.IsTuple a its.toArray from p)⟩ fun h' eb => ⟨rfl, I.turned (t' := s.toks) (fun b o hb q => eb b o hb q) f0 f1 f3 f4 f5⟩
  self := fun A i s Q E st h => let ⟨⟨_, he⟩, _⟩ := st; wpAny_pyIter_enum he h
end DL
set_option Elab.async false
set_option linter.all false
set_option maxRecDepth 100000
set_option maxHeartbeats 1000000
/-! The data layer, part l: enumerate, constants, isinstance of several, pop at a place, a list repeated, calls by keyword. -/
namespace DL
open PySem PySem.Spec PyProof.Rows L2
section
/-- pairs of a place and an item -/
def enumD : Nat → List D → List D
  | _, [] => []
  | j, x :: r => .tup [.int (j : Int), x] :: enumD (j + 1) r
theorem enumD_get : ∀ {j : Nat} {xs : List D} {i : Nat} {d : D}, (enumD j xs)[i]? = some d → ∃ x, xs[i]? = some x ∧ d = .tup [.int ((j + i : Nat) : Int), x]
  | _, [], _, _, h => by simp [enumD] at h
  | j, x :: r, 0, d, h => ⟨x, rfl, (Option.some.inj h).symm⟩
  | j, x :: r, i + 1, d, h => by
    obtain ⟨y, h1, h2⟩ := enumD_get (j := j + 1) (xs := r) (i := i) h
    exact ⟨y, h1, by rw [h2]; congr 3; omega⟩
theorem enumD_length : ∀ {j : Nat} {xs : List D}, (enumD j xs).length = xs.length
  | _, [] => rfl
  | j, x :: r => congrArg (· + 1) (enumD_length (j := j + 1) (xs := r))
def wEnum (w : WPe) : WPi := fun env S Q X => w env S (fun d S1 => some! (seqA S1 d) fun xs => Q (enumD 0 xs) (fun S' => seqA S' d = some xs) S1) X
def iEnA (K : PySem.W.Frag) (ta : TA) : TI := fun σ H R => ta σ H fun vs H1 => ∃ a, vs = [.ref a] ∧ (((∃ xs, SqL K H1 a xs) ∧ R (Ite K a) H1) ∨ ((∃ xs, SqT K H1 a xs) ∧ R (IteT K a) H1))
theorem pi_enA {X : Cx} {e : Expr} {ta : TA} {p pos tpos : Pos} {elts : List Expr} {kk : Nat} (hg : Gl X "enumerate") (hm : X.mg "enumerate" = none) (ha : PA X [e] ta) (hs : starEach [e] X.env = [(false, eval e X.env)] := by rfl) :
    PI X (.Tuple elts kk tpos) (.Call (.Name "enumerate" p) [e] [] pos) (iEnA X.K ta) := by
  refine ⟨fun pins s σ H R I h => ?_⟩
  refine Call_ (ld_blt I hg hm boot_enumerate (PyProof.Rows.callWith_type1 (thn (ha.run pos pins s σ H _ I h) fun us s1 ⟨vs, H1, I1, r1, a, ev, q1⟩ => ?_) hs rfl))
  subst ev
  cases r1 with
  | cons r rr =>
    cases rr
    cases r
    have fpk : ∀ b, b ∈ [s1.heap.objs.size + 1, s1.heap.objs.size] → FpOk X pins H1 b := fun b hb => by
      have hle : s1.heap.objs.size ≤ b := by
        rcases (show b = s1.heap.objs.size + 1 ∨ b = s1.heap.objs.size by simpa using hb) with z | z
        · rw [z]; exact Nat.le_add_right _ _
        · rw [z]; exact Nat.le_refl _
      exact I1.fpOk hle (I1.hok.fresh hle)
    rcases q1 with ⟨⟨xs, hq⟩, q⟩ | ⟨⟨xs, hq⟩, q⟩
    · obtain ⟨its, rv, pl, hz⟩ := I1.list hq
      refine call_enumerate_list pl.isList fun h' he hit hsz hk => wpAny_pyIter_enum he ?_
      exact ⟨s1.heap.objs.size + 1, [s1.heap.objs.size + 1, s1.heap.objs.size], _, _, H1, rfl, I1.kept (t' := s1.toks) hk, turn_enum a (s1.heap.objs.size + 1) s1.heap.objs.size, ⟨⟨.none, he⟩, hit, Nat.succ_ne_self _⟩, fpk, q⟩
    · obtain ⟨its, rv, pl, hz⟩ := I1.tuple hq
      have hT : s1.heap.IsTuple a its.toArray := pl
      have hal : a < s1.heap.objs.size := by
        obtain ⟨o, ho, _⟩ := hT
        exact Heap.lt_size ho
      refine call_enumT hT fun h' he hit hk => wpAny_pyIter_enum he ?_
      exact ⟨s1.heap.objs.size + 1, [s1.heap.objs.size + 1, s1.heap.objs.size], _, _, H1, rfl, I1.kept (t' := s1.toks) hk, turn_enumT a (s1.heap.objs.size + 1) s1.heap.objs.size, ⟨⟨.none, he⟩, hit, Nat.succ_ne_self _, Nat.ne_of_lt hal, (Nat.ne_of_lt (Nat.lt_succ_of_lt hal)).symm⟩, fpk, q⟩
end
section
variable {K : PySem.W.Frag}
theorem jok_enL {W0 : Hp} {S0 : Sto} {H0 : Hp} {d : D} {a : Addr} {xs : List D} (ok : Ok K W0 S0 H0) (r : Rep K W0 d (.ref a)) (hL : seqL S0 d = some xs) (hA : ∀ {S}, seqA S d = seqL S d) :
    (∃ vs, SqL K H0 a vs) ∧ JOk K (Ite K a) W0 (enumD 0 xs) (fun S' => seqA S' d = some xs) := by
  obtain ⟨b, ws, e1, e2, e3⟩ := seqL_rep ok r hL
  cases e1
  refine ⟨⟨ws, e2⟩, ⟨fun i W S H d' hd s1 ok1 g => ?_, fun W S H s1 ok1 g => ?_⟩⟩
  · rw [hA] at g
    obtain ⟨c, zs, e7, e8, e9⟩ := seqL_rep ok1 (r.mono s1) g
    cases e7
    obtain ⟨y, hy, rfl⟩ := enumD_get hd
    obtain ⟨u, hu, ru⟩ := e9.get hy
    refine ⟨⟨zs, u, e8, hu⟩, fun x H' ⟨T, x', e4, e5, e6, e10⟩ => ?_⟩
    subst e4 e6
    have e11 := e10 zs e8
    rw [hu] at e11
    cases e11
    have n := ok1.fresh e5
    exact ⟨_, ok1.stW e5, ok1.newW e5, T, _, rfl, SqT.of upd_same, _, _, rfl, by rw [Nat.zero_add]; rfl, _, _, rfl, ru.mono (same_new n.1), rfl⟩
  · rw [hA] at g
    obtain ⟨c, zs, e7, e8, e9⟩ := seqL_rep ok1 (r.mono s1) g
    cases e7
    rw [enumD_length]
    exact ⟨zs, e8, Nat.le_of_eq e9.length⟩
theorem jok_en {W0 : Hp} {S0 : Sto} {H0 : Hp} {d : D} {v : V} {xs : List D} (ok : Ok K W0 S0 H0) (r : Rep K W0 d v) (h : seqA S0 d = some xs) :
    ∃ a, v = .ref a ∧ (((∃ vs, SqL K H0 a vs) ∧ JOk K (Ite K a) W0 (enumD 0 xs) (fun S' => seqA S' d = some xs)) ∨ ((∃ vs, SqT K H0 a vs) ∧ JOk K (IteT K a) W0 (enumD 0 xs) (fun S' => seqA S' d = some xs))) := by
  obtain ⟨a, vs, rfl, hq, rv⟩ := seqA_rep ok r h
  refine ⟨a, rfl, ?_⟩
  cases d with
  | tup ys =>
    cases h
    obtain ⟨b, ws, e1, e2, e3⟩ := r
    cases e1
    refine .inr ⟨⟨ws, sqT_mono ok.vis e2⟩, ⟨fun i W S H d' hd s1 ok1 _ => ?_, fun W S H s1 ok1 _ => ?_⟩⟩
    · obtain ⟨y, hy, rfl⟩ := enumD_get hd
      obtain ⟨u, hu, ru⟩ := e3.get hy
      have hT := sqT_mono (s1.trans ok1.vis) e2
      refine ⟨⟨ws, u, hT, hu⟩, fun x H' ⟨T, x', e4, e5, e6, e10⟩ => ?_⟩
      subst e4 e6
      have e11 := e10 ws hT
      rw [hu] at e11
      cases e11
      have n := ok1.fresh e5
      exact ⟨_, ok1.stW e5, ok1.newW e5, T, _, rfl, SqT.of upd_same, _, _, rfl, by rw [Nat.zero_add]; rfl, _, _, rfl, (ru.mono s1).mono (same_new n.1), rfl⟩
    · rw [enumD_length]
      exact ⟨ws, sqT_mono (s1.trans ok1.vis) e2, e3.length⟩
  | lst ys => exact .inl (jok_enL ok r h rfl)
  | fro ys => exact .inl (jok_enL ok r h rfl)
  | ref b => exact .inl (jok_enL ok r h rfl)
  | _ => cases h
end
section
variable {X : Cx} {e : Expr} {w : WPe} {p pos tpos : Pos} {elts : List Expr} {kk : Nat}
theorem pdi_enum (hm : X.mg "enumerate" = none) (h : PD X e w) (hg : Gl X "enumerate" := by rfl) (hs : starEach [e] X.env = [(false, eval e X.env)] := by rfl) (hs2 : starEach [e] X.env = (false, eval e X.env) :: starEach [] X.env := by rfl) :
    PDi X (.Tuple elts kk tpos) (.Call (.Name "enumerate" p) [e] [] pos) (wEnum w) :=
  ⟨fun Wx tk => PI.imp (pi_enA hg hm (pa_cons (h.run Wx tk) pa_nil hs2) hs) fun σ H R ⟨W, env, S, Q0, X1, ok, sl, hw, cv, cx⟩ => ⟨W, env, S, _, X1, ok, sl, hw, fun d S1 v W1 H1 h1 s1 ok1 r1 => by
    obtain ⟨xs, e1, h1⟩ := some!_ex h1
    obtain ⟨a, rfl, ⟨q, j⟩ | ⟨q, j⟩⟩ := jok_en ok1 r1 e1
    · exact ⟨a, rfl, .inl ⟨q, cv _ _ S1 W1 H1 _ h1 s1 ok1 j⟩⟩
    · exact ⟨a, rfl, .inr ⟨q, cv _ _ S1 W1 H1 _ h1 s1 ok1 j⟩⟩, cx⟩⟩
/-- a constant of the module -/
theorem pd_glob {x : Str} {i : Int} (h : ∃ u, X.mg x = some u ∧ RelV (.int i) u) (hg : Gl X x := by rfl) (hd : (x == ("__debug__" : Str)) = false := by decide) : PD X (.Name x pos) (wC (.int i)) := by
  obtain ⟨u, hm, r⟩ := h
  exact pd_c (pe_glob hg hm r hd) fun _ => rfl
/-- xs.pop(i) -/
def oPopAt : OM := fun S d ds Q => mutL S d fun a xs => one ds fun e => asI e fun i => (-(2 ^ 63) ≤ i ∧ i < 2 ^ 63) ∧ some! (seqIndex? i xs.length) fun k => some! xs[k]? fun y => Q y (put S a (.lst (xs.eraseIdx k)))
theorem reps_erase {K : PySem.W.Frag} {W : Hp} : ∀ {xs : List D} {vs : List V} (k : Nat), Reps K W xs vs → Reps K W (xs.eraseIdx k) (vs.eraseIdx k)
  | [], _, _, h => by rw [show _ = [] from h]; rfl
  | _ :: _, _, 0, ⟨v, r, e1, e2, e3⟩ => by subst e1; exact e3
  | _ :: _, _, k + 1, ⟨v, r, e1, e2, e3⟩ => by
    subst e1
    exact ⟨v, _, rfl, e2, reps_erase k e3⟩
theorem md_popAt : MtR X "list.pop" (lM X.K oPopAt) := MtR.imp mt_popAt fun x vs H Q ⟨W, S, d, ds, Q0, ok, r, rs, ho, cv⟩ => by
  obtain ⟨a, xs, us, rfl, rfl, e1, e2, rv, h⟩ := mutL_rep ok r ho
  obtain ⟨y, rfl, h⟩ := one_ex h
  obtain ⟨i, rfl, hi, h⟩ := asI_ex h
  obtain ⟨k, ek, h⟩ := some!_ex h
  obtain ⟨z, ez, h⟩ := some!_ex h
  obtain ⟨t, rfl, rt⟩ := reps1 rs
  obtain ⟨u, e4, ru⟩ := rv.get ez
  exact ⟨a, us, i, k, u, rfl, by rw [show t = .int i from rt], e2, hi.1, hi.2, by rw [rv.length]; exact ek, e4, cv _ _ _ _ _ h (ok.stC e1) (ok.chg e1 ⟨_, rfl, reps_erase k rv⟩) ru⟩
/-! ### isinstance of several classes -/
def kitAnyB : String → List String → Option Bool
  | _, [] => some false
  | a, b :: bs => match kitB a b with
    | some true => some true
    | some false => kitAnyB a bs
    | none => none
theorem kit_any {K : PySem.W.Frag} {a : String} : ∀ {bs : List String} {r : Bool}, kitAnyB a bs = some r → PySem.W.kitAny K (.type a) (bs.map Value.type) = some r
  | [], r, h => by cases h; exact kitAny_nil
  | b :: bs, r, h => by
    have h' : (match kitB a b with | some true => some true | some false => kitAnyB a bs | none => none) = some r := h
    cases q : kitB a b with
    | none => rw [q] at h'; cases h'
    | some k =>
      rw [q] at h'
      cases k with
      | true => exact kitAny_cons (kit_ty q) (fun z => by cases z) fun _ => (Option.some.inj h').symm
      | false => exact kitAny_cons (kit_ty q) (fun _ => kit_any h') fun z => by cases z
def wIsiT (Ts : List String) (w : WPe) : WPe := fun env S Q X => w env S (fun d S1 => some! (tyN S1 d) fun n => some! (kitAnyB n Ts) fun b => Q (.bl b) S1) X
/-- the classes, one after the other -/
def tTys (Ts : List String) : TA := fun σ H Q => Q (Ts.map V.ty) H
theorem pa_tys0 {X : Cx} : PA X [] (tTys []) := pa_nil
theorem pa_tys {X : Cx} {e : Expr} {es : List Expr} {T : String} {Ts : List String} (h : PE X e (tC (.ty T))) (r : PA X es (tTys Ts)) (hs : starEach (e :: es) X.env = (false, eval e X.env) :: starEach es X.env := by rfl) : PA X (e :: es) (tTys (T :: Ts)) := pa_cons h r hs
theorem clsv_all : ∀ Ts : List String, Paired ClsV (Ts.map V.ty) (Ts.map Value.type)
  | [] => .nil
  | T :: Ts => .cons (.ty T) (clsv_all Ts)
theorem pd_isiT {X : Cx} {e : Expr} {w : WPe} {p p2 pos : Pos} {es : List Expr} {kk : Nat} {Ts : List String} (he : PD X e w) (ht : PA X es (tTys Ts)) (hm : X.mg "isinstance" = none) (hz : Ts.length ≤ sizeLine := by decide) (hg : Gl X "isinstance" := by rfl)
    (hs : starEach [e, .Tuple es kk p2] X.env = (false, eval e X.env) :: starEach [.Tuple es kk p2] X.env := by rfl) (hs2 : starEach [.Tuple es kk p2] X.env = [(false, eval (.Tuple es kk p2) X.env)] := by rfl) (hpl : (backTo pos (starEach [.Tuple es kk p2] X.env)).any (·.1) = false := by rfl) :
    PD X (.Call (.Name "isinstance" p) [e, .Tuple es kk p2] [] pos) (wIsiT Ts w) :=
  ⟨fun Wx tk => PE.imp (pe_callB call_isiT hg hm (by decide +kernel) (pa_cons (he.run Wx tk) (pa_cons (pe_tup ht) pa_nil hs2) hs) (by decide) (by decide) hs hpl) fun σ H Q ⟨W, env, S, Q0, X1, ok, sl, hw, cv, cx⟩ => ⟨W, env, S, _, X1, ok, sl, hw, fun d S1 v W1 H1 h1 s1 ok1 r1 => by
    obtain ⟨n, e1, h1⟩ := some!_ex h1
    obtain ⟨b, e2, h1⟩ := some!_ex h1
    refine ⟨by rw [List.length_map]; exact hz, fun q hq => ?_⟩
    have nq := ok1.fresh hq
    exact ⟨v, q, Ts.map V.ty, .type n, Ts.map Value.type, b, rfl, upd_same, clsv_all Ts, tyN_rep (ok1.newW (o := .tup (Ts.map V.ty)) hq) (r1.mono (same_new nq.1)) e1, kit_any e2, cv _ S1 _ _ _ h1 (s1.trans (ok1.stW hq)) (ok1.newW hq) rfl⟩, cx⟩⟩
end
/-! ### a list repeated -/
section
variable {X : Cx}
def oRep : O2 := fun S x y Q => match y with
  | .int k => some! (seqM S x) fun xs => (-(2 ^ 63) ≤ k ∧ k < 2 ^ 63 ∧ xs.length * k.toNat ≤ sizeLine) ∧ Q (.lst (List.replicate k.toNat xs).flatten) S
  | _ => False
theorem reps_rep {K : PySem.W.Frag} {W : Hp} {xs : List D} {vs : List V} (h : Reps K W xs vs) : ∀ n : Nat, Reps K W (List.replicate n xs).flatten (List.replicate n vs).flatten
  | 0 => rfl
  | n + 1 => by
    rw [List.replicate_succ, List.replicate_succ, List.flatten_cons, List.flatten_cons]
    exact h.append (reps_rep h n)
theorem opd_rep : OpR X (binaryOp .Mult) (lOp X.K oRep) := OpR.imp op_rep fun x y H Q ⟨W, S, a, b, Q0, ok, ra, rb, ho, cv⟩ => by
  cases b with
  | int k =>
    obtain ⟨xs, e1, hk, ho⟩ := some!_ex ho
    obtain ⟨l, vs, rfl, hl, rv⟩ := seqM_rep ok ra e1
    refine ⟨l, k, vs, rfl, rb, hl, hk.1, hk.2.1, by rw [rv.length]; exact hk.2.2, fun p hp => ?_⟩
    have n := ok.fresh hp
    exact cv _ S _ _ _ ho (ok.stW hp) (ok.newW hp) ⟨p, _, rfl, upd_same, (reps_rep rv _).mono (same_new n.1)⟩
  | _ => exact ho.elim
end
/-! ### calls by keyword -/
def pick {α : Type} (perm : List Nat) (l : List α) : List α := perm.filterMap fun i => l[i]?
/-- n arguments by place, m by name -/
def pickK (n m : Nat) (perm : List Nat) {α : Type} (us ws : List α) : List α := if us.length = n ∧ ws.length = m then pick perm (us ++ ws) else []
theorem paired_get {α β : Type} {R : α → β → Prop} : ∀ {xs : List α} {ys : List β}, Paired R xs ys → ∀ i : Nat, (∃ x y, xs[i]? = some x ∧ ys[i]? = some y ∧ R x y) ∨ (xs[i]? = none ∧ ys[i]? = none)
  | _, _, .nil, i => .inr ⟨by simp, by simp⟩
  | _, _, .cons h r, 0 => .inl ⟨_, _, rfl, rfl, h⟩
  | _, _, .cons h r, i + 1 => paired_get r i
theorem vals_pick {vs : List V} {us : List Value} (h : Vals vs us) : ∀ perm : List Nat, Vals (pick perm vs) (pick perm us)
  | [] => .nil
  | i :: r => by
    rcases paired_get h i with ⟨x, y, e1, e2, q⟩ | ⟨e1, e2⟩
    · show Vals (List.filterMap _ (i :: r)) (List.filterMap _ (i :: r))
      rw [List.filterMap_cons, List.filterMap_cons, e1, e2]
      exact .cons q (vals_pick h r)
    · show Vals (List.filterMap _ (i :: r)) (List.filterMap _ (i :: r))
      rw [List.filterMap_cons, List.filterMap_cons, e1, e2]
      exact vals_pick h r
theorem reps_pick {K : PySem.W.Frag} {W : Hp} {ds : List D} {vs : List V} (h : Reps K W ds vs) : ∀ perm : List Nat, Reps K W (pick perm ds) (pick perm vs)
  | [] => rfl
  | i :: r => by
    show Reps K W (List.filterMap _ (i :: r)) (List.filterMap _ (i :: r))
    rw [List.filterMap_cons, List.filterMap_cons]
    cases e : ds[i]? with
    | none =>
      have e2 : vs[i]? = none := by
        rw [List.getElem?_eq_none_iff] at e ⊢
        rw [h.length]; exact e
      rw [e2]
      exact reps_pick h r
    | some d =>
      obtain ⟨v, e2, rv⟩ := h.get e
      rw [e2]
      exact ⟨v, _, rfl, rv, reps_pick h r⟩
theorem reps_pickK {K : PySem.W.Frag} {W : Hp} {n m : Nat} {perm : List Nat} {ds es : List D} {vs zs : List V} (h1 : Reps K W ds vs) (h2 : Reps K W es zs) : Reps K W (pickK n m perm ds es) (pickK n m perm vs zs) := by
  unfold pickK
  rw [h1.length, h2.length]
  by_cases q : ds.length = n ∧ es.length = m
  · rw [if_pos q, if_pos q]; exact reps_pick (h1.append h2) perm
  · rw [if_neg q, if_neg q]; rfl
theorem kb_mk {K : PySem.W.Frag} {fd : FuncData} {ps ks : List Str} {n m : Nat} {perm : List Nat} (hps : ps ≠ []) (h : ∀ us ws : List Value, us.length = n → ws.length = m → bindArgs fd ⟨us, ks.zip ws⟩ = pure (ps.zip (pick perm (us ++ ws)))) :
    KBinds K fd ps ks (fun us ws => pickK n m perm us ws) (fun us ws => pickK n m perm us ws) where
  to := fun s us ws _ hl => by
    unfold pickK at hl ⊢
    by_cases q : us.length = n ∧ ws.length = m
    · rw [if_pos q]
      exact .of_eq (h us ws q.1 q.2)
    · rw [if_neg q] at hl
      exact absurd (List.eq_nil_of_length_eq_zero hl.symm) hps
  rel := fun {vs us zs ws} r1 r2 => by
    unfold pickK
    rw [r1.length, r2.length]
    by_cases q : us.length = n ∧ ws.length = m
    · rw [if_pos q, if_pos q]
      exact vals_pick (r1.append r2) perm
    · rw [if_neg q, if_neg q]
      exact .nil
def wCallK (spec : Ctr) (n m : Nat) (perm : List Nat) (wa wk : WPa) : WPe := fun env S Q X => wa env S (fun ds S1 => wk env S1 (fun es S2 => spec (pickK n m perm ds es) S2 Q X) X) X
structure PDk (X : Cx) (kws : List Keyword) (w : WPa) : Prop where
  run : ∀ Wx, Takes X Wx → PK X kws (lA X.K Wx w)
theorem PK.imp {X : Cx} {kws : List Keyword} {t t' : TA} (h : PK X kws t) (i : ∀ σ H Q, t' σ H Q → t σ H Q) : PK X kws t' := ⟨fun po pins s σ H Q I q => h.run po pins s σ H Q I (i σ H Q q)⟩
section
variable {X : Cx} {x : Str} {p pos kpos : Pos} {e : Expr} {es : List Expr} {kws : List Keyword} {wa wk r : WPa} {w : WPe} {nm : Option Str} {k n m : Nat} {perm : List Nat} {f : Addr} {fd : FuncData} {ps ks : List Str} {spec : Ctr}
theorem pdk_nil : PDk X [] wNil := ⟨fun Wx tk => PK.imp pk_nil fun σ H Q ⟨W, env, S, Q0, X1, ok, sl, hw, cv, cx⟩ => cv [] S [] W H hw Stp.refl ok rfl⟩
theorem pdk_cons (h : PD X e w) (hr : PDk X kws r) : PDk X (⟨nm, e, kpos⟩ :: kws) (wCons w r) :=
  ⟨fun Wx tk => PK.imp (pk_cons (h.run Wx tk) (hr.run Wx tk)) fun σ H Q ⟨W, env, S, Q0, X1, ok, sl, hw, cv, cx⟩ => ⟨W, env, S, _, X1, ok, sl, hw, fun d S1 v W1 H1 h1 s1 ok1 r1 =>
    ⟨W1, env, S1, _, X1, ok1, sl.mono s1.vis, h1, fun ds S2 vs W2 H2 h2 s2 ok2 r2 => cv _ S2 _ W2 H2 h2 (s1.trans s2) ok2 ⟨v, vs, rfl, r1.mono s2.vis, r2⟩, cx.mono s1⟩, cx⟩⟩
theorem run_fnKS {CX : CXT} {sp : Sp} {E : L2.St → XK} {g : List Value → List Value → List Value} {gV : List V → List V → List V} {pins : List (Addr × Obj)} {σ : L2.St} {H : Hp} {s : Shared} {Q : VK} {us ws : List Value} {vs zs : List V}
    (F : FnOk X.prog X.w X.K X.mg X.base CX k f fd ps sp) (hr : Room k X.A) (hb : KBinds X.K fd ps ks g gV) (hx : PassesAt CX X σ (E σ)) (I : L2.Inv X pins σ H s) (r1 : Vals vs us) (r2 : Vals zs ws) (h : sp (gV vs zs) H Q (E σ)) :
    wpAny (model X.prog X.w) X.A (call (.ref f) us (ks.zip ws)) (EP X pins σ Q) X.xe s := by
  have rr := hb.rel r1 r2
  have hl : (g us ws).length = ps.length := by rw [← rr.length]; exact F.len _ _ _ _ h
  refine wpAny_call (codeAny_mono (F.run X.A X.stack s H ⟨us, ks.zip ws⟩ (g us ws) (gV vs zs) Q (E σ) hr I.env0 (hb.to s us ws I.kIn hl) rr h) fun r s' hq => ?_)
  cases r with
  | error e => exact hx pins H s e s' I hq
  | ok fl =>
    cases fl with
    | ret u => exact I.after hq
    | next => exact hq.elim
    | brk => exact hq.elim
    | cont => exact hq.elim
/-- f(k = v, ..): by names alone -/
theorem pd_fnK0 (F : FnD X.prog X.w X.K X.mg X.base k f fd ps spec) (hm : X.mg x = some (.ref f)) (hk : PySem.W.keepIn X.K (.ref f) = true) (hb : KBinds X.K fd ps ks (fun us ws => pickK 0 m perm us ws) (fun us ws => pickK 0 m perm us ws)) (hr : Room k X.A) (hkw : PDk X kws wk)
    (hg : Gl X x := by rfl) (hdb : (x == ("__debug__" : Str)) = false := by decide) (hall : (backToKw pos (keywordEach kws X.env)).all (·.1.isSome) = true := by rfl) (hks : (backToKw pos (keywordEach kws X.env)).filterMap (·.1) = ks := by rfl)
    (hpl : ((backTo pos (starEach [] X.env)).any (·.1) || (backToKw pos (keywordEach kws X.env)).any (·.1.isNone)) = false := by rfl) : PD X (.Call (.Name x p) [] kws pos) (wCallK spec 0 m perm wNil wk) := by
  refine ⟨fun Wx tk => ⟨fun pins s σ H Q I h => ?_⟩⟩
  obtain ⟨W, env, S, Q0, X1, ok, sl, hw, cv, cx⟩ := h
  refine wpAny_Call_Name_kw (ld_glob I hg hm ?_ hdb)
  refine PySem.W.callWith_KW0 (h₀ := X.base) I.ok.mod.kin hk hall ?_ hpl
  have h2 : lA X.K Wx wk σ H fun zs H2 => lSp X.K spec (pickK 0 m perm [] zs) H2 Q fun c d H' => Wx c d σ H' := ⟨W, env, S, _, X1, ok, sl, hw, fun ds S1 vs W1 H1 h1 s1 ok1 r1 => by
    exact ⟨W1, S1, pickK 0 m perm [] ds, Q0, X1, ok1, reps_pickK (ds := []) (vs := []) rfl r1, h1, cv.mono s1, cx.mono s1⟩, cx⟩
  refine thn ((hkw.run Wx tk).run pos pins s σ H _ I h2) fun ws s2 ⟨zs, H2, I2, rz, q2⟩ => ⟨I2.kIn, ?_⟩
  rw [hks]
  exact run_fnKS F hr hb (passAt tk σ) I2 .nil rz q2
/-- f(e, .., k = v, ..) -/
theorem pd_fnK (F : FnD X.prog X.w X.K X.mg X.base k f fd ps spec) (hm : X.mg x = some (.ref f)) (hk : PySem.W.keepIn X.K (.ref f) = true) (hb : KBinds X.K fd ps ks (fun us ws => pickK n m perm us ws) (fun us ws => pickK n m perm us ws)) (hr : Room k X.A) (ha : PDa X (e :: es) wa) (hkw : PDk X kws wk)
    (hg : Gl X x := by rfl) (hdb : (x == ("__debug__" : Str)) = false := by decide) (hall : (backToKw pos (keywordEach kws X.env)).all (·.1.isSome) = true := by rfl) (hks : (backToKw pos (keywordEach kws X.env)).filterMap (·.1) = ks := by rfl)
    (he : starEach (e :: es) X.env = (false, eval e X.env) :: starEach es X.env := by rfl)
    (hpl : ((backTo pos (starEach (e :: es) X.env)).any (·.1) || (backToKw pos (keywordEach kws X.env)).any (·.1.isNone)) = false := by rfl) : PD X (.Call (.Name x p) (e :: es) kws pos) (wCallK spec n m perm wa wk) := by
  refine ⟨fun Wx tk => ⟨fun pins s σ H Q I h => ?_⟩⟩
  obtain ⟨W, env, S, Q0, X1, ok, sl, hw, cv, cx⟩ := h
  refine wpAny_Call_Name_kw (ld_glob I hg hm ?_ hdb)
  have h1 : lA X.K Wx wa σ H fun vs H1 => lA X.K Wx wk σ H1 fun zs H2 => lSp X.K spec (pickK n m perm vs zs) H2 Q fun c d H' => Wx c d σ H' := ⟨W, env, S, _, X1, ok, sl, hw, fun ds S1 vs W1 H1 h1 s1 ok1 r1 =>
    ⟨W1, env, S1, _, X1, ok1, sl.mono s1.vis, h1, fun es S2 zs W2 H2 h2 s2 ok2 r2 => by
      exact ⟨W2, S2, pickK n m perm ds es, Q0, X1, ok2, reps_pickK (r1.mono s2.vis) r2, h2, cv.mono (s1.trans s2), cx.mono (s1.trans s2)⟩, cx.mono s1⟩, cx⟩
  refine PySem.W.callWith_KW (h₀ := X.base) I.ok.mod.kin hk hall (thn ((ha.run Wx tk).run pos pins s σ H _ I h1) fun us s1 ⟨vs, H1, I1, r, q⟩ => ?_) hpl he
  refine thn ((hkw.run Wx tk).run pos pins s1 σ H1 _ I1 q) fun ws s2 ⟨zs, H2, I2, rz, q2⟩ => ⟨I2.kIn, ?_⟩
  rw [hks]
  exact run_fnKS F hr hb (passAt tk σ) I2 r rz q2
end
end DL
set_option Elab.async false
set_option linter.all false
set_option maxRecDepth 100000
set_option maxHeartbeats 1000000
/-! The data layer, part m: own exceptions with one field: made, raised, caught, asked. -/
namespace DL
open PySem PySem.Spec PyProof.Rows L2
/-! ### C(v): C's own __init__ is self.f = p -/
def spEx (K : PySem.W.Frag) (C : Addr) (f : Str) : Sp := fun vs H Q _ => ∃ (a : Addr) (v : V), vs = [.ref a, v] ∧ OexC K C ∧ PySem.W.findIn K (.ref C) f = some none ∧ H a = some (exo a C none) ∧
  ∀ dx, H dx = none → dx ≠ a → Q .non (upd (upd H dx (exd dx [(f, v)])) a (exo a C (some dx)))
section
variable {P : Program} {w : World} {K : PySem.W.Frag} {mg : Str → Option Value} {base : Heap} {qual : Str} {st : Stmt} {fI : Addr} {fd : FuncData} {f p : Str} {C : Addr}
theorem exInit_ok (F : Fun K "__init__" qual st fI fd) (S : FnScope ["self", p] ["self", p] (defScope st))
    (hb : ∀ (cdv : Value) (A : Around) (outer : List Env) (s : Shared) (H : Hp) (E : XK), PSs (cxOf (L2.CX P w) P w K mg base ["self", p] qual (defScope st) fI cdv A outer s H E) (defBody st) (tOst K f (tVar 0) (tVar 1))) :
    FnOk P w K mg base (L2.CX P w) 1 fI fd ["self", p] (spEx K C f) := by
  refine F.okX S (fun vs H Q E ⟨a, v, e, _⟩ => by rw [e]; rfl) (fun cdv A outer s H vs Q E hr ⟨a, v, e, T, hn, ha, q⟩ => ⟨_, hb cdv A outer s H E, ?_⟩)
  subst e
  exact ⟨v, rfl, .ref a, rfl, a, C, rfl, T, hn, .inl ⟨ha, fun dx h1 h2 => q dx h1 h2⟩⟩
end
/-- the class x at C, whose __init__ keeps one value as f -/
structure ExAt (K : PySem.W.Frag) (mg : Str → Option Value) (x : Str) (C : Addr) (f p : Str) (qual : Str) (st : Stmt) : Prop where
  ox : OexC K C
  nf : PySem.W.findIn K (.ref C) f = some none
  mg : mg x = some (.ref C)
  fn : ∃ fI fd, Fun K "__init__" qual st fI fd ∧ PySem.W.findIn K (.ref C) "__init__" = some (some (.ref fI)) ∧ PySem.W.typeIn K (.ref fI) = some (.type "function") ∧ Binds K fd ["self", p] []
/-- .. as it is used -/
def ExC (P : Program) (w : World) (K : PySem.W.Frag) (mg : Str → Option Value) (base : Heap) (x : Str) (C : Addr) (f : Str) : Prop :=
  OexC K C ∧ PySem.W.findIn K (.ref C) f = some none ∧ mg x = some (.ref C) ∧ ∃ fI fd ps, FnOk P w K mg base (L2.CX P w) 1 fI fd ps (spEx K C f) ∧ PySem.W.findIn K (.ref C) "__init__" = some (some (.ref fI)) ∧ PySem.W.typeIn K (.ref fI) = some (.type "function") ∧ Binds K fd ps []
theorem ExC.mk {P : Program} {w : World} {K : PySem.W.Frag} {mg : Str → Option Value} {base : Heap} {x f p qual : Str} {C : Addr} {st : Stmt} (E : ExAt K mg x C f p qual st) (S : FnScope ["self", p] ["self", p] (defScope st))
    (hb : ∀ (fI : Addr) (cdv : Value) (A : Around) (outer : List Env) (s : Shared) (H : Hp) (E : XK), PSs (cxOf (L2.CX P w) P w K mg base ["self", p] qual (defScope st) fI cdv A outer s H E) (defBody st) (tOst K f (tVar 0) (tVar 1))) : ExC P w K mg base x C f := by
  obtain ⟨fI, fd, F, i1, t1, b⟩ := E.fn
  exact ⟨E.ox, E.nf, E.mg, fI, fd, _, exInit_ok F S (hb fI), i1, t1, b⟩
/-- an expression that makes an exception -/
abbrev WPx := DE → Sto → XQ → XQ → Prop
def lX (K : PySem.W.Frag) (Wx : WX) (w : WPx) : L2.St → Hp → XK → Prop := fun σ H Q => ∃ W env S Q0 X0, Ok K W S H ∧ Sl K W env σ ∧ w env S Q0 X0 ∧ CXc K W S H Q0 Q ∧ CXc K W S H X0 (fun c d H' => Wx c d σ H')
structure PDx (X : Cx) (e : Expr) (w : WPx) : Prop where
  run : ∀ Wx, Takes X Wx → PMk X e (lX X.K Wx w)
def wMkE (C : Addr) (f : Str) (w : WPe) : WPx := fun env S Q X => w env S (fun d S1 => Q C [(f, d)] S1) X
theorem repf_one {K : PySem.W.Frag} {W : Hp} {f : Str} {d : D} {v : V} (r : Rep K W d v) : Repf K W [(f, d)] [(f, v)] := fun g x h => by
  rw [List.lookup_cons] at h ⊢
  cases q : (g == f) with
  | true =>
    rw [q] at h
    cases h
    exact ⟨v, rfl, r⟩
  | false =>
    rw [q] at h
    cases h
section
variable {X : Cx} {x f : Str} {C : Addr} {e : Expr} {w : WPe} {p pos : Pos}
theorem pdx_mk (T : ExC X.prog X.w X.K X.mg X.base x C f) (hr : Room 2 X.A) (he : PD X e w) (hg : Gl X x := by rfl) (hdb : (x == ("__debug__" : Str)) = false := by decide) (hs : starEach [e] X.env = (false, eval e X.env) :: starEach [] X.env := by rfl) (hpl : (backTo pos (starEach [] X.env)).any (·.1) = false := by rfl) :
    PDx X (.Call (.Name x p) [e] [] pos) (wMkE C f w) := by
  obtain ⟨T1, nf, hm, fI, fd, ps, F, i1, t1, b⟩ := T
  refine ⟨fun Wx tk pins s σ H Q I h => ?_⟩
  refine pmk_oex T1 i1 t1 F hr b .nil passL hg hm (pa_cons (he.run Wx tk) pa_nil hs) hdb hs hpl pins s σ H Q I ?_
  obtain ⟨W, env, S, Q0, X1, ok, sl, hw, cq, cx⟩ := h
  refine ⟨W, env, S, _, X1, ok, sl, hw, fun d S1 v W1 H1 h1 s1 ok1 r1 => ?_, cx⟩
  refine ⟨by show 1 ≤ 1000; decide, fun a ha => ⟨a, v, rfl, T1, nf, upd_same, fun dx hdx ne => ⟨rfl, dx, [(f, v)], upd_same, ?_, ?_, ?_⟩⟩⟩
  · rw [upd_ne ne, upd_same]
  · rw [upd_ne ne] at hdx; exact hdx
  · have hdx' : H1 dx = none := by rw [upd_ne ne] at hdx; exact hdx
    have e1 : upd (L2.del (upd (upd (upd H1 a (exo a C none)) dx (exd dx [(f, v)])) a (exo a C (some dx))) a) dx (.xd [(f, v)]) = upd H1 dx (.xd [(f, v)]) := by
      funext b
      by_cases q : b = dx
      · subst q; rw [upd_same, upd_same]
      · rw [upd_ne q, upd_ne q]
        by_cases q2 : b = a
        · subst q2
          rw [del_same, ha]
        · rw [del_ne q2, upd_ne q2, upd_ne q, upd_ne q2]
    rw [e1]
    have n := ok1.fresh hdx'
    exact cq C _ S1 dx _ _ _ h1 (s1.trans (ok1.stW hdx')) (ok1.newW hdx') upd_same (repf_one (r1.mono (same_new n.1)))
def wRaise (w : WPx) : WPs := fun env S q => w env S (xcQ q env) (xcQ q env)
theorem pds_raise {wx : WPx} {pos2 : Pos} {e : Expr} (hc : X.calm = true) (he : PDx X e wx) : PDs X (.Raise (some e) none pos2) (wRaise wx) :=
  ⟨fun Wx tk => PS.imp (ps_raise hc tk (he.run Wx tk)) fun D σ H ⟨W, env, S, q, ok, sl, hl, hw, cs⟩ => ⟨W, env, S, _, _, ok, sl, hw, CXc.of cs sl, CXc.of cs sl⟩⟩
end
/-! ### try .. except T as e -/
theorem sl_del {K : PySem.W.Frag} {W : Hp} {e : DE} {σ : L2.St} {i : Nat} (h : Sl K W e σ) : Sl K W (delV e i) (σ.set i none) := fun j d q => by
  obtain ⟨n, g⟩ := getV_delV q
  obtain ⟨v, a, r⟩ := h j d g
  exact ⟨v, by rw [List.getElem?_set_ne (Ne.symm n)]; exact a, r⟩
/-- .. where the slots' number is not told -/
def lSn (K : PySem.W.Frag) (Wx : WX) (n : Nat) (w : WPs) : TS := fun D σ H => ∃ W env S q, Ok K W S H ∧ (σ.length = n → Sl K W env σ) ∧ w env S q ∧ CS K Wx W S H q { D with nx := fun σ' H' => σ'.length = n → D.nx σ' H', bk := fun σ' H' => σ'.length = n → D.bk σ' H', ct := fun σ' H' => σ'.length = n → D.ct σ' H' }
theorem pss_n {X : Cx} {st : List Stmt} {K : PySem.W.Frag} {Wx : WX} {w : WPs} (h : PSs X st (lS K Wx X.N.length w)) : PSs X st (lSn K Wx X.N.length w) :=
  ⟨fun pins s σ H D I ⟨W, env, S, q, ok, sl, hw, cs⟩ => h.run pins s σ H D I ⟨W, env, S, q, ok, sl I.len, I.len, hw, cs⟩⟩
/-- the suite: of the exception's address, its dict's, its class -/
abbrev WPu := Addr → Addr → Addr → WPs
def wTry (K : PySem.W.Frag) (T : Addr) (i : Nat) (body : WPs) (suite : WPu) : WPs := fun env S q => body env S { q with xc := fun C fs e S1 => ∃ b, PySem.W.exmOne K (.ref C) (.ref T) = some b ∧
  (b = true → ∃ f x, fs = [(f, x)] ∧ ∀ a dd, suite a dd C (setV e i (.exc a dd C f x)) S1 { nx := fun e2 S2 => q.nx (delV e2 i) S2, rt := q.rt, bk := fun e2 S2 => q.bk (delV e2 i) S2, ct := fun e2 S2 => q.ct (delV e2 i) S2, xc := fun _ _ _ _ => False }) ∧
  (b = false → q.xc C fs e S1) }
section
variable {X : Cx} {x n : Str} {T : Addr} {i : Nat} {body suite : List Stmt} {b₀ : Stmt} {np pos pos' : Pos} {wb : WPs} {ws : WPu}
theorem pds_try (hs : X.stack = X.env :: X.outer) (hf : X.env.frame = some X.env.locals) (hN : X.N.Nodup) (hi : X.N[i]? = some n) (hln : X.env.kindOf n = some .local) (hm : X.mg x = some (.ref T)) (hg : Gl X x) (hdb : (x == ("__debug__" : Str)) = false)
    (hb : ∀ (pn : List (Addr × Obj)) (xe : Value → Shared → Prop), PassesOwn (model X.prog X.w) X.A X.env xe → PDss (X.tr pn xe) body wb)
    (hsu : ∀ (a dd C : Addr) (oe : Obj) (pn : List (Addr × Obj)), Zc (.ref C) (some dd) oe → (∃ vs, oe.data = .fields vs) → PDss (X.suite a ((a, oe) :: pn)) (b₀ :: suite) (ws a dd C)) :
    PDs X (.Try body [.ExceptHandler (some (.Name x np)) (some n) (b₀ :: suite) pos'] [] [] pos) (wTry X.K T i wb ws) := by
  refine ⟨fun Wx tk => ?_⟩
  refine PS.imp (L2.ps_try_as hs hf hN hi hln ⟨hg, hdb, .inl hm⟩ tk (tb := fun W => lS X.K W X.N.length wb) (ts := fun a cls d => match cls, d with
    | .ref C, some dd => lSn X.K (fun _ _ _ _ => False) X.N.length (ws a dd C)
    | _, _ => fun _ _ _ => False) (fun W pn xe tkW pass => (hb pn xe pass).run W tkW) fun a oe cls d pn hz hfl => ?_) ?_
  · cases cls with
    | ref C =>
      cases d with
      | some dd => exact pss_n (X := X.suite a ((a, oe) :: pn)) ((hsu a dd C oe pn hz hfl).run _ takes0)
      | none => exact ⟨fun pins s σ H D I h => h.elim⟩
    | _ => exact ⟨fun pins s σ H D I h => h.elim⟩
  · rintro D σ H ⟨W, env, S, q, ok, sl, hl, hw, cs⟩
    refine ⟨W, env, S, _, ok, sl, hl, hw, cs.nx, cs.rt, cs.bk, cs.ct, ?_⟩
    rintro C fs e S1 dd gs σ1 W1 H1 ⟨b, hb1, hy, hn⟩ s1 ok1 sl1 e1 r1
    refine ⟨b, hb1, fun h a ha => ?_, fun h => cs.xc C fs e S1 dd gs σ1 W1 H1 (hn h) s1 ok1 sl1 e1 r1⟩
    obtain ⟨f, y, rfl, hsuite⟩ := hy h
    obtain ⟨u, hu, ru⟩ := r1 f y (by rw [List.lookup_cons]; simp)
    have rex : Rep X.K W1 (.exc a dd C f y) (.ref a) := ⟨rfl, gs, u, e1, hu, ru⟩
    have sl2 : (σ1.set i (some (.ref a))).length = X.N.length → Sl X.K W1 (setV e i (.exc a dd C f y)) (σ1.set i (some (.ref a))) := fun hlen j d hj => by
      rcases getV_setV hj with ⟨z1, z2⟩ | ⟨z1, z2⟩
      · subst z1 z2
        exact ⟨_, List.getElem?_set_self (by rw [List.length_set] at hlen; rw [hlen]; exact lt_of_some hi), rex⟩
      · obtain ⟨v, hv, rv⟩ := sl1 j d z2
        exact ⟨v, by rw [List.getElem?_set_ne (Ne.symm z1)]; exact hv, rv⟩
    refine ⟨W1, _, S1, _, ok1, sl2, hsuite a dd, ?_, ?_, ?_, ?_, ?_⟩
    · exact fun e2 S2 σ2 W2 H2 hq st ok2 sl3 hl2 => cs.nx _ S2 _ W2 H2 hq (s1.trans st) ok2 (sl_del sl3) (by rw [List.length_set]; exact hl2)
    · exact fun d S2 v W2 H2 hq st ok2 rv => cs.rt d S2 v W2 H2 hq (s1.trans st) ok2 rv
    · exact fun e2 S2 σ2 W2 H2 hq st ok2 sl3 hl2 => cs.bk _ S2 _ W2 H2 hq (s1.trans st) ok2 (sl_del sl3) (by rw [List.length_set]; exact hl2)
    · exact fun e2 S2 σ2 W2 H2 hq st ok2 sl3 hl2 => cs.ct _ S2 _ W2 H2 hq (s1.trans st) ok2 (sl_del sl3) (by rw [List.length_set]; exact hl2)
    · exact fun C fs e2 S2 dd gs σ2 W2 H2 hq _ _ _ _ _ => hq.elim
/-! ### in the suite -/
/-- e.f -/
def wExF (K : PySem.W.Frag) (a dd C : Addr) (f : Str) (w : WPe) : WPe := fun env S Q X => (XfC K C ∧ PySem.W.findIn K (.ref C) f = some none) ∧ w env S (fun d S1 => match d with
  | .exc a' dd' C' g x => (a' = a ∧ dd' = dd ∧ C' = C ∧ g = f) ∧ Q x S1
  | _ => False) X
section
variable {X : Cx} {a dd C : Addr} {oe : Obj} {pn : List (Addr × Obj)} {e : Expr} {f : Str} {w : WPe} {pos : Pos}
theorem pd_exf (hz : Zc (.ref C) (some dd) oe) (hf : ∃ vs, oe.data = .fields vs) (he : PD (X.suite a ((a, oe) :: pn)) e w) (hb : attributeBase e f X.env (eval e X.env) = eval e X.env := by rfl) :
    PD (X.suite a ((a, oe) :: pn)) (.Attribute e f pos) (wExF X.K a dd C f w) :=
  ⟨fun Wx tk => ⟨fun pins s σ H Q I ⟨W, env, S, Q0, X1, ok, sl, ⟨⟨T, hno⟩, hw⟩, cv, cx⟩ => (pe_xf T hno hz hf (he.run Wx tk) hb).run pins s σ H Q I ⟨W, env, S, _, X1, ok, sl, hw, fun d S1 v W1 H1 h1 s1 ok1 r1 => by
    cases d with
    | exc a' dd' C' g x =>
      obtain ⟨⟨rfl, rfl, rfl, rfl⟩, h1⟩ := h1
      obtain ⟨e1, gs, u, e2, e3, ru⟩ := r1
      exact ⟨e1, rfl, dd', gs, u, rfl, ok1.vis _ _ e2, e3, cv x S1 u W1 H1 h1 s1 ok1 ru⟩
    | _ => exact h1.elim, cx⟩⟩⟩
/-- what the class of a caught exception must say, so that isinstance asks rightly -/
structure IsC (K : PySem.W.Frag) (C : Addr) : Prop where
  cl : (PySem.W.clsIn K C).isSome = true
  ga : PySem.W.findIn K (.ref C) "__getattribute__" = some (some (.builtin "BaseException.__getattribute__"))
  gt : PySem.W.findIn K (.ref C) "__getattr__" = some none
  su : PySem.W.subIn K (.ref C) (.type "BaseException") = some true
  ca : PySem.W.findIn K (.ref C) "__class__" = some (some (.builtin "object.__class__"))
  cg : PySem.W.specialIn K (.builtin "object.__class__") "__get__" = some (some (.builtin "getset_descriptor.__get__"))
  ct : PySem.W.takesIn K (.builtin "object.__class__") = some true
  mo : PySem.W.mroIn K C (.type "object") = some true
/-- isinstance(e, T), e the caught exception with the dict at dd -/
def rIsD (K : PySem.W.Frag) (C a dd : Addr) : List V → Hp → VK → Prop := fun xs H Q => ∃ (c : V) (u : Value) (b : Bool) (gs : List (Str × V)), xs = [.ref a, c] ∧ H dd = some (.xd gs) ∧ ClsV c u ∧ IsC K C ∧ PySem.W.kitOne K (.ref C) u = some b ∧ Q (.bl b) H
theorem inst_of {pins : List (Addr × Obj)} {σ : L2.St} {H : Hp} {s : Shared} {gs : List (Str × V)} (I : L2.Inv (X.suite a ((a, oe) :: pn)) pins σ H s) (hz : Zc (.ref C) (some dd) oe) (hf : ∃ vs, oe.data = .fields vs) (hd : H dd = some (.xd gs)) : ∃ od, PySem.W.InstAt s.heap a oe C (some od) := by
  obtain ⟨hget, _⟩ := I.pin (a, oe) (List.mem_append.mpr (.inl List.mem_cons_self))
  obtain ⟨vs, hv⟩ := hf
  have hx : ObjOk X.prog X.w H s.heap dd (.xd gs) := I.hok dd _ hd
  obtain ⟨mA, hns, hr⟩ := hx
  obtain ⟨od, ho, hl⟩ := lookIn_ns hns
  exact ⟨od, hget, hz.1, by unfold PySem.W.notCls; rw [hv] <;> rfl, by rw [hz.2]; exact ho⟩
theorem call_isD (hz : Zc (.ref C) (some dd) oe) (hf : ∃ vs, oe.data = .fields vs) : CallR (X.suite a ((a, oe) :: pn)) (.builtin "isinstance") (rIsD X.K C a dd) := by
  intro pins s σ H xs us Q I r h
  obtain ⟨c, u, b, gs, rfl, hd, k, T, e, q⟩ := h
  obtain ⟨u1, u2, rfl, r1, r2⟩ := vals2 r
  have e2 := k.eq r2
  subst e2
  cases (show u1 = Value.ref a from r1)
  obtain ⟨od, J⟩ := inst_of I hz hf hd
  exact PySem.W.kia_one (PySem.W.kitx_exc T.cl T.ga T.gt T.su T.ca T.cg T.ct T.mo) I.kIn J e (fun z => nomatch z) fun tk => ⟨.bl b, H, I.tok tk, rfl, q⟩
/-- isinstance(e, (T1, T2, ..)) -/
def rIsDT (K : PySem.W.Frag) (C a dd : Addr) : List V → Hp → VK → Prop := fun xs H Q => ∃ (tp : Addr) (cs : List V) (ws : List Value) (b : Bool) (gs : List (Str × V)), xs = [.ref a, .ref tp] ∧ H dd = some (.xd gs) ∧ H tp = some (.tup cs) ∧ Paired ClsV cs ws ∧ IsC K C ∧ PySem.W.kitAny K (.ref C) ws = some b ∧ Q (.bl b) H
theorem call_isDT (hz : Zc (.ref C) (some dd) oe) (hf : ∃ vs, oe.data = .fields vs) : CallR (X.suite a ((a, oe) :: pn)) (.builtin "isinstance") (rIsDT X.K C a dd) := by
  intro pins s σ H xs us Q I r h
  obtain ⟨tp, cs, ws, b, gs, rfl, hd, hT, k, T, e, q⟩ := h
  obtain ⟨u1, u2, rfl, r1, r2⟩ := vals2 r
  cases (show u1 = Value.ref a from r1)
  cases (show u2 = Value.ref tp from r2)
  obtain ⟨od, J⟩ := inst_of I hz hf hd
  obtain ⟨_, its, rv, o, h1, h2, n, h3⟩ := (show ObjOk X.prog X.w H s.heap tp (.tup cs) from I.hok tp _ hT)
  have e3 := ClsV.all k rv
  subst e3
  obtain ⟨oc, od2, dt, sl⟩ := o
  simp only at h2 h3
  subst h2 h3
  exact PySem.W.kia_tup (PySem.W.kitx_exc T.cl T.ga T.gt T.su T.ca T.cg T.ct T.mo) I.kIn J h1 e (fun z => nomatch z) fun tk => ⟨.bl b, H, I.tok tk, rfl, q⟩
end
end
def wIsE (K : PySem.W.Frag) (a dd C T : Addr) (w : WPe) : WPe := fun env S Q X => w env S (fun d S1 => match d with
  | .exc a' dd' C' _ _ => (a' = a ∧ dd' = dd ∧ C' = C ∧ IsC K C) ∧ some! (PySem.W.kitOne K (.ref C) (.ref T)) fun b => Q (.bl b) S1
  | _ => False) X
def wIsET (K : PySem.W.Frag) (a dd C : Addr) (Ts : List Addr) (w : WPe) : WPe := fun env S Q X => w env S (fun d S1 => match d with
  | .exc a' dd' C' _ _ => (a' = a ∧ dd' = dd ∧ C' = C ∧ IsC K C) ∧ some! (PySem.W.kitAny K (.ref C) (Ts.map Value.ref)) fun b => Q (.bl b) S1
  | _ => False) X
def tRefs (Ts : List Addr) : TA := fun σ H Q => Q (Ts.map V.ref) H
theorem pa_refs0 {X : Cx} : PA X [] (tRefs []) := pa_nil
theorem pe_cls {X : Cx} {x : Str} {T : Addr} {pos : Pos} (hm : X.mg x = some (.ref T)) (hg : Gl X x := by rfl) (hd : (x == ("__debug__" : Str)) = false := by decide) : PE X (.Name x pos) (tC (.ref T)) := pe_glob hg hm rfl hd
theorem pa_refs {X : Cx} {e : Expr} {es : List Expr} {T : Addr} {Ts : List Addr} (h : PE X e (tC (.ref T))) (r : PA X es (tRefs Ts)) (hs : starEach (e :: es) X.env = (false, eval e X.env) :: starEach es X.env := by rfl) : PA X (e :: es) (tRefs (T :: Ts)) := pa_cons h r hs
theorem clsv_refs : ∀ Ts : List Addr, Paired ClsV (Ts.map V.ref) (Ts.map Value.ref)
  | [] => .nil
  | T :: Ts => .cons (.own T) (clsv_refs Ts)
section
variable {X : Cx} {a dd C T : Addr} {Ts : List Addr} {oe : Obj} {pn : List (Addr × Obj)} {e e2 : Expr} {es : List Expr} {w : WPe} {p p2 pos : Pos} {kk : Nat}
theorem pd_isE (hz : Zc (.ref C) (some dd) oe) (hf : ∃ vs, oe.data = .fields vs) (he : PD (X.suite a ((a, oe) :: pn)) e w) (hc : PE (X.suite a ((a, oe) :: pn)) e2 (tC (.ref T))) (hm : X.mg "isinstance" = none) (hg : Gl (X.suite a ((a, oe) :: pn)) "isinstance" := by rfl)
    (hs : starEach [e, e2] X.env = (false, eval e X.env) :: starEach [e2] X.env := by rfl) (hs2 : starEach [e2] X.env = [(false, eval e2 X.env)] := by rfl) (hpl : (backTo pos (starEach [e2] X.env)).any (·.1) = false := by rfl) :
    PD (X.suite a ((a, oe) :: pn)) (.Call (.Name "isinstance" p) [e, e2] [] pos) (wIsE X.K a dd C T w) :=
  ⟨fun Wx tk => PE.imp (pe_callB (call_isD hz hf) hg hm (by decide +kernel) (pa_cons (he.run Wx tk) (pa_cons hc pa_nil hs2) hs) (by decide) (by decide) hs hpl) fun σ H Q ⟨W, env, S, Q0, X1, ok, sl, hw, cv, cx⟩ => ⟨W, env, S, _, X1, ok, sl, hw, fun d S1 v W1 H1 h1 s1 ok1 r1 => by
    cases d with
    | exc a' dd' C' g x =>
      obtain ⟨⟨rfl, rfl, rfl, ic⟩, h1⟩ := h1
      obtain ⟨b, e5, h1⟩ := some!_ex h1
      obtain ⟨e1, gs, u, e2, e3, ru⟩ := r1
      subst e1
      exact ⟨.ref T, .ref T, b, gs, rfl, ok1.vis _ _ e2, .own T, ic, e5, cv _ S1 _ W1 H1 h1 s1 ok1 rfl⟩
    | _ => exact h1.elim, cx⟩⟩
theorem pd_isET (hz : Zc (.ref C) (some dd) oe) (hf : ∃ vs, oe.data = .fields vs) (he : PD (X.suite a ((a, oe) :: pn)) e w) (ht : PA (X.suite a ((a, oe) :: pn)) es (tRefs Ts)) (hm : X.mg "isinstance" = none) (hzl : Ts.length ≤ sizeLine) (hg : Gl (X.suite a ((a, oe) :: pn)) "isinstance" := by rfl)
    (hs : starEach [e, .Tuple es kk p2] X.env = (false, eval e X.env) :: starEach [.Tuple es kk p2] X.env := by rfl) (hs2 : starEach [.Tuple es kk p2] X.env = [(false, eval (.Tuple es kk p2) X.env)] := by rfl) (hpl : (backTo pos (starEach [.Tuple es kk p2] X.env)).any (·.1) = false := by rfl) :
    PD (X.suite a ((a, oe) :: pn)) (.Call (.Name "isinstance" p) [e, .Tuple es kk p2] [] pos) (wIsET X.K a dd C Ts w) :=
  ⟨fun Wx tk => PE.imp (pe_callB (call_isDT hz hf) hg hm (by decide +kernel) (pa_cons (he.run Wx tk) (pa_cons (pe_tup ht) pa_nil hs2) hs) (by decide) (by decide) hs hpl) fun σ H Q ⟨W, env, S, Q0, X1, ok, sl, hw, cv, cx⟩ => ⟨W, env, S, _, X1, ok, sl, hw, fun d S1 v W1 H1 h1 s1 ok1 r1 => by
    cases d with
    | exc a' dd' C' g x =>
      obtain ⟨⟨rfl, rfl, rfl, ic⟩, h1⟩ := h1
      obtain ⟨b, e5, h1⟩ := some!_ex h1
      obtain ⟨e1, gs, u, e2, e3, ru⟩ := r1
      subst e1
      refine ⟨by rw [List.length_map]; exact hzl, fun q hq => ?_⟩
      exact ⟨q, _, _, b, gs, rfl, (ok1.newW hq).vis _ _ (same_new (ok1.fresh hq).1 _ _ e2), upd_same, clsv_refs Ts, ic, e5, cv _ S1 _ _ _ h1 (s1.trans (ok1.stW hq)) (ok1.newW (o := .tup (Ts.map V.ref)) hq) rfl⟩
    | _ => exact h1.elim, cx⟩⟩
end
end DL
set_option Elab.async false
set_option linter.all false
set_option maxRecDepth 100000
set_option maxHeartbeats 1000000
/-! The data layer, part n: contracts of defs called by keyword. -/
namespace DL
open PySem PySem.Spec PyProof.Rows L2
def DefAtK (K : PySem.W.Frag) (mg : Str → Option Value) (x qual : Str) (st : Stmt) (ps ks : List Str) (n m : Nat) (perm : List Nat) : Prop := ∃ f fd, Fun K x qual st f fd ∧ mg x = some (.ref f) ∧ KBinds K fd ps ks (fun us ws => pickK n m perm us ws) (fun us ws => pickK n m perm us ws)
def FnCK (P : Program) (w : World) (K : PySem.W.Frag) (mg : Str → Option Value) (base : Heap) (k : Nat) (x : Str) (ps ks : List Str) (n m : Nat) (perm : List Nat) (spec : Ctr) : Prop :=
  ∃ f fd, FnD P w K mg base k f fd ps spec ∧ mg x = some (.ref f) ∧ PySem.W.keepIn K (.ref f) = true ∧ KBinds K fd ps ks (fun us ws => pickK n m perm us ws) (fun us ws => pickK n m perm us ws)
theorem FnCK.mk {P : Program} {w : World} {K : PySem.W.Frag} {mg : Str → Option Value} {base : Heap} {x qual : Str} {st : Stmt} {N ps ks : List Str} {k n m : Nat} {perm : List Nat} {spec : Ctr} {ws : WPs} (D : DefAtK K mg x qual st ps ks n m perm) (S : FnScope N ps (defScope st)) (hle : ps.length ≤ N.length)
    (len : ∀ ds S Q E, spec ds S Q E → ds.length = ps.length)
    (hd : ∀ (f : Addr) (cdv : Value) (A : Around) (outer : List Env) (s : Shared) (H : Hp) (E : XK), Room k (A.deeper (envOfC qual (defScope st) s.heap.objs.size f cdv)) → PDss (cxOf (L2.CX P w) P w K mg base N qual (defScope st) f cdv A outer s H E) (defBody st) ws)
    (hr : ∀ ds S Q X1, spec ds S Q X1 → ws (startD N ds) S (endQ Q X1)) : FnCK P w K mg base (k + 1) x ps ks n m perm spec := by
  obtain ⟨f, fd, F, hm, hb⟩ := D
  exact ⟨f, fd, fnd_mk F S hle len hd hr, hm, F.kp, hb⟩
section
variable {X : Cx} {x : Str} {p pos : Pos} {e : Expr} {es : List Expr} {kws : List Keyword} {wa wk : WPa} {k n m : Nat} {perm : List Nat} {ps ks : List Str} {spec : Ctr}
theorem pd_fcK0 (G : FnCK X.prog X.w X.K X.mg X.base k x ps ks 0 m perm spec) (hr : Room k X.A) (hkw : PDk X kws wk)
    (hg : Gl X x := by rfl) (hdb : (x == ("__debug__" : Str)) = false := by decide) (hall : (backToKw pos (keywordEach kws X.env)).all (·.1.isSome) = true := by rfl) (hks : (backToKw pos (keywordEach kws X.env)).filterMap (·.1) = ks := by rfl)
    (hpl : ((backTo pos (starEach [] X.env)).any (·.1) || (backToKw pos (keywordEach kws X.env)).any (·.1.isNone)) = false := by rfl) : PD X (.Call (.Name x p) [] kws pos) (wCallK spec 0 m perm wNil wk) := by
  obtain ⟨f, fd, F, hm, hk, hb⟩ := G
  exact pd_fnK0 F hm hk hb hr hkw hg hdb hall hks hpl
theorem pd_fcK (G : FnCK X.prog X.w X.K X.mg X.base k x ps ks n m perm spec) (hr : Room k X.A) (ha : PDa X (e :: es) wa) (hkw : PDk X kws wk)
    (hg : Gl X x := by rfl) (hdb : (x == ("__debug__" : Str)) = false := by decide) (hall : (backToKw pos (keywordEach kws X.env)).all (·.1.isSome) = true := by rfl) (hks : (backToKw pos (keywordEach kws X.env)).filterMap (·.1) = ks := by rfl)
    (he : starEach (e :: es) X.env = (false, eval e X.env) :: starEach es X.env := by rfl)
    (hpl : ((backTo pos (starEach (e :: es) X.env)).any (·.1) || (backToKw pos (keywordEach kws X.env)).any (·.1.isNone)) = false := by rfl) : PD X (.Call (.Name x p) (e :: es) kws pos) (wCallK spec n m perm wa wk) := by
  obtain ⟨f, fd, F, hm, hk, hb⟩ := G
  exact pd_fnK F hm hk hb hr ha hkw hg hdb hall hks he hpl
end
end DL
set_option Elab.async false
set_option linter.all false
set_option maxRecDepth 100000
set_option maxHeartbeats 1000000
/-! The data layer, part o: what later laws want. -/
namespace DL
open PySem PySem.Spec PyProof.Rows L2
/-- + of lists, made to change -/
def oAddM : O2 := fun S x y Q => some! (seqM S x) fun xs => some! (seqM S y) fun ys => xs.length + ys.length ≤ sizeLine ∧ ∀ p, S p = none → Q (.ref p) (put S p (.lst (xs ++ ys)))
theorem opd_addM {X : Cx} : OpR X (binaryOp .Add) (lOp X.K oAddM) := fun pins s σ H x y v u Q I rx ry h => by
  obtain ⟨W, S, a, b, Q0, ok, ra, rb, ho, cv⟩ := h
  obtain ⟨xs, e1, z⟩ := some!_ex ho
  obtain ⟨ys, e2, hz, z⟩ := some!_ex z
  obtain ⟨p, vs, rfl, hp, r1⟩ := seqM_rep ok ra e1
  obtain ⟨q, ws, rfl, hq, r2⟩ := seqM_rep ok rb e2
  refine op_cat pins s σ H _ _ v u Q I rx ry ⟨p, q, vs, ws, rfl, rfl, hp, hq, by rw [r1.length, r2.length]; exact hz, fun o no => ?_⟩
  have n := ok.fresh no
  exact cv _ _ _ _ _ (z o n.2) (ok.stS no) (ok.newS no ⟨_, rfl, r1.append r2⟩) rfl
/-! ### own exception classes: what the written part tells -/
theorem kitc_of {K : PySem.W.Frag} {C S : Addr} {b : Bool} (h2 : PySem.W.isClsIn K S = true) (h3 : PySem.W.typeIn K (.ref S) = some (.type "type")) (h4 : PySem.W.subIn K (.ref C) (.ref S) = some b) : PySem.W.kitCls K (.ref C) (.ref S) = some b := by
  have e2 : ((PySem.W.clsIn K S).isSome && PySem.W.typeIn K (.ref S) == some (.type "type")) = true := by
    have h2' : (PySem.W.clsIn K S).isSome = true := h2
    rw [h2', h3] <;> rfl
  show (if ((PySem.W.clsIn K S).isSome && PySem.W.typeIn K (.ref S) == some (.type "type")) = true then PySem.W.subIn K (.ref C) (.ref S) else none) = some b
  rw [if_pos e2]
  exact h4
theorem exm_of {K : PySem.W.Frag} {C S : Addr} {b : Bool} (h1 : PySem.W.subIn K (.ref S) (.type "BaseException") = some true) (h2 : PySem.W.isClsIn K S = true) (h3 : PySem.W.typeIn K (.ref S) = some (.type "type")) (h4 : PySem.W.subIn K (.ref C) (.ref S) = some b) : PySem.W.exmOne K (.ref C) (.ref S) = some b := by
  have e1 : (PySem.W.subIn K (.ref S) (.type "BaseException") == some true) = true := by rw [h1] <;> rfl
  show (if (PySem.W.subIn K (.ref S) (.type "BaseException") == some true) = true then PySem.W.kitCls K (.ref C) (.ref S) else none) = some b
  rw [if_pos e1]
  exact kitc_of h2 h3 h4
theorem kit_self {K : PySem.W.Frag} {C : Addr} : PySem.W.kitOne K (.ref C) (.ref C) = some true := by
  unfold PySem.W.kitOne
  rw [if_pos (by simp)]
theorem kit_of {K : PySem.W.Frag} {C S : Addr} {b : Bool} (hne : C ≠ S) (h2 : PySem.W.isClsIn K S = true) (h3 : PySem.W.typeIn K (.ref S) = some (.type "type")) (h4 : PySem.W.subIn K (.ref C) (.ref S) = some b) : PySem.W.kitOne K (.ref C) (.ref S) = some b := by
  unfold PySem.W.kitOne
  rw [if_neg fun z => hne (Value.ref.inj (beq_iff_eq.mp z))]
  exact kitc_of h2 h3 h4
theorem kitn_nil {K : PySem.W.Frag} {t : Value} : PySem.W.kitAny K t [] = some false := rfl
theorem kitn_cons {K : PySem.W.Frag} {t c : Value} {r : List Value} {b : Bool} (h1 : PySem.W.kitOne K t c = some false) (h2 : PySem.W.kitAny K t r = some b) : PySem.W.kitAny K t (c :: r) = some b := by
  show (match PySem.W.kitOne K t c with | some true => some true | some false => PySem.W.kitAny K t r | none => none) = some b
  rw [h1]; exact h2
theorem kitn_here {K : PySem.W.Frag} {t c : Value} {r : List Value} (h1 : PySem.W.kitOne K t c = some true) : PySem.W.kitAny K t (c :: r) = some true := by
  show (match PySem.W.kitOne K t c with | some true => some true | some false => PySem.W.kitAny K t r | none => none) = some true
  rw [h1]
end DL
set_option Elab.async false
set_option linter.all false
set_option maxRecDepth 100000
set_option maxHeartbeats 1000000
/-! The data layer, part p: dicts whose keys are tuples (of ints, bools, None and of such tuples). -/
namespace DL
open PySem PySem.Spec PyProof.Rows L2
mutual
theorem khash_eq (w : World) : ∀ {d : D} {k : NestedKey}, nkD d = some k → k.hash w = khash k
  | .non, k, h => by cases h; rfl
  | .bl _, k, h => by cases h; rfl
  | .int _, k, h => by cases h; rfl
  | .tup xs, k, h => by
    have h' : (nksD xs).map NestedKey.tup = some k := h
    obtain ⟨ks, e1, e2⟩ := Option.map_eq_some_iff.mp h'
    subst e2
    show reduceHash (Builtin.Tuple.tupleHashOf (NestedKey.hashes w ks)) = reduceHash (Builtin.Tuple.tupleHashOf (khashes ks))
    rw [khashes_eq w e1]
  | .str _, _, h => by cases h
  | .ref _, _, h => by cases h
  | .lst _, _, h => by cases h
  | .fro _, _, h => by cases h
  | .obj _ _ _, _, h => by cases h
  | .exc _ _ _ _ _, _, h => by cases h
theorem khashes_eq (w : World) : ∀ {ds : List D} {ks : List NestedKey}, nksD ds = some ks → NestedKey.hashes w ks = khashes ks
  | [], ks, h => by cases h; rfl
  | d :: r, ks, h => by
    have h' : ((nkD d).bind fun k => (nksD r).map (k :: ·)) = some ks := h
    obtain ⟨k, e1, e2⟩ := Option.bind_eq_some_iff.mp h'
    obtain ⟨ks', e3, e4⟩ := Option.map_eq_some_iff.mp e2
    subst e4
    show NestedKey.hash w k :: NestedKey.hashes w ks' = khash k :: khashes ks'
    rw [khash_eq w e1, khashes_eq w e3]
end
section
variable {X : Cx} {pins : List (Addr × Obj)} {σ : L2.St} {H W : Hp} {s : Shared}
mutual
theorem nest_of (I : L2.Inv X pins σ H s) (e : Same W H) : ∀ {d : D} {v : V} {u : Value} {k : NestedKey}, Rep X.K W d v → RelV v u → nkD d = some k → NestedIs s.heap k u
  | .non, v, u, k, r, ru, h => by
    cases h
    rw [show v = V.non from r] at ru
    rw [show u = Value.none from ru]; exact .none
  | .bl b, v, u, k, r, ru, h => by
    cases h
    rw [show v = V.bl b from r] at ru
    rw [show u = Value.bool b from ru]; exact .bool rfl
  | .int i, v, u, k, r, ru, h => by
    cases h
    rw [show v = V.int i from r] at ru
    obtain ⟨t, ht⟩ := (show ∃ t, u = Value.int i t from ru)
    rw [ht]; exact .int i t
  | .tup xs, v, u, k, r, ru, h => by
    have h' : (nksD xs).map NestedKey.tup = some k := h
    obtain ⟨ks, e1, e2⟩ := Option.map_eq_some_iff.mp h'
    subst e2
    obtain ⟨a, vs, rfl, hq, rv⟩ := r
    obtain rfl : u = Value.ref a := ru
    obtain ⟨its, rvs, ⟨o, ho, hc, n, hd⟩, hz⟩ := I.tuple (sqT_mono e hq)
    exact .tup ho hc hd (nests_of I e rv rvs e1)
  | .str _, _, _, _, _, _, h => by cases h
  | .ref _, _, _, _, _, _, h => by cases h
  | .lst _, _, _, _, _, _, h => by cases h
  | .fro _, _, _, _, _, _, h => by cases h
  | .obj _ _ _, _, _, _, _, _, h => by cases h
  | .exc _ _ _ _ _, _, _, _, _, _, h => by cases h
theorem nests_of (I : L2.Inv X pins σ H s) (e : Same W H) : ∀ {ds : List D} {vs : List V} {us : List Value} {ks : List NestedKey}, Reps X.K W ds vs → Vals vs us → nksD ds = some ks → NestedAll s.heap ks us
  | [], vs, us, ks, r, rv, h => by
    cases h
    rw [show vs = [] from r] at rv
    cases rv
    exact .nil
  | d :: ds, vs, us, ks, ⟨v, r, e1, e2, e3⟩, rv, h => by
    subst e1
    cases rv with
    | cons r1 r2 =>
      have h' : ((nkD d).bind fun k => (nksD ds).map (k :: ·)) = some ks := h
      obtain ⟨k, g1, g2⟩ := Option.bind_eq_some_iff.mp h'
      obtain ⟨ks', g3, g4⟩ := Option.map_eq_some_iff.mp g2
      subst g4
      exact .cons (nest_of I e e2 r1 g1) (nests_of I e e3 r2 g3)
end
theorem DN.length {K : PySem.W.Frag} : ∀ {kvs : List (D × D)} {xs : List (NestedKey × Addr × Value)}, DN K W kvs xs → xs.length = kvs.length
  | [], xs, h => by rw [show xs = [] from h]; rfl
  | _ :: _, _, ⟨k, b, u, v, r', e1, _, _, _, e6⟩ => by rw [e1, List.length_cons, List.length_cons, DN.length e6]
theorem DN.mem {K : PySem.W.Frag} : ∀ {kvs : List (D × D)} {xs : List (NestedKey × Addr × Value)}, DN K W kvs xs → ∀ x, x ∈ xs → ∃ kd, (nkD kd = some x.1 ∧ x.1.depth ≤ 8) ∧ Rep K W kd (.ref x.2.1)
  | [], xs, h, x, hx => by rw [show xs = [] from h] at hx; cases hx
  | p :: _, _, ⟨k, b, u, v, r', e1, e2, e3, _, e6⟩, x, hx => by
    subst e1
    cases hx with
    | head => exact ⟨p.1, e2, e3⟩
    | tail _ hx => exact DN.mem e6 x hx
/-- the dict's object, as the kit's rules want it -/
theorem dict_at {S : Sto} {a : Addr} {kvs : List (D × D)} (I : L2.Inv X pins σ H s) (ok : Ok X.K W S H) (hS : S a = some (.dN a kvs)) :
    ∃ xs, H a = some (.ext (dnP a xs)) ∧ DN X.K W kvs xs ∧ (kvs.length ≤ sizeLine ∧ (a == sysModules) = false ∧ (xs.map (·.1)).Nodup) ∧ s.heap.DictOfH (nestedKind X.prog X.w) a xs := by
  obtain ⟨o, h1, xs, h2, h3, h4⟩ := ok.sto _ _ hS
  subst h2
  obtain ⟨⟨ob, es, ep, g1, g2, g3, g4⟩, _, _⟩ := (show ObjOk X.prog X.w H s.heap a (.ext (dnP a xs)) from I.hok a _ h1)
  refine ⟨xs, h1, h4, h3, ob, es, ep, g1, g2, g3, ?_, fun x hx => ?_, h3.2.2⟩
  · rw [g4]
    refine List.map_congr_left fun x hx => ?_
    obtain ⟨kd, ⟨q1, _⟩, _⟩ := DN.mem h4 x hx
    show (⟨khash x.1, .ref x.2.1, x.2.2⟩ : DictEntry) = ⟨x.1.hash X.w, .ref x.2.1, x.2.2⟩
    rw [khash_eq X.w q1]
  · obtain ⟨kd, ⟨q1, q2⟩, q3⟩ := DN.mem h4 x hx
    exact ⟨nest_of I ok.vis q3 rfl q1, q2⟩
/-- what the dict holds at a key -/
def fndN (kvs : List (D × D)) (k : NestedKey) : Option D := match kvs with
  | [] => none
  | p :: r => if nkD p.1 = some k then some p.2 else fndN r k
def putN (kvs : List (D × D)) (k : NestedKey) (i d : D) : List (D × D) := if (fndN kvs k).isSome = true then kvs.map fun p => if nkD p.1 = some k then (p.1, d) else p else kvs ++ [(i, d)]
theorem at_cons {x : NestedKey × Addr × Value} {xs : List (NestedKey × Addr × Value)} {k : NestedKey} : atKey (x :: xs) k = if x.1 = k then some x.2 else atKey xs k := by
  unfold atKey
  rw [List.find?_cons]
  by_cases e : x.1 = k
  · rw [decide_eq_true e, if_pos e]; rfl
  · rw [decide_eq_false e, if_neg e]
theorem DN.find {K : PySem.W.Frag} {k : NestedKey} : ∀ {kvs : List (D × D)} {xs : List (NestedKey × Addr × Value)}, DN K W kvs xs → (fndN kvs k = none ∧ atKey xs k = none) ∨ ∃ d b u v, fndN kvs k = some d ∧ atKey xs k = some (b, u) ∧ Rep K W d v ∧ RelV v u
  | [], xs, h => by rw [show xs = [] from h]; exact .inl ⟨rfl, rfl⟩
  | p :: r, _, ⟨k', b, u, v, r', e1, ⟨e2, _⟩, e3, ⟨e4, e5⟩, e6⟩ => by
    subst e1
    rw [at_cons]
    by_cases e : k' = k
    · subst e
      exact .inr ⟨p.2, b, u, v, by unfold fndN; rw [if_pos e2], if_pos rfl, e4, e5⟩
    · rw [if_neg e]
      have : fndN (p :: r) k = fndN r k := by
        show (if nkD p.1 = some k then some p.2 else fndN r k) = _
        rw [if_neg (by rw [e2]; exact fun z => e (Option.some.inj z))]
      rw [this]
      exact DN.find e6
/-- a key -/
def keyD (d : D) : Option NestedKey := match d with
  | .tup xs => (nkD (.tup xs)).bind fun k => if k.depth ≤ 8 then some k else none
  | _ => none
theorem keyD_ex {d : D} {k : NestedKey} (h : keyD d = some k) : (nkD d = some k ∧ k.depth ≤ 8) ∧ ∃ xs, d = .tup xs := by
  cases d with
  | tup xs =>
    have h' : ((nkD (.tup xs)).bind fun k => if k.depth ≤ 8 then some k else none) = some k := h
    obtain ⟨k', e1, e2⟩ := Option.bind_eq_some_iff.mp h'
    by_cases q : k'.depth ≤ 8
    · rw [if_pos q] at e2; cases e2; exact ⟨⟨e1, q⟩, _, rfl⟩
    · rw [if_neg q] at e2; cases e2
  | _ => cases h
def dnAt (S : Sto) (y : D) (k : Addr → List (D × D) → Prop) : Prop := match y with
  | .ref a => match S a with
    | some (.dN a' kvs) => a' = a ∧ k a kvs
    | _ => False
  | _ => False
theorem dnAt_ex {S : Sto} {y : D} {k : Addr → List (D × D) → Prop} (h : dnAt S y k) : ∃ a kvs, y = .ref a ∧ S a = some (.dN a kvs) ∧ k a kvs := by
  cases y with
  | ref a =>
    have h' : (match S a with | some (.dN a' kvs) => a' = a ∧ k a kvs | _ => False) := h
    cases q : S a with
    | none => rw [q] at h'; exact h'.elim
    | some m =>
      rw [q] at h'
      cases m with
      | dN a' kvs => obtain ⟨rfl, h'⟩ := h'; exact ⟨_, kvs, rfl, q, h'⟩
      | _ => exact h'.elim
  | _ => exact h.elim
theorem dnAt_mk {S : Sto} {a : Addr} {kvs : List (D × D)} {k : Addr → List (D × D) → Prop} (h : S a = some (.dN a kvs)) (q : k a kvs) : dnAt S (.ref a) k := by
  show (match S a with | some (.dN a' kvs) => a' = a ∧ k a kvs | _ => False)
  rw [h]
  exact ⟨rfl, q⟩
def oInN (neg : Bool) : O2 := fun S x y Q => dnAt S y fun _ kvs => some! (keyD x) fun k => Q (.bl (if neg = true then !(fndN kvs k).isSome else (fndN kvs k).isSome)) S
theorem room_in1 {A : Around} (hu : A.units + 64 < cLine) : (nestedKind X.prog X.w).room A.in1 := by
  show A.in1.units + 8 < cLine
  have : A.in1.units ≤ A.units + 1 := by first | exact Nat.le_refl _ | (unfold Around.in1; split <;> simp) | (show _ ≤ _; simp [Around.in1, Around.units])
  omega
theorem DN.some_eq {K : PySem.W.Frag} {k : NestedKey} {kvs : List (D × D)} {xs : List (NestedKey × Addr × Value)} (h : DN K W kvs xs) : (fndN kvs k).isSome = (atKey xs k).isSome := by
  rcases h.find (k := k) with ⟨e1, e2⟩ | ⟨d, b, u, v, e1, e2, _⟩ <;> rw [e1, e2] <;> rfl
end
theorem opd_inN {X : Cx} (hu : X.A.units + 64 < cLine) : OpR X (compareOp .In) (lOp X.K (oInN false)) := fun pins s σ H x y v u Q I rx ry h => by
  obtain ⟨W, S, a, b, Q0, ok, ra, rb, ho, cv⟩ := h
  obtain ⟨p, kvs, rfl, hS, ho⟩ := dnAt_ex ho
  obtain ⟨k, hk, hq0⟩ := some!_ex ho
  obtain ⟨⟨k1, k2⟩, xs, rfl⟩ := keyD_ex hk
  obtain ⟨es, h1, dn, ⟨z1, z2, z3⟩, dd⟩ := dict_at I ok hS
  obtain ⟨q, vs, rfl, hq, rv⟩ := id ra
  obtain rfl : v = Value.ref q := rx
  rw [show y = V.ref p from rb] at ry
  obtain rfl : u = Value.ref p := ry
  refine wpAny_in_heap (room_in1 hu) ⟨nest_of I ok.vis ra rfl k1, k2⟩ z2 dd ?_
  rw [← dn.some_eq]
  exact ⟨.bl (fndN kvs k).isSome, H, I.tok _, rfl, cv (.bl (fndN kvs k).isSome) S _ W H (by simpa using hq0) Stp.refl ok rfl⟩
theorem opd_notInN {X : Cx} (hu : X.A.units + 64 < cLine) : OpR X (compareOp .NotIn) (lOp X.K (oInN true)) := fun pins s σ H x y v u Q I rx ry h => by
  obtain ⟨W, S, a, b, Q0, ok, ra, rb, ho, cv⟩ := h
  obtain ⟨p, kvs, rfl, hS, ho⟩ := dnAt_ex ho
  obtain ⟨k, hk, hq0⟩ := some!_ex ho
  obtain ⟨⟨k1, k2⟩, xs, rfl⟩ := keyD_ex hk
  obtain ⟨es, h1, dn, ⟨z1, z2, z3⟩, dd⟩ := dict_at I ok hS
  obtain ⟨q, vs, rfl, hq, rv⟩ := id ra
  obtain rfl : v = Value.ref q := rx
  rw [show y = V.ref p from rb] at ry
  obtain rfl : u = Value.ref p := ry
  refine wpAny_notIn_heap (room_in1 hu) ⟨nest_of I ok.vis ra rfl k1, k2⟩ z2 dd ?_
  rw [← dn.some_eq]
  exact ⟨.bl (!(fndN kvs k).isSome), H, I.tok _, rfl, cv (.bl (!(fndN kvs k).isSome)) S _ W H (by simpa using hq0) Stp.refl ok rfl⟩
end DL
set_option Elab.async false
set_option linter.all false
set_option maxRecDepth 100000
set_option maxHeartbeats 1000000
/-! The data layer, part q: dicts with tuple keys: written, made, read. -/
namespace DL
open PySem PySem.Spec PyProof.Rows L2
section
variable {X : Cx} {pins : List (Addr × Obj)} {σ : L2.St} {H W : Hp} {s : Shared}
theorem DN.snoc {K : PySem.W.Frag} {i d : D} {k : NestedKey} {b : Addr} {u : Value} {v : V} (hk : nkD i = some k ∧ k.depth ≤ 8) (ri : Rep K W i (.ref b)) (rd : Rep K W d v ∧ RelV v u) : ∀ {kvs : List (D × D)} {xs : List (NestedKey × Addr × Value)}, DN K W kvs xs → DN K W (kvs ++ [(i, d)]) (xs ++ [(k, b, u)])
  | [], xs, h => by rw [show xs = [] from h]; exact ⟨k, b, u, v, [], rfl, hk, ri, rd, rfl⟩
  | p :: r, _, ⟨k', b', u', v', r', e1, e2, e3, e4, e6⟩ => by
    subst e1
    exact ⟨k', b', u', v', _, rfl, e2, e3, e4, DN.snoc hk ri rd e6⟩
theorem DN.upd {K : PySem.W.Frag} {d : D} {k : NestedKey} {u : Value} {v : V} (rd : Rep K W d v ∧ RelV v u) : ∀ {kvs : List (D × D)} {xs : List (NestedKey × Addr × Value)}, DN K W kvs xs →
    DN K W (kvs.map fun p => if nkD p.1 = some k then (p.1, d) else p) (xs.map (putAt k u))
  | [], xs, h => by rw [show xs = [] from h]; rfl
  | p :: r, _, ⟨k', b', u', v', r', e1, e2, e3, e4, e6⟩ => by
    subst e1
    rw [List.map_cons, List.map_cons]
    by_cases e : k' = k
    · subst e
      rw [if_pos e2.1]
      refine ⟨k', b', u, v, _, ?_, e2, e3, rd, DN.upd rd e6⟩
      rw [show putAt k' u (k', b', u') = (k', b', u) from if_pos rfl]
    · rw [if_neg (by rw [e2.1]; exact fun z => e (Option.some.inj z))]
      refine ⟨k', b', u', v', _, ?_, e2, e3, e4, DN.upd rd e6⟩
      rw [show putAt k u (k', b', u') = (k', b', u') from if_neg e]
theorem DN.put {K : PySem.W.Frag} {i d : D} {k : NestedKey} {b : Addr} {u : Value} {v : V} {kvs : List (D × D)} {xs : List (NestedKey × Addr × Value)} (h : DN K W kvs xs) (hk : nkD i = some k ∧ k.depth ≤ 8) (ri : Rep K W i (.ref b)) (rd : Rep K W d v ∧ RelV v u) :
    DN K W (putN kvs k i d) (storedH xs k b u) := by
  unfold putN storedH
  rw [h.some_eq (k := k)]
  by_cases e : (atKey xs k).isSome = true
  · rw [if_pos e, if_pos e]; exact h.upd rd
  · rw [if_neg e, if_neg e]; exact h.snoc hk ri rd
theorem putN_len {kvs : List (D × D)} {k : NestedKey} {i d : D} : (putN kvs k i d).length ≤ kvs.length + 1 := by
  unfold putN
  split
  · rw [List.length_map]; omega
  · rw [List.length_append]; exact Nat.le_refl _
/-- the object of a dict, told by its entries -/
theorem dn_obj {P : Program} {w : World} {H' : Hp} {h' : Heap} {a : Addr} {kvs : List (D × D)} {xs : List (NestedKey × Addr × Value)} (dn : DN X.K W kvs xs) (dd : h'.DictOfH (nestedKind P w) a xs) : ObjOk P w H' h' a (.ext (dnP a xs)) := by
  obtain ⟨o, es, ep, h1, h2, h3, h4, _, _⟩ := dd
  refine ⟨⟨o, es, ep, h1, h2, h3, ?_⟩, ⟨o, h1⟩, fun k1 k2 ⟨o', es', ep', g1, g2⟩ e => ⟨o', es', ep', e _ g1, g2⟩⟩
  rw [h4]
  refine List.map_congr_left fun x hx => ?_
  obtain ⟨kd, ⟨q1, _⟩, _⟩ := DN.mem dn x hx
  show (⟨x.1.hash w, .ref x.2.1, x.2.2⟩ : DictEntry) = ⟨khash x.1, .ref x.2.1, x.2.2⟩
  rw [khash_eq w q1]
/-- o[i] = e for a dict with tuple keys -/
def setN (S : Sto) (o i d : D) (k : Sto → Prop) : Prop := dnAt S o fun a kvs => some! (keyD i) fun key => kvs.length < sizeLine ∧ k (DL.put S a (.dN a (putN kvs key i d)))
def wSetN (wo wi we : WPe) : WPs := fun env S q => we env S (fun d S1 => wo env S1 (fun o S2 => wi env S2 (fun i S3 => setN S3 o i d fun S4 => q.nx env S4) (xcQ q env)) (xcQ q env)) (xcQ q env)
def lSetN (K : PySem.W.Frag) : TSet := fun o i v H Q => ∃ W S od id vd k, Ok K W S H ∧ Rep K W od o ∧ Rep K W id i ∧ Rep K W vd v ∧ setN S od id vd k ∧ ∀ S' H', k S' → Stp W S H W S' H' → Ok K W S' H' → Q H'
theorem set_N (hu : X.A.units + 64 < cLine) : PSet X (lSetN X.K) := by
  intro pins s σ H o i v ov iv u Q I ro ri rv ⟨W, S, od, id_, vd, k, ok, r1, r2, r3, hs, hq⟩
  obtain ⟨a, kvs, rfl, hS, hs⟩ := dnAt_ex hs
  obtain ⟨key, hk, hz, hk2⟩ := some!_ex hs
  obtain ⟨⟨k1, k2⟩, xs0, rfl⟩ := keyD_ex hk
  rw [show o = V.ref a from r1] at ro
  obtain rfl : ov = Value.ref a := ro
  obtain ⟨b, vs, rfl, hq0, rv0⟩ := id r2
  obtain rfl : iv = Value.ref b := ri
  obtain ⟨xs, h1, dn, ⟨z1, z2, z3⟩, dd⟩ := dict_at I ok hS
  have hl := dn.length
  have hlN : (putN kvs key (.tup xs0) vd).length ≤ kvs.length + 1 := putN_len
  refine wpAny_setItem_heap (hsz := by omega) (room_in1 hu) ⟨nest_of I ok.vis r2 rfl k1, k2⟩ dd fun h' dd' hsb => ?_
  have dn' := dn.put ⟨k1, k2⟩ r2 ⟨r3, rv⟩
  have he : ∃ q, h'.get? a = some q := let ⟨q, _, _, hq, _⟩ := dd'; ⟨q, hq⟩
  refine ⟨L2.upd H a (.ext (dnP a (storedH xs key b u))), d_write I (by rw [h1]; exact True.intro) hsb he (dn_obj dn' dd'), hq _ _ hk2 (ok.stC hS) (ok.chg hS ⟨_, rfl, ⟨by omega, z2, ?_⟩, dn'⟩)⟩
  obtain ⟨_, _, _, _, _, _, _, _, nd⟩ := dd'
  exact nd
theorem pds_setN {X : Cx} {o ip e : Expr} {wo wi we : WPe} {pos p2 : Pos} (hu : X.A.units + 64 < cLine) (ho : PD X o wo) (hi : PD X ip wi) (he : PD X e we) (hs : swapsWithSole [.Subscript o ip p2] e pos.line X.env = pure false := by rfl) (hw : swappedStores [.Subscript o ip p2] e X.env = pure none := by rfl)
    (h1 : (assignEach [.Subscript o ip p2] X.env).map (·.2) = [assign (.Subscript o ip p2) X.env] := by rfl)
    (ha : ∀ v, assign (.Subscript o ip p2) X.env v = (do
      let ov ← holding [v] (eval o X.env)
      let iv ← holding [v, ov] (eval ip X.env)
      standAt p2
      holding [v, ov, iv] (setItem ov iv v)
      release [v, ov, iv] []) := by intro _; rfl) : PDs X (.Assign [.Subscript o ip p2] e pos) (wSetN wo wi we) :=
  ⟨fun Wx tk => PS.imp (ps_asg (he.run Wx tk) (pg_sub (ho.run Wx tk) (hi.run Wx tk) (set_N hu) ha) hs hw h1) fun D σ H ⟨W, env, S, q, ok, sl, hl, hw, cs⟩ => ⟨W, env, S, _, _, ok, sl, hw, fun d S1 v W1 H1 h1 s1 ok1 r1 =>
    ⟨W1, env, S1, _, _, ok1, sl.mono s1.vis, h1, fun o1 S2 u W2 H2 h2 s2 ok2 r2 => ⟨W2, env, S2, _, _, ok2, sl.mono (s1.trans s2).vis, h2, fun i1 S3 t W3 H3 h3 s3 ok3 r3 =>
      ⟨W3, S3, o1, i1, d, _, ok3, r2.mono s3.vis, r3, r1.mono (s2.trans s3).vis, h3, fun S4 H4 h4 st4 ok4 => cs.nx _ S4 _ W3 _ h4 (s1.trans (s2.trans (s3.trans st4))) ok4 (sl.mono (s1.trans (s2.trans s3)).vis) hl⟩, CXc.of (cs.mono (s1.trans s2)) (sl.mono (s1.trans s2).vis)⟩, CXc.of (cs.mono s1) (sl.mono s1.vis)⟩, CXc.of cs sl⟩⟩
end
/-- {k: v} -/
def wDict1 (wk wv : WPe) : WPe := fun env S Q X => wk env S (fun kd S1 => wv env S1 (fun vd S2 => some! (keyD kd) fun _ => ∀ p, S2 p = none → Q (.ref p) (DL.put S2 p (.dN p [(kd, vd)]))) X) X
theorem Stp.grow {W : Hp} {S : Sto} {H H1 : Hp} (h : ∀ a o, H a = some o → H1 a = some o) : Stp W S H W S H1 := ⟨Same.refl W, fun a o e h1 h2 => ⟨h a o e, h1, h2⟩⟩
theorem pd_dict1 {X : Cx} {ek ev : Expr} {pos : Pos} {wk wv : WPe} (hu : X.A.units + 64 < cLine) (hk : PD X ek wk) (hv : PD X ev wv) : PD X (.Dict [some ek] [ev] pos) (wDict1 wk wv) := by
  refine ⟨fun Wx tk => ⟨fun pins s σ H Q I h => ?_⟩⟩
  obtain ⟨W, env, S, Q0, X1, ok, sl, hw, cv, cx⟩ := h
  refine wpAny_Dict_any rfl rfl (by simp) (by show 1 ≤ 15; omega) ?_
  have hp : H s.heap.objs.size = none := I.hok.fresh (Nat.le_refl _)
  have hnm : (s.heap.objs.size == sysModules) = false := beq_eq_false_iff_ne.mpr (Ne.symm (Nat.ne_of_lt I.big))
  have new0 : ∀ H', ObjOk X.prog X.w H' (s.heap.push { cls := .type "dict", data := .dict #[] }) s.heap.objs.size (.ext (dnP s.heap.objs.size [])) := fun H' =>
    ⟨⟨_, #[], 0, Heap.get?_push_size _ rfl, ⟨rfl, rfl, rfl⟩, rfl, rfl⟩, ⟨_, Heap.get?_push_size _ rfl⟩, fun k1 k2 ⟨o', es', ep', g1, g2⟩ e => ⟨o', es', ep', e _ g1, g2⟩⟩
  have I1 := I.laid (a := s.heap.objs.size) (o := .ext (dnP s.heap.objs.size [])) (t' := s.toks) (fun _ _ q => Heap.get?_push_of_some _ q) (Nat.le_refl _) (new0 _)
  generalize s.heap.objs.size = p at hp hnm I1
  obtain ⟨hW, hS⟩ := ok.fresh hp
  have ok1 := ok.junk (o := .ext (dnP p [])) hp
  have st1 := ok.stJ (o := .ext (dnP p [])) hp
  show wpAny _ _ (evalPairs [(eval ek X.env, do let x ← eval ev X.env; standAt pos; pure x)]) _ _ _
  refine evalPairs_cons ?_
  refine thn ((hk.run Wx tk).run pins _ σ _ _ I1 ⟨W, env, S, _, X1, ok1, sl, hw, fun kd S2 v2 W2 H2 h2 s2 ok2 r2 => (⟨W2, S2, kd, h2, s2, ok2, r2⟩ : ∃ W2 S2 kd, (fun kd S1 => wv env S1 (fun vd S2 => some! (keyD kd) fun _ => ∀ p, S2 p = none → Q0 (.ref p) (DL.put S2 p (.dN p [(kd, vd)]))) X1) kd S2 ∧ Stp W S (L2.upd H p (.ext (dnP p []))) W2 S2 H2 ∧ Ok X.K W2 S2 H2 ∧ Rep X.K W2 kd v2), cx.mono st1⟩) ?_
  rintro uk s2 ⟨vk, H2, I2, rk, W2, S2, kd, h2, st2, ok2, r2⟩
  refine wpAny_bind (thn ((hv.run Wx tk).run pins _ σ _ _ I2 ⟨W2, env, S2, _, X1, ok2, sl.mono st2.vis, h2, fun vd S3 v3 W3 H3 h3 s3 ok3 r3 => (⟨W3, S3, vd, h3, s3, ok3, r3⟩ : ∃ W3 S3 vd, (fun vd S2 => some! (keyD kd) fun _ => ∀ p, S2 p = none → Q0 (.ref p) (DL.put S2 p (.dN p [(kd, vd)]))) vd S3 ∧ Stp W2 S2 H2 W3 S3 H3 ∧ Ok X.K W3 S3 H3 ∧ Rep X.K W3 vd v3), cx.mono (st1.trans st2)⟩) ?_)
  rintro uv s3 ⟨vv, H3, I3, rv, W3, S3, vd, h3, st3, ok3, r3⟩
  refine wpAny_bind (wpAny_standAt (wpAny_pure ?_))
  refine evalPairs_nil ?_
  obtain ⟨key, hkey, hq⟩ := some!_ex h3
  obtain ⟨⟨k1, k2⟩, xs0, rfl⟩ := keyD_ex hkey
  have r2' := r2.mono st3.vis
  obtain ⟨b, vs, rfl, hq0, rv0⟩ := id r2'
  obtain rfl : uk = Value.ref b := rk
  have stA := (st2.trans st3)
  obtain ⟨e1, e2, e3⟩ := stA.frm p _ upd_same hW hS
  obtain ⟨⟨ob, es, ep, g1, g2, g3, g4⟩, _, _⟩ := (show ObjOk X.prog X.w H3 s3.heap p (.ext (dnP p [])) from I3.hok p _ e1)
  have dd : s3.heap.DictOfH (nestedKind X.prog X.w) p [] := ⟨ob, es, ep, g1, g2, g3, g4, (fun x hx => by cases hx), List.nodup_nil⟩
  show wpAny _ _ (storeAll p [(Value.ref b, uv)]) _ _ _
  unfold storeAll
  rw [List.forIn_cons]
  refine wpAny_bind (wpAny_bind (wpAny_dictSet_heap (knd := nestedKind X.prog X.w) (hsz := Nat.zero_le _) (show X.A.units + 8 < cLine by omega) ⟨nest_of I3 ok3.vis r2' rfl k1, k2⟩ dd fun h' dd' hsb => wpAny_pure ?_))
  dsimp only
  rw [List.forIn_nil]
  refine wpAny_pure ?_
  have dn' : DN X.K W3 [(.tup xs0, vd)] (storedH [] key b uv) := ⟨key, b, uv, vv, [], rfl, ⟨k1, k2⟩, r2', ⟨r3, rv⟩, rfl⟩
  have he : ∃ q, h'.get? p = some q := let ⟨q, _, _, hq, _⟩ := dd'; ⟨q, hq⟩
  have I4 := d_write (t' := s3.toks + (nestedKind X.prog X.w).draws key) I3 (by rw [e1]; exact True.intro) hsb he (dn_obj dn' dd')
  obtain ⟨_, _, _, _, _, _, _, _, nd⟩ := dd'
  have stB : Stp W S H W3 S3 H3 := st1.trans stA
  have ok4 := (ok3.out (o := .ext (dnP p (storedH [] key b uv))) e2 e3).own (m := .dN p [(.tup xs0, vd)]) e2 upd_same ⟨_, rfl, ⟨by show 1 ≤ sizeLine; decide, hnm, nd⟩, dn'⟩
  exact ⟨.ref p, _, I4, rfl, cv _ _ _ _ _ (hq p e3) ((stB.own hp).out hp) ok4 rfl⟩
/-- a bool in a list or tuple of bools -/
def oInB : O2 := fun S x y Q => match x with
  | .bl k => some! (seqA S y) fun xs => some! (toBls xs) fun bs => Q (.bl (bs.any fun b => b == k)) S
  | _ => False
def oNotInB : O2 := fun S x y Q => match x with
  | .bl k => some! (seqA S y) fun xs => some! (toBls xs) fun bs => Q (.bl (!(bs.any fun b => b == k))) S
  | _ => False
theorem inV_bl {k : Bool} : ∀ {bs : List Bool}, inV (.bl k) (bs.map V.bl) = (bs.any fun b => b == k) ∧ (bs.map V.bl).all flatV = true
  | [] => ⟨rfl, rfl⟩
  | b :: r => by
    obtain ⟨h1, h2⟩ := inV_bl (k := k) (bs := r)
    refine ⟨?_, h2⟩
    show ((b == k) || inV (.bl k) (r.map V.bl)) = ((b == k) || r.any fun b => b == k)
    rw [h1]
theorem opd_inB {X : Cx} : OpR X (compareOp .In) (lOp X.K oInB) := OpR.imp op_in_seq fun x y H Q ⟨W, S, a, b, Q0, ok, ra, rb, ho, cv⟩ => by
  cases a with
  | bl k =>
    obtain ⟨xs, e1, ho⟩ := some!_ex ho
    obtain ⟨bs, e2, ho⟩ := some!_ex ho
    obtain ⟨p, vs, rfl, hq, r1⟩ := seqA_rep ok rb e1
    have e3 := toBls_rep e2 r1
    subst e3
    have e4 : x = V.bl k := ra
    subst e4
    refine ⟨p, _, rfl, hq, rfl, (inV_bl (k := k)).2, ?_⟩
    rw [inV_bl.1]
    exact cv _ S _ W H ho Stp.refl ok rfl
  | _ => exact ho.elim
theorem opd_notInB {X : Cx} : OpR X (compareOp .NotIn) (lOp X.K oNotInB) := OpR.imp op_notIn_seq fun x y H Q ⟨W, S, a, b, Q0, ok, ra, rb, ho, cv⟩ => by
  cases a with
  | bl k =>
    obtain ⟨xs, e1, ho⟩ := some!_ex ho
    obtain ⟨bs, e2, ho⟩ := some!_ex ho
    obtain ⟨p, vs, rfl, hq, r1⟩ := seqA_rep ok rb e1
    have e3 := toBls_rep e2 r1
    subst e3
    have e4 : x = V.bl k := ra
    subst e4
    refine ⟨p, _, rfl, hq, rfl, (inV_bl (k := k)).2, ?_⟩
    rw [inV_bl.1]
    exact cv _ S _ W H ho Stp.refl ok rfl
  | _ => exact ho.elim
/-- d[k] -/
def oIxN : O2 := fun S x y Q => dnAt S x fun _ kvs => some! (keyD y) fun k => some! (fndN kvs k) fun d => Q d S
end DL
set_option Elab.async false
set_option linter.all false
set_option maxRecDepth 100000
set_option maxHeartbeats 1000000
/-! The data layer, part r: data in a list or tuple of data, the index of data, len of a dict with tuple keys, its d[k]. -/
namespace DL
open PySem PySem.Spec PyProof.Rows L2
theorem dp_lay {K : PySem.W.Frag} {W H : Hp} {S : Sto} (ok : Ok K W S H) {d : D} {v : V} (r : Rep K W d v) (c0 : (toP (resD S d)).canLay0 = true) : Dp K H v (toP (resD S d)) := by
  cases d with
  | ref a =>
    have e : resD S (.ref a) = (match S a with | some (.lst xs) => .lst xs | _ => .ref a) := rfl
    cases q : S a with
    | none => rw [e, q] at c0; cases c0
    | some m =>
      cases m with
      | lst xs =>
        rw [e, q] at c0 ⊢
        obtain ⟨o, e1, vs, e2, e3⟩ := ok.sto _ _ q
        subst e2
        have r' : v = .ref a := r
        subst r'
        exact .lst (SqL.of e1) (dps_of ok.vis e3 c0)
      | _ => rw [e, q] at c0; cases c0
  | _ => exact dp_of ok.vis r c0
def itP : PyData → Option (List PyData)
  | .list xs => some xs
  | .tuple xs => some xs
  | _ => none
/-- how data stands, where it is flat enough to be asked for -/
def layP (S : Sto) (x : D) : Prop := (toP (resD S x)).canLay0 = true ∧ (toP (resD S x)).depth ≤ 8
def hasD (x : PyData) (xs : List PyData) : Bool := xs.any fun y => PyData.eqv y x
def oInD (neg : Bool) : O2 := fun S x y Q => layP S x ∧ (toP (resD S y)).canLay0 = true ∧ some! (itP (toP (resD S y))) fun xs => Q (.bl (if neg = true then !hasD (toP (resD S x)) xs else hasD (toP (resD S x)) xs)) S
theorem opd_inD {X : Cx} (hu : X.A.units + 64 < cLine) : OpR X (compareOp .In) (lOp X.K (oInD false)) := fun pins s σ H x y v u Q I rx ry h => by
  obtain ⟨W, S, a, b, Q0, ok, ra, rb, ⟨⟨h1, h2⟩, h3, h4⟩, cv⟩ := h
  obtain ⟨xs, hxs, ho⟩ := some!_ex h4
  obtain ⟨as, r1⟩ := Dp.reads I _ x v (dp_lay ok ra h1) rx
  obtain ⟨bs, r2⟩ := Dp.reads I _ y u (dp_lay ok rb h3) ry
  have hd := PyData.plain_of_canLay0 _ h1
  generalize toP (resD S a) = da at *
  have fin : ∀ s, L2.Inv X pins σ H s → EP X pins σ Q (.bool (xs.any fun y => PyData.eqv y da)) s := fun s I => ⟨.bl (hasD da xs), H, I, rfl, cv (.bl (hasD da xs)) S _ W H (by simpa using ho) Stp.refl ok rfl⟩
  generalize toP (resD S b) = db at *
  cases db with
  | list ys =>
    cases (show some ys = some xs from hxs)
    have hxs' : PyData.plainAll xs = true := PyData.plainAll_of_canLay0 _ (show PyData.canLayAll0 xs = true from h3)
    exact SeqAt.in_list_data r2 r1 hxs' hd (by have := Nat.min_le_right (PyData.depthAll xs) da.depth; omega) (fin _ I)
  | tuple ys =>
    cases (show some ys = some xs from hxs)
    have hxs' : PyData.plainAll xs = true := PyData.plainAll_of_canLay0 _ (show PyData.canLayAll0 xs = true from h3)
    exact SeqAt.in_tuple_data r2 r1 hxs' hd (by have := Nat.min_le_right (PyData.depthAll xs) da.depth; omega) (fin _ I)
  | _ => cases hxs
theorem opd_notInD {X : Cx} (hu : X.A.units + 64 < cLine) : OpR X (compareOp .NotIn) (lOp X.K (oInD true)) := fun pins s σ H x y v u Q I rx ry h => by
  obtain ⟨W, S, a, b, Q0, ok, ra, rb, ⟨⟨h1, h2⟩, h3, h4⟩, cv⟩ := h
  obtain ⟨xs, hxs, ho⟩ := some!_ex h4
  obtain ⟨as, r1⟩ := Dp.reads I _ x v (dp_lay ok ra h1) rx
  obtain ⟨bs, r2⟩ := Dp.reads I _ y u (dp_lay ok rb h3) ry
  have hd := PyData.plain_of_canLay0 _ h1
  generalize toP (resD S a) = da at *
  have fin : ∀ s, L2.Inv X pins σ H s → EP X pins σ Q (.bool (!xs.any fun y => PyData.eqv y da)) s := fun s I => ⟨.bl (!hasD da xs), H, I, rfl, cv (.bl (!hasD da xs)) S _ W H (by simpa using ho) Stp.refl ok rfl⟩
  generalize toP (resD S b) = db at *
  cases db with
  | list ys =>
    cases (show some ys = some xs from hxs)
    have hxs' : PyData.plainAll xs = true := PyData.plainAll_of_canLay0 _ (show PyData.canLayAll0 xs = true from h3)
    exact SeqAt.notIn_list_data r2 r1 hxs' hd (by have := Nat.min_le_right (PyData.depthAll xs) da.depth; omega) (fin _ I)
  | tuple ys =>
    cases (show some ys = some xs from hxs)
    have hxs' : PyData.plainAll xs = true := PyData.plainAll_of_canLay0 _ (show PyData.canLayAll0 xs = true from h3)
    exact SeqAt.notIn_tuple_data r2 r1 hxs' hd (by have := Nat.min_le_right (PyData.depthAll xs) da.depth; omega) (fin _ I)
  | _ => cases hxs
/-- len(d) of a dict with tuple keys -/
def oLenN : OC := fun S ds Q => one ds fun d => dnAt S d fun _ kvs => Q (.int (kvs.length : Nat)) S
theorem DN.len {K : PySem.W.Frag} {W : Hp} : ∀ {kvs : List (D × D)} {xs : List (NestedKey × Addr × Value)}, DN K W kvs xs → kvs.length = xs.length
  | [], xs, h => by rw [show xs = [] from h]; rfl
  | p :: r, _, ⟨k', b, u, v, r', e1, _, _, _, e6⟩ => by
    subst e1
    rw [List.length_cons, List.length_cons, DN.len e6]
theorem cd_lenN {X : Cx} : CallR X (.builtin "len") (lC X.K oLenN) := by
  intro pins s σ H vs us Q I r ⟨W, S, ds, Q0, ok, rd, ho, cv⟩
  obtain ⟨d, rfl, ho⟩ := one_ex ho
  obtain ⟨p, kvs, rfl, hS, ho⟩ := dnAt_ex ho
  obtain ⟨v, rfl, rv⟩ := reps1 rd
  obtain ⟨u, rfl, rx⟩ := vals1 r
  rw [show v = V.ref p from rv] at rx
  obtain rfl : u = Value.ref p := rx
  obtain ⟨es, h1, dn, ⟨z1, z2, z3⟩, dd⟩ := dict_at I ok hS
  have hl := dn.len
  refine call_len_dictH z2 dd (by rw [← hl]; have := z1; rw [sizeLine_eq] at this; omega) ?_
  rw [← hl]
  exact ⟨.int ((kvs.length : Nat) : Int), H, I.tok _, ⟨_, rfl⟩, cv _ S _ W H ho Stp.refl ok rfl⟩
/-- xs.index(e), found -/
def oIndex : OM := fun S d ds Q => mutL S d fun _ xs => one ds fun e => layP S e ∧ PyData.canLayAll0 (toPs xs) = true ∧ xs.length ≤ sizeLine ∧
  ∃ (k : Nat) (y : PyData), (toPs xs)[k]? = some y ∧ PyData.eqv y (toP (resD S e)) = true ∧ (∀ (m : Nat) z, m < k → (toPs xs)[m]? = some z → PyData.eqv z (toP (resD S e)) = false) ∧ Q (.int (k : Nat)) S
theorem md_index {X : Cx} (hu : X.A.units + 64 < cLine) : MtR X "list.index" (lM X.K oIndex) := by
  intro pins s σ H x vs v us Q I rx rv ⟨W, S, d, ds, Q0, ok, r, rs, ho, cv⟩
  obtain ⟨a, xs, ws, rfl, rfl, e1, e2, rvv, h⟩ := mutL_rep ok r ho
  obtain ⟨e, rfl, ⟨l1, l2⟩, c2, c3, k, y, k1, k2, k3, q⟩ := one_ex h
  obtain ⟨w, rfl, rw_⟩ := reps1 rs
  obtain ⟨u, rfl, ru⟩ := rv.one
  cases rx
  obtain ⟨z, its, n, rI, hl, eI⟩ := I.lstM e2
  obtain ⟨bs, r1⟩ := Dp.reads I _ w u (dp_lay ok rw_ l1) ru
  obtain ⟨as, r2⟩ := Dp.readsAll I _ ws its (dps_of ok.vis rvv c2) rI
  have hd := PyData.plain_of_canLay0 _ l1
  have hxs := PyData.plainAll_of_canLay0 _ c2
  have em := SeqAt.readsAll_map_plain _ _ _ hxs r2
  have at_ : ∀ (m : Nat) (t : Value), its[m]? = some t → (toPs xs)[m]? = some (SeqAt.readOf s.heap t) := fun m t ht => by
    rw [← em, List.getElem?_map, ht]; rfl
  obtain ⟨t, ht, et⟩ : ∃ t, its[k]? = some t ∧ SeqAt.readOf s.heap t = y := by
    rw [← em, List.getElem?_map] at k1
    obtain ⟨t, h1, h2⟩ := Option.map_eq_some_iff.mp k1
    exact ⟨t, h1, h2⟩
  have hk := lt_of_some ht
  have hits : its.length = xs.length := by
    have h1 := congrArg List.length em
    have h2 : ∀ xs : List D, (toPs xs).length = xs.length := fun xs => by
      induction xs with
      | nil => rfl
      | cons x r ih => show (toPs r).length + 1 = _; rw [ih]; rfl
    rw [List.length_map, h2] at h1
    exact h1
  have hz := c3
  rw [sizeLine_eq] at hz
  have hEq := SeqAt.items_plain (A := X.A) (vs := its.toArray) (by simpa using r2) r1 hxs hd (by have := Nat.min_le_right (PyData.depthAll (toPs xs)) (toP (resD S e)).depth; omega)
  generalize toP (resD S e) = de at *
  refine call_meets F.slot_list_index ⟨_, eI, rfl⟩ F.entry_list_index (F.args_list_index_2 _ _)
    (SeqAt.list_index2_found a its.toArray n none #[] u (fun j => PyData.eqv (SeqAt.readOf s.heap (its[j]?.getD .none)) de) k (by simpa using hk) (Nat.zero_le _) (by omega) (by rw [ht]; show PyData.eqv (SeqAt.readOf s.heap t) de = true; rw [et]; exact k2) ?_) ⟨eI, fun j hj => ?_, ?_⟩
  · intro m hm _ hlt
    have hm' : m < its.length := by simpa using hm
    rw [List.getElem?_eq_getElem hm']
    exact k3 m _ hlt (at_ m _ (List.getElem?_eq_getElem hm'))
  · have hj' : j < its.length := by simpa using hj
    rw [List.getElem?_eq_getElem hj']
    exact hEq _ (by simp)
  · exact ⟨.int (k : Nat), H, I.tok _, ⟨_, rfl⟩, cv _ S _ W H q Stp.refl ok rfl⟩
/-- a, b = e -/
def wAsgG (t : WPg) (w : WPe) : WPs := fun env S q => w env S (fun d S1 => t d env fun e => q.nx e S1) (xcQ q env)
theorem pds_asgG {X : Cx} {tg e : Expr} {vs : List Nat} {t : WPg} {w : WPe} {pos : Pos} (he : PD X e w) (hg : PDg X tg vs t) (hs : swapsWithSole [tg] e pos.line X.env = pure false := by rfl) (hw : swappedStores [tg] e X.env = pure none := by rfl)
    (h1 : (assignEach [tg] X.env).map (·.2) = [assign tg X.env] := by rfl) : PDs X (.Assign [tg] e pos) (wAsgG t w) :=
  ⟨fun Wx tk => PS.imp (ps_asg (he.run Wx tk) hg.run hs hw h1) fun D σ H ⟨W, env, S, q, ok, sl, hl, hw, cs⟩ => ⟨W, env, S, _, _, ok, sl, hw, fun d S1 v W1 H1 h1 s1 ok1 r1 =>
    ⟨W1, S1, env, d, _, ok1, sl.mono s1.vis, hl, r1, h1, fun e σ' hk sl' hl' _ => cs.nx _ S1 _ W1 H1 hk s1 ok1 sl' hl'⟩, CXc.of cs sl⟩⟩
end DL
set_option Elab.async false
set_option linter.all false
set_option maxRecDepth 100000
set_option maxHeartbeats 4000000
namespace DL
open PySem PySem.Spec PyProof.Rows L2
/-- x < y of data that are alike (lists, tuples, ints) -/
def oLtD : O2 := fun S x y Q => layP S x ∧ layP S y ∧ PySem.W.alike (toP (resD S x)) (toP (resD S y)) = true ∧ toP (resD S x) ≠ .none ∧ Q (.bl (PySem.W.dataLt (toP (resD S x)) (toP (resD S y)))) S
theorem opd_ltD {X : Cx} (hu : X.A.units + 64 < cLine) : OpR X (compareOp .Lt) (lOp X.K oLtD) := fun pins s σ H x y v u Q I rx ry h => by
  obtain ⟨W, S, a, b, Q0, ok, ra, rb, ⟨⟨h1, h2⟩, ⟨h3, h4⟩, h5, h6, ho⟩, cv⟩ := h
  obtain ⟨as, r1⟩ := Dp.reads I _ x v (dp_lay ok ra h1) rx
  obtain ⟨bs, r2⟩ := Dp.reads I _ y u (dp_lay ok rb h3) ry
  exact PySem.W.lt_data r1 r2 h5 h6 (by have := Nat.min_le_left (toP (resD S a)).depth (toP (resD S b)).depth; omega) ⟨.bl (PySem.W.dataLt (toP (resD S a)) (toP (resD S b))), H, I, rfl, cv _ S _ W H ho Stp.refl ok rfl⟩
end DL
set_option Elab.async false
set_option linter.all false
set_option maxRecDepth 100000
set_option maxHeartbeats 4000000
namespace K93
open PySem PySem.Spec PyProof.Rows L2 DL
structure Cl where
  Stopper : Addr
def N_Stopper : List Str := ["stops", "held", "many", "is_stopped"]
/-! ### what the program's functions compute -/
/-- s ends the text -/
def endsAt (s text : List Int) : Prop := s.length ≤ text.length ∧ text.drop (text.length - s.length) = s
instance (s text : List Int) : Decidable (endsAt s text) := by unfold endsAt; infer_instance
/-- m letters that end the text begin s, which is longer -/
def begins (s text : List Int) (m : Nat) : Prop := 1 ≤ m ∧ m < s.length ∧ m ≤ text.length ∧ text.drop (text.length - m) = s.take m
instance (s text : List Int) (m : Nat) : Decidable (begins s text m) := by unfold begins; infer_instance
def stopF (stops : List (List Int)) (text : List Int) : Nat := stops.foldl (fun m s => if m < s.length ∧ endsAt s text then s.length else m) 0
/-- the greatest of 1 .. n - 1 with p, m if none is greater -/
def heldF (stops : List (List Int)) (text : List Int) : Nat := stops.foldl (fun m s => (List.range s.length).foldl (fun m k => if m < k ∧ begins s text k then k else m) m) 0
/-! ### the Stopper -/
structure Stp3 where
  stops : List (List Int)
  held : List Int
  many : Int
  stop : Bool
def stMO (c : Cl) (s : Stp3) : MO := .ins c.Stopper N_Stopper [some (.tup (s.stops.map dT)), some (dT s.held), some (.int s.many), some (.bl s.stop)]
def feedF (s : Stp3) (l : Int) : List Int × Stp3 :=
  if s.stop = true then ([], s) else
    let text := s.held ++ [l]
    let taken := stopF s.stops text
    if 0 < taken then (text.take (text.length - taken), { s with stop := true, held := [], many := s.many + ((text.length : Int) - (taken : Int)) })
    else
      let keep := heldF s.stops text
      (text.take (text.length - keep), { s with held := text.drop (text.length - keep), many := s.many + ((text.length : Int) - (keep : Int)) })
/-! ### the hand of draws -/
structure Hand where
  cells : List Int
  at_ : Int
  big : Int
  seed : Int
def HandOk (h : Hand) : Prop := h.cells.length ≤ 63 ∧ 0 ≤ h.at_ ∧ 0 ≤ h.big ∧ 0 ≤ h.seed ∧ h.seed < 2305843009213693951
def handMO (h : Hand) : MO := .lst [dL h.cells, .int h.at_, .int h.big, .int h.seed]
def IsHand (S : Sto) (p : Addr) : Prop := ∃ h, HandOk h ∧ S p = some (handMO h)
/-- whatever is drawn -/
def drawn (p : Addr) (S : Sto) (Q : Sto → Prop) : Prop := ∀ h, HandOk h → Q (put S p (handMO h))
/-- letters below 12 -/
def LO (s : List Int) : Prop := ∀ x, x ∈ s → 0 ≤ x ∧ x < 12
/-! ### contracts -/
def sp_stop_length (c : Cl) : Ctr := fun ds S Q _ => ∃ stops text, ds = [.tup (stops.map dT), dT text] ∧ Q (.int (stopF stops text : Nat)) S
def sp_held_back (c : Cl) : Ctr := fun ds S Q _ => ∃ k j i stops text, ds = [rows k j stops, dR i text] ∧ text.length < 100000 ∧ (∀ s, s ∈ stops → s.length < 100000) ∧ Q (.int (heldF stops text : Nat)) S
/-- a list or a tuple of rows of ints, however held -/
def Rows (S : Sto) (d : D) (stops : List (List Int)) : Prop := ∃ es, seqA S d = some es ∧ es.length = stops.length ∧ ∀ (i : Nat) e s, es[i]? = some e → stops[i]? = some s → seqA S e = some (s.map D.int)
def sp_Stopper_init (c : Cl) : Ctr := fun ds S Q _ => ∃ a d stops, ds = [.ref a, d] ∧ S a = some (.ins c.Stopper N_Stopper (noneV N_Stopper)) ∧ (Rows S d stops ∧ stops.length ≤ 1000) ∧ Q .non (put S a (stMO c ⟨stops, [], 0, false⟩))
def sp_Stopper_has_stopped (c : Cl) : Ctr := fun ds S Q _ => ∃ a s, ds = [.ref a] ∧ S a = some (stMO c s) ∧ Q (.bl s.stop) S
def sp_Stopper_letters_held (c : Cl) : Ctr := fun ds S Q _ => ∃ a s, ds = [.ref a] ∧ S a = some (stMO c s) ∧ Q (dT s.held) S
def sp_Stopper_feed (c : Cl) : Ctr := fun ds S Q _ => ∃ a s l, ds = [.ref a, .int l] ∧ S a = some (stMO c s) ∧ (s.held.length ≤ 1000 ∧ ∀ t, t ∈ s.stops → t.length ≤ 1000) ∧ Q (dT (feedF s l).1) (put S a (stMO c (feedF s l).2))
def sp__law_hand (c : Cl) : Ctr := fun ds S Q _ => ∃ cells : List Int, ds = [.fro (cells.map D.int)] ∧ cells.length ≤ 63 ∧ ∀ p, S p = none → Q (.ref p) (put S p (handMO ⟨cells, 0, 0, 1311768467⟩))
def sp__law_draw (c : Cl) : Ctr := fun ds S Q _ => ∃ p n, ds = [.ref p, .int n] ∧ IsHand S p ∧ (0 < n ∧ n ≤ 100000) ∧ ∀ r, 0 ≤ r → r < n → drawn p S (Q (.int r))
/-- plain data of a depth: None, bools, ints, tuples -/
def plain : Nat → D → Prop
  | _, .non => True
  | _, .bl _ => True
  | _, .int _ => True
  | 0, .tup _ => False
  | n + 1, .tup xs => xs.length ≤ 1000 ∧ ∀ x, x ∈ xs → plain n x
  | _, _ => False
def sp__law_same_n (c : Cl) (n : Nat) : Ctr := fun ds S Q _ => match n with
  | 0 => False
  | n + 1 => ∃ d, ds = [d, d] ∧ plain n d ∧ Q (.bl true) S
def sp__law_same (c : Cl) : Ctr := fun ds S Q _ => ∃ d, ds = [d, d] ∧ plain 7 d ∧ Q (.bl true) S
/-- the ends: rows of ints -/
def dRows (xs : List (List Int)) : D := .lst (xs.map dL)
/-- the ends, however held -/
def RowsL (S : Sto) (d : D) (xs : List (List Int)) : Prop := seqL S d = some (xs.map dL)
def sp__law_stopped (c : Cl) : Ctr := fun ds S Q _ => ∃ d stops t text, ds = [d, t] ∧ RowsL S d stops ∧ seqA S t = some (text.map D.int) ∧ Q (.int (stopF stops text : Nat)) S
def sp__law_held (c : Cl) : Ctr := fun ds S Q _ => ∃ d stops t text, ds = [d, t] ∧ RowsL S d stops ∧ seqA S t = some (text.map D.int) ∧ (∀ s, s ∈ stops → s.length < 100000) ∧ Q (.int (heldF stops text : Nat)) S
def sp__law_alphabet (c : Cl) : Ctr := fun ds S Q _ => ∃ p, ds = [.ref p] ∧ IsHand S p ∧ ∀ r : List Int, r ≠ [] → (r.length ≤ 3 ∧ LO r) → drawn p S (Q (dL r))
def sp__law_row (c : Cl) : Ctr := fun ds S Q _ => ∃ p al l m, ds = [.ref p, dL al, .int l, .int m] ∧ IsHand S p ∧ (al ≠ [] ∧ al.length ≤ 1000 ∧ LO al) ∧ (0 ≤ l ∧ l ≤ 10 ∧ 0 ≤ m ∧ m ≤ 20) ∧ ∀ r : List Int, (1 ≤ l → r ≠ []) → (r.length ≤ 30 ∧ LO r) → drawn p S (Q (dL r))
/-- ends as the law draws them: none is empty, none longer than 4, letters below 12 -/
def EndsOk (xs : List (List Int)) : Prop := xs.length ≤ 6 ∧ ∀ s, s ∈ xs → s ≠ [] ∧ s.length ≤ 4 ∧ LO s
def sp__law_ends (c : Cl) : Ctr := fun ds S Q _ => ∃ p al m, ds = [.ref p, dL al, .int m] ∧ IsHand S p ∧ (al ≠ [] ∧ al.length ≤ 1000 ∧ LO al) ∧ (0 ≤ m ∧ m ≤ 6) ∧ ∀ xs, EndsOk xs → drawn p S (Q (dRows xs))
/-- what stands stands on -/
def Ext (S S' : Sto) : Prop := ∀ a m, S a = some m → S' a = some m
def sp_Stopper_twin (c : Cl) : Ctr := fun ds S Q _ => ∃ a s, ds = [.ref a] ∧ S a = some (stMO c s) ∧ s.stops.length ≤ 1000 ∧ ∀ b, S b = none → Q (.ref b) (put S b (stMO c s))
/-! ### the states, letter by letter -/
/-- what is held behind a letter more; none: stopped -/
def nextF (xs : List (List Int)) (h : List Int) (l : Int) : Option (List Int) :=
  if 0 < stopF xs (h ++ [l]) then none else some ((h ++ [l]).drop ((h ++ [l]).length - heldF xs (h ++ [l])))
def addH (xs : List (List Int)) (h : List Int) (hs : List (List Int)) (l : Nat) : List (List Int) := match nextF xs h l with
  | none => hs
  | some k => if k ∈ hs then hs else hs ++ [k]
def rowH (xs : List (List Int)) (h : List Int) (hs : List (List Int)) (n : Nat) : List (List Int) := (List.range n).foldl (addH xs h) hs
def bfs (xs : List (List Int)) : Nat → List (List Int)
  | 0 => [[]]
  | n + 1 => match (bfs xs n)[n]? with
    | none => bfs xs n
    | some h => rowH xs h (bfs xs n) 12
def readH (xs : List (List Int)) : List (List Int) := bfs xs 25
def stopsAt (xs : List (List Int)) (h : List Int) : Bool := (List.range 12).any fun l => (nextF xs h (l : Int)).isNone
def sp__law_changed (c : Cl) : Ctr := fun ds S Q _ => ∃ p xs al, ds = [.ref p, dRows xs, dL al] ∧ IsHand S p ∧ EndsOk xs ∧ (al ≠ [] ∧ al.length ≤ 1000 ∧ LO al) ∧ ∀ ys S', EndsOk ys → IsHand S' p → Q (dRows ys) S'
def sp__law_mixed_up (c : Cl) : Ctr := fun ds S Q _ => ∃ p xs, ds = [.ref p, dRows xs] ∧ IsHand S p ∧ EndsOk xs ∧ ∀ ys S', EndsOk ys → ys.length = xs.length → IsHand S' p → Q (dRows ys) S'
/-- read letter by letter by a Stopper -/
def fedF (xs : List (List Int)) (text : List Int) : List (List Int) × Stp3 := text.foldl (fun st l => (st.1 ++ [(feedF st.2 l).1], (feedF st.2 l).2)) ([], ⟨xs, [], 0, false⟩)
def dFed (f : List (List Int) × Stp3) : D := .tup [.tup (f.1.map dT), .bl f.2.stop, dT f.2.held]
def sp__law_fed (c : Cl) : Ctr := fun ds S Q _ => ∃ i xs text, ds = [dRows xs, dR i text] ∧ EndsOk xs ∧ text.length ≤ 1000 ∧ ∀ S', Ext S S' → Q (dFed (fedF xs text)) S'
def sp__law_due (c : Cl) : Ctr := fun ds S Q _ => ∃ i xs text, ds = [dRows xs, dR i text] ∧ EndsOk xs ∧ text.length ≤ 1000 ∧ ∀ S', Ext S S' → Q (dFed (fedF xs text)) S'
def sp_Stopper_sent_in_all (c : Cl) : Ctr := fun ds S Q _ => ∃ a s, ds = [.ref a] ∧ S a = some (stMO c s) ∧ Q (.int s.many) S
/-- stopped or not, and how many letters are sent in all -/
def unlike (s t : Stp3) : Bool := s.stop != t.stop || (s.stop && s.many != t.many)
def sp_are_unlike (c : Cl) : Ctr := fun ds S Q _ => ∃ a b s t, ds = [.ref a, .ref b] ∧ S a = some (stMO c s) ∧ S b = some (stMO c t) ∧ Q (.bl (unlike s t)) S
/-! ### the search over pairs: (text, what the one holds, what the other holds), in the order met -/
abbrev Pr := List Int × List Int × List Int
def stepP (xs ys : List (List Int)) (w : Pr) (st : Option (List Int) × List Pr) (l : Nat) : Option (List Int) × List Pr :=
  if st.1.isSome = true then st else
  if stopF xs (w.2.1 ++ [(l : Int)]) ≠ stopF ys (w.2.2 ++ [(l : Int)]) then (some (w.1 ++ [(l : Int)]), st.2) else
  match nextF xs w.2.1 (l : Int), nextF ys w.2.2 (l : Int) with
  | some h, some k => if (h, k) ∈ st.2.map Prod.snd then st else (none, st.2 ++ [(w.1 ++ [(l : Int)], h, k)])
  | _, _ => st
def rowP (xs ys : List (List Int)) (w : Pr) (ws : List Pr) (n : Nat) : Option (List Int) × List Pr := (List.range n).foldl (stepP xs ys w) (none, ws)
def bfsP (xs ys : List (List Int)) : Nat → Option (List Int) × List Pr
  | 0 => (none, [([], [], [])])
  | n + 1 => if (bfsP xs ys n).1.isSome = true then bfsP xs ys n else match (bfsP xs ys n).2[n]? with
    | none => bfsP xs ys n
    | some w => rowP xs ys w (bfsP xs ys n).2 12
/-- the first text that parts the two -/
def partF (xs ys : List (List Int)) : Option (List Int) := (bfsP xs ys 400).1
def dPart : Option (List Int) → D
  | none => .non
  | some t => dT t
def sp_parting_text (c : Cl) : Ctr := fun ds S Q _ => ∃ d e xs ys, ds = [d, e] ∧ Rows S d xs ∧ Rows S e ys ∧ EndsOk xs ∧ EndsOk ys ∧ ∀ S', Ext S S' → Q (dPart (partF xs ys)) S'
/-! ### needless stops -/
def standsB (s o : List Int) : Bool := (List.range (s.length - o.length)).any fun k => decide ((s.drop k).take o.length = o)
def sp_stands_ahead_of_end (c : Cl) : Ctr := fun ds S Q _ => ∃ i j s o, ds = [dR i s, dR j o] ∧ s.length ≤ 1000 ∧ o.length ≤ 1000 ∧ Q (.bl (standsB s o)) S
/-- an equal one ahead, or one that ends within -/
def needB (xs : List (List Int)) (k : Nat) : Bool := match xs[k]? with
  | none => false
  | some s => decide (s ∈ xs.take k) || xs.any fun o => standsB s o
def needF (xs : List (List Int)) : List Int := ((List.range xs.length).filter (needB xs)).map fun (k : Nat) => (k : Int)
def leftF (xs : List (List Int)) : List (List Int) := (List.range xs.length).filterMap fun k => if needB xs k = true then none else xs[k]?
def sp_needless_stops (c : Cl) : Ctr := fun ds S Q _ => ∃ i j xs, ds = [rows i j xs] ∧ xs.length ≤ 1000 ∧ (∀ s, s ∈ xs → s.length ≤ 1000) ∧ ∀ S', Ext S S' → Q (dT (needF xs)) S'
def sp__law_needless (c : Cl) : Ctr := fun ds S Q _ => ∃ xs, ds = [dRows xs] ∧ EndsOk xs ∧ ∀ S', Ext S S' → Q (dT (needF xs)) S'
def sp__law_left (c : Cl) : Ctr := fun ds S Q _ => ∃ xs, ds = [dRows xs] ∧ EndsOk xs ∧ ∀ S', Ext S S' → Q (dRows (leftF xs)) S'
def sp__law_told (c : Cl) : Ctr := fun ds S Q _ => ∃ xs, ds = [dRows xs] ∧ EndsOk xs ∧ ∀ S', Ext S S' → Q (.bl true) S'
/-! ### where a text stops -/
def standG (xs : List (List Int)) (text : List Int) : Nat → Nat → Bool × Int
  | 0, _ => (false, 0)
  | n + 1, i => if 0 < stopF xs (text.take (i + 1)) then (true, ((i + 1 : Nat) : Int) - (stopF xs (text.take (i + 1)) : Nat)) else standG xs text n (i + 1)
def standF (xs : List (List Int)) (text : List Int) : Bool × Int := standG xs text text.length 0
def dStand (st : Bool × Int) : D := .tup [.bl st.1, .int st.2]
def sp__law_stands (c : Cl) : Ctr := fun ds S Q _ => ∃ i xs text, ds = [dRows xs, dR i text] ∧ EndsOk xs ∧ text.length ≤ 1000 ∧ Q (dStand (standF xs text)) S
def partedB (xs ys : List (List Int)) (text : List Int) : Bool := decide (standF xs text ≠ standF ys text)
def sp__law_parted (c : Cl) : Ctr := fun ds S Q _ => ∃ i xs ys text, ds = [dRows xs, dRows ys, dR i text] ∧ EndsOk xs ∧ EndsOk ys ∧ text.length ≤ 1000 ∧ Q (.bl (partedB xs ys text)) S
def sp__law_short_texts (c : Cl) : Ctr := fun ds S Q _ => ∃ al o m, ds = [dL al, .int o, .int m] ∧ al.length ≤ 1000 ∧ ∀ ts : List (List Int), (∀ t, t ∈ ts → (t.length : Int) < m ∧ t.length ≤ 2) → ∀ S', Ext S S' → Q (.lst (ts.map dT)) S'
def sp__law_compared (c : Cl) : Ctr := fun ds S Q _ => ∃ al xs ys, ds = [dL al, dRows xs, dRows ys] ∧ (al ≠ [] ∧ al.length ≤ 3) ∧ EndsOk xs ∧ EndsOk ys ∧ ∀ S', Ext S S' → Q (.bl true) S'
def sp__law_left_out (c : Cl) : Ctr := fun ds S Q _ => ∃ p al xs, ds = [.ref p, dL al, dRows xs] ∧ IsHand S p ∧ (al ≠ [] ∧ al.length ≤ 3 ∧ LO al) ∧ EndsOk xs ∧ ∀ S', IsHand S' p → Q (.bl true) S'
def sp__law_closing (c : Cl) : Ctr := fun ds S Q _ => ds = [] ∧ ∀ S', Q (.bl true) S'
def sp_law (c : Cl) : Ctr := fun ds S Q _ => ∃ cells : List Int, ds = [.fro (cells.map D.int)] ∧ cells.length ≤ 63 ∧ ∀ S', Q (.bl true) S'
end K93
set_option Elab.async false
set_option linter.all false
set_option maxRecDepth 100000
set_option maxHeartbeats 4000000
namespace K93
open PySem PySem.Spec PyProof.Rows L2 DL
def N_stop_length_ : List Str := ["stops", "text", "most", "stop"]
/-- stop_length: slots 0 stops, 1 text, 2 most, 3 stop, -/
def w_stop_length (c : Cl) : WPs := (wSeq (wSet 2 (wC (.int 0)))
  (wSeq (wFor (wIt (wVar 0)) (gN 3) (wIf (wAnd (wTest (wChain oLt oLe (wVar 2) (wCB oLen (wCons (wVar 3) wNil)) (wCB oLen (wCons (wVar 1) wNil)))) (wTest (wBin oEq (wSl (wVar 1) (wP (wBin oSub (wCB oLen (wCons (wVar 1) wNil)) (wCB oLen (wCons (wVar 3) wNil)))) wNoP) (wVar 3)))) (wSet 2 (wCB oLen (wCons (wVar 3) wNil))) wNext))
  (wRet (wVar 2))))
def N_held_back_ : List Str := ["stops", "text", "most", "stop", "length"]
/-- held_back: slots 0 stops, 1 text, 2 most, 3 stop, 4 length, -/
def w_held_back (c : Cl) : WPs := (wSeq (wSet 1 (wCB oTuple (wCons (wVar 1) wNil)))
  (wSeq (wSet 2 (wC (.int 0)))
  (wSeq (wFor (wIt (wVar 0)) (gN 3) (wFor (wRg2 (wC (.int 1)) (wCB oMin2 (wCons (wCB oLen (wCons (wVar 3) wNil)) (wCons (wBin oAdd (wCB oLen (wCons (wVar 1) wNil)) (wC (.int 1))) wNil)))) (gN 4) (wIf (wAnd (wTest (wBin oGt (wVar 4) (wVar 2))) (wTest (wBin oEq (wSl (wVar 1) (wP (wBin oSub (wCB oLen (wCons (wVar 1) wNil)) (wVar 4))) wNoP) (wCB oTuple (wCons (wSl (wVar 3) wNoP (wP (wVar 4))) wNil))))) (wSet 2 (wVar 4)) wNext)))
  (wRet (wVar 2)))))
def N_Stopper_init_ : List Str := ["self", "stops", "stop"]
/-- Stopper.__init__: slots 0 self, 1 stops, 2 stop, -/
def w_Stopper_init (c : Cl) : WPs := (wSeq (wSetF c.Stopper N_Stopper 0 (wVar 0) (wCB oTuple (wCons (wLc (wIt (wVar 1)) (gN 2) wYes (wCB oTuple (wCons (wVar 2) wNil)) [2]) wNil)))
  (wSeq (wSetF c.Stopper N_Stopper 1 (wVar 0) (wTup wNil))
  (wSeq (wSetF c.Stopper N_Stopper 2 (wVar 0) (wC (.int 0)))
  (wSetF c.Stopper N_Stopper 3 (wVar 0) (wC (.bl false))))))
def N_Stopper_has_stopped_ : List Str := ["self"]
/-- Stopper.has_stopped: slots 0 self, -/
def w_Stopper_has_stopped (c : Cl) : WPs := (wRet (wFld c.Stopper N_Stopper 3 (wVar 0)))
def N_Stopper_letters_held_ : List Str := ["self"]
/-- Stopper.letters_held: slots 0 self, -/
def w_Stopper_letters_held (c : Cl) : WPs := (wRet (wFld c.Stopper N_Stopper 1 (wVar 0)))
def N_Stopper_feed_ : List Str := ["self", "letter", "text", "taken", "keep"]
/-- Stopper.feed: slots 0 self, 1 letter, 2 text, 3 taken, 4 keep, -/
def w_Stopper_feed (c : Cl) : WPs := (wSeq (wIf (wTest (wFld c.Stopper N_Stopper 3 (wVar 0))) (wRet (wTup wNil)) wNext)
  (wSeq (wSet 2 (wBin oAdd (wFld c.Stopper N_Stopper 1 (wVar 0)) (wTup (wCons (wVar 1) wNil))))
  (wSeq (wSet 3 (wCall (sp_stop_length c) (wCons (wFld c.Stopper N_Stopper 0 (wVar 0)) (wCons (wVar 2) wNil))))
  (wSeq (wIf (wTest (wBin oGt (wVar 3) (wC (.int 0)))) (wSeq (wSetF c.Stopper N_Stopper 3 (wVar 0) (wC (.bl true)))
  (wSeq (wSetF c.Stopper N_Stopper 1 (wVar 0) (wTup wNil))
  (wSeq (wAugF c.Stopper N_Stopper 2 (oI0 fun i j => .int (i + j)) (wVar 0) (wBin oSub (wCB oLen (wCons (wVar 2) wNil)) (wVar 3)))
  (wRet (wSl (wVar 2) wNoP (wP (wBin oSub (wCB oLen (wCons (wVar 2) wNil)) (wVar 3)))))))) wNext)
  (wSeq (wSet 4 (wCall (sp_held_back c) (wCons (wFld c.Stopper N_Stopper 0 (wVar 0)) (wCons (wVar 2) wNil))))
  (wSeq (wSetF c.Stopper N_Stopper 1 (wVar 0) (wSl (wVar 2) (wP (wBin oSub (wCB oLen (wCons (wVar 2) wNil)) (wVar 4))) wNoP))
  (wSeq (wAugF c.Stopper N_Stopper 2 (oI0 fun i j => .int (i + j)) (wVar 0) (wBin oSub (wCB oLen (wCons (wVar 2) wNil)) (wVar 4)))
  (wRet (wSl (wVar 2) wNoP (wP (wBin oSub (wCB oLen (wCons (wVar 2) wNil)) (wVar 4))))))))))))
def N_Stopper_sent_in_all_ : List Str := ["self"]
/-- Stopper.sent_in_all: slots 0 self, -/
def w_Stopper_sent_in_all (c : Cl) : WPs := (wRet (wFld c.Stopper N_Stopper 2 (wVar 0)))
def N_Stopper_twin_ : List Str := ["self", "found"]
/-- Stopper.twin: slots 0 self, 1 found, -/
def w_Stopper_twin (c : Cl) : WPs := (wSeq (wSet 1 (wMake c.Stopper N_Stopper (sp_Stopper_init c) (wCons (wFld c.Stopper N_Stopper 0 (wVar 0)) wNil)))
  (wSeq (wSetF c.Stopper N_Stopper 1 (wVar 1) (wFld c.Stopper N_Stopper 1 (wVar 0)))
  (wSeq (wSetF c.Stopper N_Stopper 2 (wVar 1) (wFld c.Stopper N_Stopper 2 (wVar 0)))
  (wSeq (wSetF c.Stopper N_Stopper 3 (wVar 1) (wFld c.Stopper N_Stopper 3 (wVar 0)))
  (wRet (wVar 1))))))
def N_are_unlike_ : List Str := ["one", "other"]
/-- are_unlike: slots 0 one, 1 other, -/
def w_are_unlike (c : Cl) : WPs := (wSeq (wIf (wTest (wBin oNe (wMeth c.Stopper N_Stopper (sp_Stopper_has_stopped c) (wVar 0) wNil) (wMeth c.Stopper N_Stopper (sp_Stopper_has_stopped c) (wVar 1) wNil))) (wRet (wC (.bl true))) wNext)
  (wRet (wAndV (wMeth c.Stopper N_Stopper (sp_Stopper_has_stopped c) (wVar 0) wNil) (wBin oNe (wMeth c.Stopper N_Stopper (sp_Stopper_sent_in_all c) (wVar 0) wNil) (wMeth c.Stopper N_Stopper (sp_Stopper_sent_in_all c) (wVar 1) wNil)))))
def N_parting_text_ : List Str := ["stops", "other", "start", "known", "waiting", "at", "text", "pair", "letter", "behind", "key"]
/-- parting_text: slots 0 stops, 1 other, 2 start, 3 known, 4 waiting, 5 at, 6 text, 7 pair, 8 letter, 9 behind, 10 key, -/
def w_parting_text (c : Cl) : WPs := (wSeq (wSet 2 (wTup (wCons (wMake c.Stopper N_Stopper (sp_Stopper_init c) (wCons (wVar 0) wNil)) (wCons (wMake c.Stopper N_Stopper (sp_Stopper_init c) (wCons (wVar 1) wNil)) wNil))))
  (wSeq (wSet 3 (wDict1 (wTup (wCons (wTup wNil) (wCons (wTup wNil) wNil))) (wC (.bl true))))
  (wSeq (wSet 4 (wLstM (wCons (wTup (wCons (wTup wNil) (wCons (wVar 2) wNil))) wNil)))
  (wSeq (wSet 5 (wC (.int 0)))
  (wSeq (wWhile (wTest (wBin oLt (wVar 5) (wCB oLen (wCons (wVar 4) wNil)))) (wSeq (wAsgG (gT [(gN 6), (gN 7)]) (wBin oIx (wVar 4) (wVar 5)))
  (wSeq (wFor (wRg1 (wC (.int (12)))) (gN 8) (wSeq (wSet 9 (wTup (wCons (wMeth c.Stopper N_Stopper (sp_Stopper_twin c) (wBin oIx (wVar 7) (wC (.int 0))) wNil) (wCons (wMeth c.Stopper N_Stopper (sp_Stopper_twin c) (wBin oIx (wVar 7) (wC (.int 1))) wNil) wNil))))
  (wSeq (wDrop (wMeth c.Stopper N_Stopper (sp_Stopper_feed c) (wBin oIx (wVar 9) (wC (.int 0))) (wCons (wVar 8) wNil)))
  (wSeq (wDrop (wMeth c.Stopper N_Stopper (sp_Stopper_feed c) (wBin oIx (wVar 9) (wC (.int 1))) (wCons (wVar 8) wNil)))
  (wSeq (wIf (wTest (wCall (sp_are_unlike c) (wCons (wBin oIx (wVar 9) (wC (.int 0))) (wCons (wBin oIx (wVar 9) (wC (.int 1))) wNil)))) (wRet (wBin oAdd (wVar 6) (wTup (wCons (wVar 8) wNil)))) wNext)
  (wSeq (wSet 10 (wTup (wCons (wMeth c.Stopper N_Stopper (sp_Stopper_letters_held c) (wBin oIx (wVar 9) (wC (.int 0))) wNil) (wCons (wMeth c.Stopper N_Stopper (sp_Stopper_letters_held c) (wBin oIx (wVar 9) (wC (.int 1))) wNil) wNil))))
  (wIf (wAnd (wNot (wTest (wMeth c.Stopper N_Stopper (sp_Stopper_has_stopped c) (wBin oIx (wVar 9) (wC (.int 0))) wNil))) (wTest (wBin (oInN true) (wVar 10) (wVar 3)))) (wSeq (wSetN (wVar 3) (wVar 10) (wC (.bl true)))
  (wDrop (wMt oAppend (wVar 4) (wCons (wTup (wCons (wBin oAdd (wVar 6) (wTup (wCons (wVar 8) wNil))) (wCons (wVar 9) wNil))) wNil)))) wNext)))))))
  (wAug 5 (oI0 fun i j => .int (i + j)) (wC (.int 1))))))
  (wRet (wC .non)))))))
def N_stands_ahead_of_end_ : List Str := ["stop", "other", "many", "at"]
/-- stands_ahead_of_end: slots 0 stop, 1 other, 2 many, 3 at, -/
def w_stands_ahead_of_end (c : Cl) : WPs := (wSeq (wSet 2 (wCB oLen (wCons (wVar 1) wNil)))
  (wRet (wCB oAny (wCons (wLc (wRg1 (wBin oSub (wCB oLen (wCons (wVar 0) wNil)) (wVar 2))) (gN 3) wYes (wBin oEq (wCB oTuple (wCons (wSl (wVar 0) (wP (wVar 3)) (wP (wBin oAdd (wVar 3) (wVar 2)))) wNil)) (wCB oTuple (wCons (wVar 1) wNil))) [3]) wNil))))
def N_needless_stops_ : List Str := ["stops", "found", "place", "stop", "is_again", "ahead", "other"]
/-- needless_stops: slots 0 stops, 1 found, 2 place, 3 stop, 4 is_again, 5 ahead, 6 other, -/
def w_needless_stops (c : Cl) : WPs := (wSeq (wSet 1 (wLstM wNil))
  (wSeq (wFor (wEnum (wVar 0)) (gT [(gN 2), (gN 3)]) (wSeq (wSet 4 (wCB oAny (wCons (wLc (wIt (wSl (wVar 0) wNoP (wP (wVar 2)))) (gN 5) wYes (wBin oEq (wCB oTuple (wCons (wVar 3) wNil)) (wCB oTuple (wCons (wVar 5) wNil))) [5]) wNil)))
  (wIf (wOr (wTest (wVar 4)) (wTest (wCB oAny (wCons (wLc (wIt (wVar 0)) (gN 6) wYes (wCall (sp_stands_ahead_of_end c) (wCons (wVar 3) (wCons (wVar 6) wNil))) [6]) wNil)))) (wDrop (wMt oAppend (wVar 1) (wCons (wVar 2) wNil))) wNext)))
  (wRet (wCB oTuple (wCons (wVar 1) wNil)))))
def N__law_hand_ : List Str := ["script", "cell"]
/-- _law_hand: slots 0 script, 1 cell, -/
def w__law_hand (c : Cl) : WPs := (wRet (wLstM (wCons (wLc (wIt (wSl (wVar 0) wNoP (wP (wC (.int 63))))) (gN 1) wYes (wCB oInt (wCons (wVar 1) wNil)) [1]) (wCons (wC (.int 0)) (wCons (wC (.int 0)) (wCons (wC (.int 1311768467)) wNil))))))
def N__law_draw_ : List Str := ["hand", "many", "cell", "told"]
/-- _law_draw: slots 0 hand, 1 many, 2 cell, 3 told, -/
def w__law_draw (c : Cl) : WPs := (wSeq (wIf (wAnd (wTest (wBin oEq (wBin oIx (wVar 0) (wC (.int 2))) (wC (.int 0)))) (wTest (wBin oLt (wBin oIx (wVar 0) (wC (.int 1))) (wCB oLen (wCons (wBin oIx (wVar 0) (wC (.int 0))) wNil))))) (wSeq (wSet 2 (wBin oIx (wBin oIx (wVar 0) (wC (.int 0))) (wBin oIx (wVar 0) (wC (.int 1)))))
  (wSeq (wSetI (wVar 0) (wC (.int 1)) (wBin oAdd (wBin oIx (wVar 0) (wC (.int 1))) (wC (.int 1))))
  (wSeq (wIf (wTest (wBin oGe (wVar 2) (wBin oPow (wC (.int 10)) (wC (.int 18))))) (wSetI (wVar 0) (wC (.int 2)) (wBin oMod (wCB oInt (wCons (wVar 2) wNil)) (wBin oMul (wBin oPow (wC (.int 10)) (wC (.int 60))) (wBin oPow (wC (.int 10)) (wC (.int 60)))))) wNext)
  (wSetI (wVar 0) (wC (.int 3)) (wBin oMod (wBin oAdd (wBin oAdd (wBin oMul (wBin oIx (wVar 0) (wC (.int 3))) (wBin oIx (wVar 0) (wC (.int 3)))) (wBin oMod (wCB oInt (wCons (wVar 2) wNil)) (wC (.int 2305843009213693951)))) (wBin oIx (wVar 0) (wC (.int 1)))) (wC (.int 2305843009213693951))))))) wNext)
  (wSeq (wIf (wTest (wBin oGt (wBin oIx (wVar 0) (wC (.int 2))) (wC (.int 0)))) (wSeq (wSet 3 (wBin oMod (wCB oInt (wCons (wBin oIx (wVar 0) (wC (.int 2))) wNil)) (wVar 1)))
  (wSeq (wSetI (wVar 0) (wC (.int 2)) (wBin oDiv (wBin oIx (wVar 0) (wC (.int 2))) (wVar 1)))
  (wRet (wVar 3)))) wNext)
  (wSeq (wSetI (wVar 0) (wC (.int 3)) (wBin oMod (wBin oAdd (wBin oMul (wBin oIx (wVar 0) (wC (.int 3))) (wBin oIx (wVar 0) (wC (.int 3)))) (wC (.int 362436069))) (wC (.int 2305843009213693951))))
  (wRet (wBin oMod (wBin oDiv (wCB oInt (wCons (wBin oIx (wVar 0) (wC (.int 3))) wNil)) (wC (.int 1048576))) (wVar 1))))))
def N__law_same_ : List Str := ["told", "due", "k"]
/-- _law_same: slots 0 told, 1 due, 2 k, -/
def w__law_same (c : Cl) (n : Nat) : WPs := (wSeq (wIf (wTest (wIsi "tuple" (wVar 1))) (wSeq (wIf (wOr (wNot (wTest (wIsi "tuple" (wVar 0)))) (wTest (wBin oNe (wCB oLen (wCons (wVar 0) wNil)) (wCB oLen (wCons (wVar 1) wNil))))) (wRet (wC (.bl false))) wNext)
  (wRet (wCB oAll (wCons (wLc (wRg1 (wCB oLen (wCons (wVar 1) wNil))) (gN 2) wYes (wCall (sp__law_same_n c n) (wCons (wBin oIx (wVar 0) (wVar 2)) (wCons (wBin oIx (wVar 1) (wVar 2)) wNil))) [2]) wNil)))) wNext)
  (wSeq (wIf (wTest (wBin oIsN (wVar 1) (wC .non))) (wRet (wBin oIsN (wVar 0) (wC .non))) wNext)
  (wSeq (wIf (wTest (wIsi "bool" (wVar 1))) (wRet (wAndV (wIsi "bool" (wVar 0)) (wBin oEq (wVar 0) (wVar 1)))) wNext)
  (wSeq (wIf (wTest (wIsi "str" (wVar 1))) (wRet (wAndV (wIsi "str" (wVar 0)) (wBin oEq (wVar 0) (wVar 1)))) wNext)
  (wRet (wAndV (wIsi "int" (wVar 0)) (wAndV (wNotV (wIsi "bool" (wVar 0))) (wBin oEq (wVar 0) (wVar 1)))))))))
def N__law_stopped_ : List Str := ["ends", "text", "best", "end"]
/-- _law_stopped: slots 0 ends, 1 text, 2 best, 3 end, -/
def w__law_stopped (c : Cl) : WPs := (wSeq (wSet 2 (wC (.int 0)))
  (wSeq (wFor (wIt (wVar 0)) (gN 3) (wIf (wAnd (wTest (wBin oLe (wCB oLen (wCons (wVar 3) wNil)) (wCB oLen (wCons (wVar 1) wNil)))) (wTest (wBin oEq (wCB oList (wCons (wVar 3) wNil)) (wCB oList (wCons (wSl (wVar 1) (wP (wBin oSub (wCB oLen (wCons (wVar 1) wNil)) (wCB oLen (wCons (wVar 3) wNil)))) wNoP) wNil))))) (wSet 2 (wCB oMax2 (wCons (wVar 2) (wCons (wCB oLen (wCons (wVar 3) wNil)) wNil)))) wNext))
  (wRet (wVar 2))))
def N__law_held_ : List Str := ["ends", "text", "best", "end", "many"]
/-- _law_held: slots 0 ends, 1 text, 2 best, 3 end, 4 many, -/
def w__law_held (c : Cl) : WPs := (wSeq (wSet 2 (wC (.int 0)))
  (wSeq (wFor (wIt (wVar 0)) (gN 3) (wFor (wRg2 (wC (.int 1)) (wCB oLen (wCons (wVar 3) wNil))) (gN 4) (wIf (wAnd (wTest (wBin oLe (wVar 4) (wCB oLen (wCons (wVar 1) wNil)))) (wTest (wBin oEq (wCB oList (wCons (wSl (wVar 3) wNoP (wP (wVar 4))) wNil)) (wCB oList (wCons (wSl (wVar 1) (wP (wBin oSub (wCB oLen (wCons (wVar 1) wNil)) (wVar 4))) wNoP) wNil))))) (wSet 2 (wCB oMax2 (wCons (wVar 2) (wCons (wVar 4) wNil)))) wNext)))
  (wRet (wVar 2))))
def N__law_alphabet_ : List Str := ["hand", "base", "stride", "k"]
/-- _law_alphabet: slots 0 hand, 1 base, 2 stride, 3 k, -/
def w__law_alphabet (c : Cl) : WPs := (wSeq (wSet 1 (wCall (sp__law_draw c) (wCons (wVar 0) (wCons (wC (.int 12)) wNil))))
  (wSeq (wSet 2 (wBin oIx (wTup (wCons (wC (.int 1)) (wCons (wC (.int 5)) (wCons (wC (.int 7)) (wCons (wC (.int 11)) wNil))))) (wCall (sp__law_draw c) (wCons (wVar 0) (wCons (wC (.int 4)) wNil)))))
  (wRet (wLc (wRg1 (wBin oAdd (wC (.int 1)) (wCall (sp__law_draw c) (wCons (wVar 0) (wCons (wC (.int 3)) wNil))))) (gN 3) wYes (wBin oMod (wCB oInt (wCons (wBin oAdd (wVar 1) (wBin oMul (wVar 3) (wVar 2))) wNil)) (wC (.int 12))) [3]))))
def N__law_row_ : List Str := ["hand", "alphabet", "least", "more", "k"]
/-- _law_row: slots 0 hand, 1 alphabet, 2 least, 3 more, 4 k, -/
def w__law_row (c : Cl) : WPs := (wRet (wLc (wRg1 (wBin oAdd (wVar 2) (wCall (sp__law_draw c) (wCons (wVar 0) (wCons (wBin oAdd (wVar 3) (wC (.int 1))) wNil))))) (gN 4) wYes (wBin oIx (wVar 1) (wCall (sp__law_draw c) (wCons (wVar 0) (wCons (wCB oLen (wCons (wVar 1) wNil)) wNil)))) [4]))
def N__law_ends_ : List Str := ["hand", "alphabet", "most", "ends", "k", "end", "way", "elder"]
/-- _law_ends: slots 0 hand, 1 alphabet, 2 most, 3 ends, 4 k, 5 end, 6 way, 7 elder, -/
def w__law_ends (c : Cl) : WPs := (wSeq (wSet 3 (wLstM wNil))
  (wSeq (wFor (wRg1 (wCall (sp__law_draw c) (wCons (wVar 0) (wCons (wBin oAdd (wVar 2) (wC (.int 1))) wNil)))) (gN 4) (wSeq (wSet 5 (wCall (sp__law_row c) (wCons (wVar 0) (wCons (wVar 1) (wCons (wC (.int 1)) (wCons (wC (.int 3)) wNil))))))
  (wSeq (wSet 6 (wCall (sp__law_draw c) (wCons (wVar 0) (wCons (wC (.int 6)) wNil))))
  (wSeq (wIf (wTest (wBin oGt (wCB oLen (wCons (wVar 3) wNil)) (wC (.int 0)))) (wSeq (wSet 7 (wBin oIx (wVar 3) (wCall (sp__law_draw c) (wCons (wVar 0) (wCons (wCB oLen (wCons (wVar 3) wNil)) wNil)))))
  (wIf (wTest (wBin oEq (wVar 6) (wC (.int 1)))) (wSet 5 (wBin oAdd (wVar 7) (wVar 5))) (wIf (wTest (wBin oEq (wVar 6) (wC (.int 2)))) (wSet 5 (wBin oAdd (wBin oAdd (wSl (wVar 5) wNoP (wP (wC (.int 1)))) (wVar 7)) (wSl (wVar 5) (wP (wC (.int 1))) wNoP))) (wIf (wTest (wBin oEq (wVar 6) (wC (.int 3)))) (wSet 5 (wSl (wVar 7) (wP (wCall (sp__law_draw c) (wCons (wVar 0) (wCons (wCB oLen (wCons (wVar 7) wNil)) wNil)))) wNoP)) (wIf (wTest (wBin oEq (wVar 6) (wC (.int 4)))) (wSet 5 (wBin oAdd (wSl (wVar 7) wNoP (wP (wUn oNeg (wC (.int 1))))) (wSl (wVar 5) wNoP (wP (wC (.int 1)))))) wNext))))) wNext)
  (wDrop (wMt oAppend (wVar 3) (wCons (wSl (wVar 5) wNoP (wP (wC (.int 4)))) wNil)))))))
  (wRet (wFrz (wVar 3)))))
def N__law_changed_ : List Str := ["hand", "ends", "alphabet", "fresh", "way", "letter", "at", "end"]
/-- _law_changed: slots 0 hand, 1 ends, 2 alphabet, 3 fresh, 4 way, 5 letter, 6 at, 7 end, -/
def w__law_changed (c : Cl) : WPs := (wSeq (wSet 3 (wLcM (wIt (wVar 1)) (gN 7) wYes (wCB oList (wCons (wVar 7) wNil)) [7]))
  (wSeq (wSet 4 (wCall (sp__law_draw c) (wCons (wVar 0) (wCons (wC (.int 4)) wNil))))
  (wSeq (wSet 5 (wBin oIx (wVar 2) (wCall (sp__law_draw c) (wCons (wVar 0) (wCons (wCB oLen (wCons (wVar 2) wNil)) wNil)))))
  (wSeq (wIf (wTest (wBin oEq (wCB oLen (wCons (wVar 3) wNil)) (wC (.int 0)))) (wRet (wLst (wCons (wLst (wCons (wVar 5) wNil)) wNil))) wNext)
  (wSeq (wSet 6 (wCall (sp__law_draw c) (wCons (wVar 0) (wCons (wCB oLen (wCons (wVar 3) wNil)) wNil))))
  (wSeq (wIf (wTest (wBin oEq (wVar 4) (wC (.int 0)))) (wRet (wBin oAdd (wSl (wVar 3) wNoP (wP (wVar 6))) (wSl (wVar 3) (wP (wBin oAdd (wVar 6) (wC (.int 1)))) wNoP))) wNext)
  (wSeq (wIf (wAnd (wTest (wBin oEq (wVar 4) (wC (.int 1)))) (wTest (wBin oLt (wCB oLen (wCons (wVar 3) wNil)) (wC (.int 6))))) (wRet (wBin oAdd (wVar 3) (wLst (wCons (wBin oAdd (wLst (wCons (wVar 5) wNil)) (wSl (wBin oIx (wVar 3) (wVar 6)) wNoP (wP (wCall (sp__law_draw c) (wCons (wVar 0) (wCons (wC (.int 4)) wNil)))))) wNil)))) wNext)
  (wSeq (wIf (wTest (wBin oEq (wVar 4) (wC (.int 2)))) (wSetI (wVar 3) (wVar 6) (wBin oAdd (wSl (wBin oIx (wVar 3) (wVar 6)) wNoP (wP (wUn oNeg (wC (.int 1))))) (wLst (wCons (wVar 5) wNil)))) (wSetI (wVar 3) (wVar 6) (wSl (wBin oAdd (wBin oIx (wVar 3) (wVar 6)) (wLst (wCons (wVar 5) wNil))) wNoP (wP (wC (.int 4))))))
  (wRet (wFrz (wVar 3)))))))))))
def N__law_mixed_up_ : List Str := ["hand", "ends", "left", "fresh", "k", "end"]
/-- _law_mixed_up: slots 0 hand, 1 ends, 2 left, 3 fresh, 4 k, 5 end, -/
def w__law_mixed_up (c : Cl) : WPs := (wSeq (wSet 2 (wLcM (wIt (wVar 1)) (gN 5) wYes (wCB oList (wCons (wVar 5) wNil)) [5]))
  (wSeq (wSet 3 (wLstM wNil))
  (wSeq (wFor (wRg1 (wCB oLen (wCons (wVar 1) wNil))) (gN 4) (wDrop (wMt oAppend (wVar 3) (wCons (wMt oPopAt (wVar 2) (wCons (wCall (sp__law_draw c) (wCons (wVar 0) (wCons (wCB oLen (wCons (wVar 2) wNil)) wNil))) wNil)) wNil))))
  (wRet (wFrz (wVar 3))))))
def N__law_needless_ : List Str := ["ends", "places", "k", "spare", "other", "at"]
/-- _law_needless: slots 0 ends, 1 places, 2 k, 3 spare, 4 other, 5 at, -/
def w__law_needless (c : Cl) : WPs := (wSeq (wSet 1 (wLstM wNil))
  (wSeq (wFor (wRg1 (wCB oLen (wCons (wVar 0) wNil))) (gN 2) (wSeq (wSet 3 (wBin (oInD false) (wBin oIx (wVar 0) (wVar 2)) (wSl (wVar 0) wNoP (wP (wVar 2)))))
  (wSeq (wFor (wIt (wVar 0)) (gN 4) (wFor (wRg1 (wBin oSub (wCB oLen (wCons (wBin oIx (wVar 0) (wVar 2)) wNil)) (wCB oLen (wCons (wVar 4) wNil)))) (gN 5) (wSet 3 (wOrV (wVar 3) (wBin oEq (wSl (wBin oIx (wVar 0) (wVar 2)) (wP (wVar 5)) (wP (wBin oAdd (wVar 5) (wCB oLen (wCons (wVar 4) wNil))))) (wVar 4))))))
  (wIf (wTest (wVar 3)) (wDrop (wMt oAppend (wVar 1) (wCons (wVar 2) wNil))) wNext))))
  (wRet (wCB oTuple (wCons (wVar 1) wNil)))))
def N__law_fed_ : List Str := ["ends", "text", "handed", "stopper", "rows", "end", "letter"]
/-- _law_fed: slots 0 ends, 1 text, 2 handed, 3 stopper, 4 rows, 5 end, 6 letter, -/
def w__law_fed (c : Cl) : WPs := (wSeq (wSet 2 (wLcM (wIt (wVar 0)) (gN 5) wYes (wCB oListM (wCons (wVar 5) wNil)) [5]))
  (wSeq (wSet 3 (wMake c.Stopper N_Stopper (sp_Stopper_init c) (wCons (wVar 2) wNil)))
  (wSeq (wDrop (wMt oAppend (wVar 2) (wCons (wLstM (wCons (wC (.int 0)) wNil)) wNil)))
  (wSeq (wDrop (wMt oAppend (wBin oIx (wVar 2) (wC (.int 0))) (wCons (wC (.int 0)) wNil)))
  (wSeq (wSet 4 (wLc (wIt (wVar 1)) (gN 6) wYes (wMeth c.Stopper N_Stopper (sp_Stopper_feed c) (wVar 3) (wCons (wVar 6) wNil)) [6]))
  (wRet (wTup (wCons (wCB oTuple (wCons (wVar 4) wNil)) (wCons (wMeth c.Stopper N_Stopper (sp_Stopper_has_stopped c) (wVar 3) wNil) (wCons (wMeth c.Stopper N_Stopper (sp_Stopper_letters_held c) (wVar 3) wNil) wNil))))))))))
def N__law_due_ : List Str := ["ends", "text", "rows", "sent", "stopped", "k", "total", "ahead", "cut"]
/-- _law_due: slots 0 ends, 1 text, 2 rows, 3 sent, 4 stopped, 5 k, 6 total, 7 ahead, 8 cut, -/
def w__law_due (c : Cl) : WPs := (wSeq (wSet 2 (wLstM wNil))
  (wSeq (wSet 3 (wC (.int 0)))
  (wSeq (wSet 4 (wC (.bl false)))
  (wSeq (wFor (wRg1 (wCB oLen (wCons (wVar 1) wNil))) (gN 5) (wSeq (wSet 6 (wVar 3))
  (wSeq (wIf (wNot (wTest (wVar 4))) (wSeq (wSet 7 (wSl (wVar 1) wNoP (wP (wBin oAdd (wVar 5) (wC (.int 1))))))
  (wSeq (wSet 8 (wCall (sp__law_stopped c) (wCons (wVar 0) (wCons (wVar 7) wNil))))
  (wSeq (wSet 4 (wBin oGt (wVar 8) (wC (.int 0))))
  (wSet 6 (wBin oSub (wBin oAdd (wVar 5) (wC (.int 1))) (wIfE (wTest (wVar 4)) (wVar 8) (wCall (sp__law_held c) (wCons (wVar 0) (wCons (wVar 7) wNil))))))))) wNext)
  (wSeq (wDrop (wMt oAppend (wVar 2) (wCons (wCB oTuple (wCons (wSl (wVar 1) (wP (wVar 3)) (wP (wVar 6))) wNil)) wNil)))
  (wSet 3 (wVar 6))))))
  (wRet (wTup (wCons (wCB oTuple (wCons (wVar 2) wNil)) (wCons (wVar 4) (wCons (wIfE (wTest (wVar 4)) (wTup wNil) (wCB oTuple (wCons (wSl (wVar 1) (wP (wVar 3)) wNoP) wNil))) wNil)))))))))
def N__law_stands_ : List Str := ["ends", "text", "k", "cut"]
/-- _law_stands: slots 0 ends, 1 text, 2 k, 3 cut, -/
def w__law_stands (c : Cl) : WPs := (wSeq (wFor (wRg2 (wC (.int 1)) (wBin oAdd (wCB oLen (wCons (wVar 1) wNil)) (wC (.int 1)))) (gN 2) (wSeq (wSet 3 (wCall (sp__law_stopped c) (wCons (wVar 0) (wCons (wSl (wVar 1) wNoP (wP (wVar 2))) wNil))))
  (wIf (wTest (wBin oGt (wVar 3) (wC (.int 0)))) (wRet (wTup (wCons (wC (.bl true)) (wCons (wBin oSub (wVar 2) (wVar 3)) wNil)))) wNext)))
  (wRet (wTup (wCons (wC (.bl false)) (wCons (wC (.int 0)) wNil)))))
def N__law_parted_ : List Str := ["ends", "others", "text"]
/-- _law_parted: slots 0 ends, 1 others, 2 text, -/
def w__law_parted (c : Cl) : WPs := (wRet (wBin oNe (wCall (sp__law_stands c) (wCons (wVar 0) (wCons (wVar 2) wNil))) (wCall (sp__law_stands c) (wCons (wVar 1) (wCons (wVar 2) wNil)))))
def N__law_left_ : List Str := ["ends", "places", "k"]
/-- _law_left: slots 0 ends, 1 places, 2 k, -/
def w__law_left (c : Cl) : WPs := (wSeq (wSet 1 (wCall (sp__law_needless c) (wCons (wVar 0) wNil)))
  (wRet (wLc (wRg1 (wCB oLen (wCons (wVar 0) wNil))) (gN 2) (wTest (wBin (oInD true) (wVar 2) (wVar 1))) (wBin oIx (wVar 0) (wVar 2)) [2])))
def N__law_told_ : List Str := ["ends", "due", "handed", "told", "end"]
/-- _law_told: slots 0 ends, 1 due, 2 handed, 3 told, 4 end, -/
def w__law_told (c : Cl) : WPs := (wSeq (wSet 1 (wCall (sp__law_needless c) (wCons (wVar 0) wNil)))
  (wSeq (wSet 2 (wLc (wIt (wVar 0)) (gN 4) wYes (wCB oList (wCons (wVar 4) wNil)) [4]))
  (wSeq (wSet 3 (wCall (sp_needless_stops c) (wCons (wVar 2) wNil)))
  (wRet (wAndV (wCall (sp__law_same c) (wCons (wVar 3) (wCons (wVar 1) wNil))) (wAndV (wBin oEq (wVar 2) (wVar 0)) (wCall (sp__law_same c) (wCons (wCall (sp_needless_stops c) (wCons (wCB oTuple (wCons (wVar 2) wNil)) wNil)) (wCons (wVar 1) wNil)))))))))
def N__law_short_texts_ : List Str := ["alphabet", "outside", "many", "texts", "one", "two"]
/-- _law_short_texts: slots 0 alphabet, 1 outside, 2 many, 3 texts, 4 one, 5 two, -/
def w__law_short_texts (c : Cl) : WPs := (wSeq (wSet 3 (wLstM wNil))
  (wSeq (wIf (wTest (wBin oGt (wVar 2) (wC (.int 1)))) (wDrop (wMt oExtend (wVar 3) (wCons (wLc (wIt (wBin oAdd (wVar 0) (wLst (wCons (wVar 1) wNil)))) (gN 4) wYes (wTup (wCons (wVar 4) wNil)) [4]) wNil))) wNext)
  (wSeq (wIf (wTest (wBin oGt (wVar 2) (wC (.int 2)))) (wFor (wIt (wBin oAdd (wVar 0) (wLst (wCons (wVar 1) wNil)))) (gN 4) (wDrop (wMt oExtend (wVar 3) (wCons (wLc (wIt (wBin oAdd (wVar 0) (wLst (wCons (wVar 1) wNil)))) (gN 5) wYes (wTup (wCons (wVar 4) (wCons (wVar 5) wNil))) [5]) wNil)))) wNext)
  (wRet (wFrz (wVar 3))))))
def N__law_compared_ : List Str := ["alphabet", "ends", "others", "left", "left_too", "unlike", "handed", "told", "due", "row", "k", "outside", "text", "end", "letter"]
/-- _law_compared: slots 0 alphabet, 1 ends, 2 others, 3 left, 4 left_too, 5 unlike, 6 handed, 7 told, 8 due, 9 row, 10 k, 11 outside, 12 text, 13 end, 14 letter, -/
def w__law_compared (c : Cl) : WPs := (wSeq (wSet 3 (wCall (sp__law_left c) (wCons (wVar 1) wNil)))
  (wSeq (wSet 4 (wCall (sp__law_left c) (wCons (wVar 2) wNil)))
  (wSeq (wSet 5 (wBin oAdd (wLc (wIt (wVar 3)) (gN 9) (wTest (wBin (oInD true) (wVar 9) (wVar 4))) (wVar 9) [9]) (wLc (wIt (wVar 4)) (gN 9) (wTest (wBin (oInD true) (wVar 9) (wVar 3))) (wVar 9) [9])))
  (wSeq (wSet 6 (wLc (wIt (wVar 1)) (gN 13) wYes (wCB oList (wCons (wVar 13) wNil)) [13]))
  (wSeq (wSet 7 (wCall (sp_parting_text c) (wCons (wVar 6) (wCons (wLc (wIt (wVar 2)) (gN 13) wYes (wCB oTuple (wCons (wVar 13) wNil)) [13]) wNil))))
  (wSeq (wIf (wTest (wBin oNe (wVar 6) (wVar 1))) (wRet (wC (.bl false))) wNext)
  (wSeq (wIf (wTest (wBin oEq (wCB oLen (wCons (wVar 5) wNil)) (wC (.int 0)))) (wRet (wBin oIsN (wVar 7) (wC .non))) wNext)
  (wSeq (wSet 8 (wBin oIx (wVar 5) (wC (.int 0))))
  (wSeq (wFor (wIt (wVar 5)) (gN 9) (wIf (wOr (wTest (wBin oLt (wCB oLen (wCons (wVar 9) wNil)) (wCB oLen (wCons (wVar 8) wNil)))) (wAnd (wTest (wBin oEq (wCB oLen (wCons (wVar 9) wNil)) (wCB oLen (wCons (wVar 8) wNil)))) (wTest (wBin oLtD (wVar 9) (wVar 8))))) (wSet 8 (wVar 9)) wNext))
  (wSeq (wIf (wOr (wNot (wTest (wCall (sp__law_same c) (wCons (wVar 7) (wCons (wCB oTuple (wCons (wVar 8) wNil)) wNil))))) (wNot (wTest (wCall (sp__law_parted c) (wCons (wVar 1) (wCons (wVar 2) (wCons (wVar 7) wNil))))))) (wRet (wC (.bl false))) wNext)
  (wSeq (wFor (wRg1 (wCB oLen (wCons (wVar 7) wNil))) (gN 10) (wIf (wTest (wCall (sp__law_parted c) (wCons (wVar 1) (wCons (wVar 2) (wCons (wSl (wVar 7) wNoP (wP (wVar 10))) wNil))))) (wRet (wC (.bl false))) wNext))
  (wSeq (wSet 11 (wCB oMinL (wCons (wLc (wRg1 (wC (.int 12))) (gN 14) (wTest (wBin (oInD true) (wVar 14) (wVar 0))) (wVar 14) [14]) wNil)))
  (wSeq (wFor (wIt (wCall (sp__law_short_texts c) (wCons (wVar 0) (wCons (wVar 11) (wCons (wCB oLen (wCons (wVar 7) wNil)) wNil))))) (gN 12) (wIf (wTest (wCall (sp__law_parted c) (wCons (wVar 1) (wCons (wVar 2) (wCons (wVar 12) wNil))))) (wRet (wC (.bl false))) wNext))
  (wRet (wC (.bl true))))))))))))))))
def N__law_left_out_ : List Str := ["hand", "alphabet", "ends", "places", "rest", "text", "k", "without", "end"]
/-- _law_left_out: slots 0 hand, 1 alphabet, 2 ends, 3 places, 4 rest, 5 text, 6 k, 7 without, 8 end, -/
def w__law_left_out (c : Cl) : WPs := (wSeq (wSet 3 (wCall (sp__law_needless c) (wCons (wVar 2) wNil)))
  (wSeq (wSet 4 (wCall (sp__law_left c) (wCons (wVar 2) wNil)))
  (wSeq (wIf (wTest (wBin oNotN (wCall (sp_parting_text c) (wCons (wLc (wIt (wVar 2)) (gN 8) wYes (wCB oList (wCons (wVar 8) wNil)) [8]) (wCons (wLc (wIt (wVar 4)) (gN 8) wYes (wCB oList (wCons (wVar 8) wNil)) [8]) wNil))) (wC .non))) (wRet (wC (.bl false))) wNext)
  (wSeq (wIf (wTest (wBin oNotN (wCall (sp_parting_text c) (wCons (wLc (wIt (wVar 4)) (gN 8) wYes (wCB oList (wCons (wVar 8) wNil)) [8]) (wCons (wLc (wIt (wVar 2)) (gN 8) wYes (wCB oList (wCons (wVar 8) wNil)) [8]) wNil))) (wC .non))) (wRet (wC (.bl false))) wNext)
  (wSeq (wSet 5 (wCall (sp__law_row c) (wCons (wVar 0) (wCons (wVar 1) (wCons (wC (.int 0)) (wCons (wC (.int 20)) wNil))))))
  (wSeq (wIf (wNot (wTest (wCall (sp__law_same c) (wCons (wCall (sp__law_fed c) (wCons (wVar 2) (wCons (wVar 5) wNil))) (wCons (wCall (sp__law_due c) (wCons (wVar 2) (wCons (wVar 5) wNil))) wNil))))) (wRet (wC (.bl false))) wNext)
  (wSeq (wIf (wNot (wTest (wCall (sp__law_same c) (wCons (wCall (sp__law_fed c) (wCons (wVar 4) (wCons (wVar 5) wNil))) (wCons (wCall (sp__law_due c) (wCons (wVar 4) (wCons (wVar 5) wNil))) wNil))))) (wRet (wC (.bl false))) wNext)
  (wSeq (wIf (wTest (wBin oNe (wCall (sp__law_stands c) (wCons (wVar 2) (wCons (wVar 5) wNil))) (wCall (sp__law_stands c) (wCons (wVar 4) (wCons (wVar 5) wNil))))) (wRet (wC (.bl false))) wNext)
  (wSeq (wFor (wRg1 (wCB oLen (wCons (wVar 2) wNil))) (gN 6) (wIf (wAnd (wTest (wBin (oInD true) (wVar 6) (wVar 3))) (wTest (wBin oEq (wCall (sp__law_draw c) (wCons (wVar 0) (wCons (wC (.int 2)) wNil))) (wC (.int 0))))) (wSeq (wSet 7 (wLc (wIt (wVar 2)) (gN 8) (wTest (wBin oNe (wVar 8) (wBin oIx (wVar 2) (wVar 6)))) (wVar 8) [8]))
  (wIf (wNot (wTest (wCall (sp__law_compared c) (wCons (wVar 1) (wCons (wVar 2) (wCons (wVar 7) wNil)))))) (wRet (wC (.bl false))) wNext)) wNext))
  (wRet (wC (.bl true))))))))))))
def N__law_closing_ : List Str := ["ends", "first", "told", "due"]
/-- _law_closing: slots 0 ends, 1 first, 2 told, 3 due, -/
def w__law_closing (c : Cl) : WPs := (wSeq (wSet 0 (wTup (wCons (wTup (wCons (wC (.int 1)) (wCons (wC (.int 2)) wNil))) (wCons (wTup (wCons (wC (.int 3)) (wCons (wC (.int 1)) (wCons (wC (.int 2)) wNil)))) (wCons (wTup (wCons (wC (.int 1)) (wCons (wC (.int 2)) (wCons (wC (.int 3)) wNil)))) (wCons (wTup (wCons (wC (.int 0)) (wCons (wC (.int 1)) (wCons (wC (.int 2)) (wCons (wC (.int 0)) wNil))))) (wCons (wTup (wCons (wC (.int 1)) (wCons (wC (.int 2)) wNil))) (wCons (wTup (wCons (wC (.int 2)) (wCons (wC (.int 1)) (wCons (wC (.int 1)) (wCons (wC (.int 2)) wNil))))) (wCons (wTup (wCons (wC (.int 2)) wNil)) wNil)))))))))
  (wSeq (wSet 1 (wSl (wVar 0) wNoP (wP (wC (.int 6)))))
  (wSeq (wSet 2 (wLstM (wCons (wCall (sp_needless_stops c) (wCons (wVar 1) wNil)) (wCons (wCall (sp_needless_stops c) (wCons (wSl (wVar 0) (wP (wC (.int 1))) wNoP) wNil)) (wCons (wCall (sp_needless_stops c) (wCons (wTup (wCons (wTup (wCons (wC (.int 7)) wNil)) (wCons (wTup (wCons (wC (.int 7)) wNil)) wNil))) wNil)) (wCons (wCall (sp_needless_stops c) (wCons (wTup wNil) wNil)) wNil))))))
  (wSeq (wDrop (wMt oAppend (wVar 2) (wCons (wCall (sp_needless_stops c) (wCons (wTup (wCons (wTup (wCons (wC (.int 5)) (wCons (wC (.int 5)) wNil))) (wCons (wTup (wCons (wC (.int 5)) (wCons (wC (.int 5)) wNil))) (wCons (wTup (wCons (wC (.int 1)) wNil)) (wCons (wTup (wCons (wC (.int 5)) (wCons (wC (.int 5)) wNil))) wNil))))) wNil)) wNil)))
  (wSeq (wDrop (wMt oExtend (wVar 2) (wCons (wLst (wCons (wCall (sp_parting_text c) (wCons (wVar 1) (wCons (wTup (wCons (wBin oIx (wVar 1) (wC (.int 0))) (wCons (wBin oIx (wVar 1) (wC (.int 1))) (wCons (wBin oIx (wVar 1) (wC (.int 5))) wNil)))) wNil))) (wCons (wCall (sp_parting_text c) (wCons (wVar 1) (wCons (wSl (wVar 1) wNoP (wP (wC (.int 1)))) wNil))) wNil))) wNil)))
  (wSeq (wDrop (wMt oExtend (wVar 2) (wCons (wLst (wCons (wCall (sp_parting_text c) (wCons (wVar 1) (wCons (wSl (wVar 1) (wP (wC (.int 1))) (wP (wC (.int 4)))) wNil))) (wCons (wCall (sp_parting_text c) (wCons (wTup (wCons (wTup (wCons (wC (.int 4)) wNil)) wNil)) (wCons (wTup (wCons (wTup (wCons (wC (.int 4)) wNil)) (wCons (wTup (wCons (wC (.int 4)) (wCons (wC (.int 4)) wNil))) wNil))) wNil))) (wCons (wCall (sp_parting_text c) (wCons (wTup wNil) (wCons (wTup (wCons (wTup (wCons (wC (.int 11)) wNil)) wNil)) wNil))) wNil)))) wNil)))
  (wSeq (wSet 3 (wLst (wCons (wTup (wCons (wC (.int 2)) (wCons (wC (.int 3)) (wCons (wC (.int 4)) wNil)))) (wCons (wTup (wCons (wC (.int 1)) (wCons (wC (.int 2)) (wCons (wC (.int 4)) wNil)))) (wCons (wTup (wCons (wC (.int 1)) wNil)) (wCons (wTup wNil) (wCons (wTup (wCons (wC (.int 1)) (wCons (wC (.int 3)) wNil))) (wCons (wC .non) (wCons (wTup (wCons (wC (.int 3)) (wCons (wC (.int 1)) (wCons (wC (.int 2)) wNil)))) (wCons (wTup (wCons (wC (.int 1)) (wCons (wC (.int 2)) wNil))) (wCons (wC .non) (wCons (wTup (wCons (wC (.int 11)) wNil)) wNil))))))))))))
  (wRet (wCall (sp__law_same c) (wCons (wCB oTuple (wCons (wVar 2) wNil)) (wCons (wCB oTuple (wCons (wVar 3) wNil)) wNil)))))))))))
def N_law_ : List Str := ["script", "hand", "alphabet", "ends", "others"]
/-- law: slots 0 script, 1 hand, 2 alphabet, 3 ends, 4 others, -/
def w_law (c : Cl) : WPs := (wSeq (wSet 1 (wCall (sp__law_hand c) (wCons (wVar 0) wNil)))
  (wSeq (wSet 2 (wCall (sp__law_alphabet c) (wCons (wVar 1) wNil)))
  (wSeq (wSet 3 (wCall (sp__law_ends c) (wCons (wVar 1) (wCons (wVar 2) (wCons (wC (.int 6)) wNil)))))
  (wSeq (wSet 4 (wCall (sp__law_changed c) (wCons (wVar 1) (wCons (wVar 3) (wCons (wVar 2) wNil)))))
  (wSeq (wIf (wOr (wNot (wTest (wCall (sp__law_told c) (wCons (wVar 3) wNil)))) (wNot (wTest (wCall (sp__law_told c) (wCons (wVar 4) wNil))))) (wRet (wC (.bl false))) wNext)
  (wSeq (wIf (wNot (wTest (wCall (sp__law_told c) (wCons (wBin oAdd (wBin oAdd (wSl (wVar 3) wNoP (wP (wC (.int 2)))) (wCall (sp__law_mixed_up c) (wCons (wVar 1) (wCons (wSl (wVar 3) wNoP (wP (wC (.int 2)))) wNil)))) (wSl (wVar 3) wNoP (wP (wC (.int 2))))) wNil)))) (wRet (wC (.bl false))) wNext)
  (wSeq (wIf (wOr (wNot (wTest (wCall (sp__law_compared c) (wCons (wVar 2) (wCons (wVar 3) (wCons (wVar 4) wNil)))))) (wNot (wTest (wCall (sp__law_compared c) (wCons (wVar 2) (wCons (wVar 4) (wCons (wCall (sp__law_mixed_up c) (wCons (wVar 1) (wCons (wVar 3) wNil))) wNil))))))) (wRet (wC (.bl false))) wNext)
  (wSeq (wIf (wNot (wTest (wCall (sp__law_compared c) (wCons (wVar 2) (wCons (wVar 3) (wCons (wCall (sp__law_mixed_up c) (wCons (wVar 1) (wCons (wVar 3) wNil))) wNil)))))) (wRet (wC (.bl false))) wNext)
  (wSeq (wIf (wOr (wNot (wTest (wCall (sp__law_left_out c) (wCons (wVar 1) (wCons (wVar 2) (wCons (wVar 3) wNil)))))) (wNot (wTest (wCall (sp__law_left_out c) (wCons (wVar 1) (wCons (wVar 2) (wCons (wVar 4) wNil))))))) (wRet (wC (.bl false))) wNext)
  (wRet (wAndV (wCall (sp__law_told c) (wCons (wVar 3) wNil)) (wCall (sp__law_closing c) wNil))))))))))))
end K93
set_option Elab.async false
set_option linter.all false
set_option maxRecDepth 100000
set_option maxHeartbeats 1000000
namespace K93
open PySem PySem.Spec PyProof.Rows L2 DL
/-! ### the plain law -/
/-- m is the greatest with P, 0 where none has it -/
def Best (P : Nat → Prop) (m : Nat) : Prop := (m = 0 ∨ P m) ∧ ∀ k, P k → k ≤ m
theorem Best.uniq {P : Nat → Prop} {m n : Nat} (a : Best P m) (b : Best P n) : m = n := by
  rcases a.1 with h | h <;> rcases b.1 with g | g
  · omega
  · have := a.2 _ g; omega
  · have := b.2 _ h; omega
  · have := a.2 _ g; have := b.2 _ h; omega
theorem Best.iff {P R : Nat → Prop} {m : Nat} (a : Best P m) (h : ∀ k, 0 < k → (P k ↔ R k)) : Best R m := by
  refine ⟨?_, fun k hk => ?_⟩
  · rcases a.1 with q | q
    · exact .inl q
    · by_cases z : m = 0
      · exact .inl z
      · exact .inr ((h m (by omega)).mp q)
  · by_cases z : k = 0
    · omega
    · exact a.2 k ((h k (by omega)).mpr hk)
theorem best0 {P : Nat → Prop} (h : ∀ k, 0 < k → ¬ P k) : Best P 0 := ⟨.inl rfl, fun k hk => by
  by_cases z : k = 0
  · omega
  · exact absurd hk (h k (by omega))⟩
theorem Best.yes {P R : Nat → Prop} {m n : Nat} (a : Best P m) (hb : m < n ∧ R n) (h1 : ∀ k, 0 < k → R k → P k ∨ k = n) : Best R n := by
  refine ⟨.inr hb.2, fun k hk => ?_⟩
  by_cases z : k = 0
  · omega
  · rcases h1 k (by omega) hk with q | q
    · have := a.2 k q; omega
    · omega
theorem Best.no {P R : Nat → Prop} {m n : Nat} (a : Best P m) (hb : ¬ (m < n ∧ R n)) (h1 : ∀ k, 0 < k → R k → P k ∨ k = n) (h2 : ∀ k, P k → R k) : Best R m := by
  refine ⟨?_, fun k hk => ?_⟩
  · rcases a.1 with q | q
    · exact .inl q
    · exact .inr (h2 m q)
  · by_cases z : k = 0
    · omega
    · rcases h1 k (by omega) hk with q | q
      · exact a.2 k q
      · subst q
        by_cases z : m < k
        · exact absurd ⟨z, hk⟩ hb
        · omega
theorem Best.max {P R : Nat → Prop} {m n : Nat} (a : Best P m) (hb : R n) (h1 : ∀ k, 0 < k → R k → P k ∨ k = n) (h2 : ∀ k, P k → R k) : Best R (max m n) := by
  by_cases z : m < n
  · rw [Nat.max_eq_right (by omega)]
    exact a.yes ⟨z, hb⟩ h1
  · rw [Nat.max_eq_left (by omega)]
    exact a.no (fun q => z q.1) h1 h2
/-- the lengths of the ends that end the text -/
def SP (stops : List (List Int)) (text : List Int) (k : Nat) : Prop := ∃ s, s ∈ stops ∧ s.length = k ∧ endsAt s text
def HP (stops : List (List Int)) (text : List Int) (k : Nat) : Prop := ∃ s, s ∈ stops ∧ begins s text k
theorem mem_take {α : Type} {xs : List α} {i : Nat} {x y : α} (h : xs[i]? = some x) : y ∈ xs.take (i + 1) ↔ y ∈ xs.take i ∨ y = x := by
  rw [List.take_add_one, h]; simp
theorem SP_take {stops : List (List Int)} {text : List Int} {i : Nat} {s : List Int} (h : stops[i]? = some s) (k : Nat) : SP (stops.take (i + 1)) text k ↔ SP (stops.take i) text k ∨ (k = s.length ∧ endsAt s text) := by
  constructor
  · rintro ⟨t, ht, e, q⟩
    rcases (mem_take h).mp ht with r | r
    · exact .inl ⟨t, r, e, q⟩
    · subst r; exact .inr ⟨e.symm, q⟩
  · rintro (⟨t, ht, e, q⟩ | ⟨e, q⟩)
    · exact ⟨t, (mem_take h).mpr (.inl ht), e, q⟩
    · exact ⟨s, (mem_take h).mpr (.inr rfl), e.symm, q⟩
theorem foldl_inv {α β : Type} (P : Nat → β → Prop) (f : β → α → β) : ∀ (xs ys : List α) (b : β) (h0 : P ys.length b) (hs : ∀ i x b, (ys ++ xs)[i]? = some x → P i b → P (i + 1) (f b x)), P (ys.length + xs.length) (xs.foldl f b)
  | [], ys, b, h0, hs => h0
  | x :: r, ys, b, h0, hs => by
    have := foldl_inv P f r (ys ++ [x]) (f b x) (by
      rw [List.length_append, List.length_singleton]
      exact hs ys.length x b (by simp) h0) (fun i y c hy hc => hs i y c (by simpa using hy) hc)
    have e : ys.length + (x :: r).length = (ys ++ [x]).length + r.length := by simp; omega
    rw [e]
    exact this
theorem foldl_inv0 {α β : Type} (P : Nat → β → Prop) (f : β → α → β) {xs : List α} {b : β} (h0 : P 0 b) (hs : ∀ i x b, xs[i]? = some x → P i b → P (i + 1) (f b x)) : P xs.length (xs.foldl f b) := by
  have := foldl_inv P f xs [] b h0 hs
  simpa using this
theorem best_stopF (stops : List (List Int)) (text : List Int) : Best (SP stops text) (stopF stops text) := by
  have := foldl_inv0 (fun i m => Best (SP (stops.take i) text) m) (fun m s => if m < s.length ∧ endsAt s text then s.length else m) (xs := stops) (b := 0)
    (best0 fun k _ ⟨s, h, _⟩ => by simp at h) (fun i s m hi hm => by
      have e := SP_take (text := text) hi
      by_cases h : m < s.length ∧ endsAt s text
      · rw [if_pos h]
        exact hm.yes ⟨h.1, (e _).mpr (.inr ⟨rfl, h.2⟩)⟩ fun k _ hk => ((e k).mp hk).imp id And.left
      · rw [if_neg h]
        by_cases q : endsAt s text
        · exact hm.no (n := s.length) (fun z => h ⟨z.1, q⟩) (fun k _ hk => ((e k).mp hk).imp id And.left) fun k hk => (e k).mpr (.inl hk)
        · exact hm.iff fun k _ => ⟨fun z => (e k).mpr (.inl z), fun z => ((e k).mp z).resolve_right fun y => q y.2⟩)
  rw [List.take_length] at this
  exact this
/-- .. the i first ends, and of the next one the lengths below j -/
def HPj (stops : List (List Int)) (text : List Int) (i : Nat) (s : List Int) (j k : Nat) : Prop := HP (stops.take i) text k ∨ (k < j ∧ begins s text k)
theorem HPj_full {stops : List (List Int)} {text : List Int} {i j : Nat} {s : List Int} (h : stops[i]? = some s) (hj : s.length ≤ j ∨ text.length < j) (k : Nat) : HPj stops text i s j k ↔ HP (stops.take (i + 1)) text k := by
  constructor
  · rintro (⟨t, ht, e⟩ | ⟨_, e⟩)
    · exact ⟨t, (mem_take h).mpr (.inl ht), e⟩
    · exact ⟨s, (mem_take h).mpr (.inr rfl), e⟩
  · rintro ⟨t, ht, e⟩
    rcases (mem_take h).mp ht with r | r
    · exact .inl ⟨t, r, e⟩
    · subst r
      refine .inr ⟨?_, e⟩
      have := e.2.1; have := e.2.2.1
      omega
theorem HPj_step {stops : List (List Int)} {text : List Int} {i j : Nat} {s : List Int} (k : Nat) : HPj stops text i s (j + 1) k ↔ HPj stops text i s j k ∨ (k = j ∧ begins s text j) := by
  constructor
  · rintro (h | ⟨h, g⟩)
    · exact .inl (.inl h)
    · by_cases z : k = j
      · subst z; exact .inr ⟨rfl, g⟩
      · exact .inl (.inr ⟨by omega, g⟩)
  · rintro ((h | ⟨h, g⟩) | ⟨h, g⟩)
    · exact .inl h
    · exact .inr ⟨by omega, g⟩
    · subst h; exact .inr ⟨by omega, g⟩
/-- one length looked at -/
theorem hp_next {stops : List (List Int)} {text : List Int} {i j m : Nat} {s : List Int} (hm : Best (HPj stops text i s j) m) : Best (HPj stops text i s (j + 1)) (if m < j ∧ begins s text j then j else m) := by
  have e := HPj_step (stops := stops) (text := text) (i := i) (j := j) (s := s)
  by_cases h : m < j ∧ begins s text j
  · rw [if_pos h]
    exact hm.yes ⟨h.1, (e _).mpr (.inr ⟨rfl, h.2⟩)⟩ fun k _ hk => ((e k).mp hk).imp id And.left
  · rw [if_neg h]
    by_cases q : begins s text j
    · exact hm.no (n := j) (fun z => h ⟨z.1, q⟩) (fun k _ hk => ((e k).mp hk).imp id And.left) fun k hk => (e k).mpr (.inl hk)
    · exact hm.iff fun k _ => ⟨fun z => (e k).mpr (.inl z), fun z => ((e k).mp z).resolve_right fun y => q y.2⟩
theorem HPj_0 {stops : List (List Int)} {text : List Int} {i j : Nat} {s : List Int} (hj : j ≤ 1) (k : Nat) : HPj stops text i s j k ↔ HP (stops.take i) text k := by
  constructor
  · rintro (h | ⟨h, g⟩)
    · exact h
    · have := g.1; omega
  · exact .inl
theorem hp_first {stops : List (List Int)} {text : List Int} {i m j : Nat} {s : List Int} (hm : Best (HP (stops.take i) text) m) (hj : j ≤ 1) : Best (HPj stops text i s j) m := hm.iff fun k _ => (HPj_0 hj k).symm
theorem hp_last {stops : List (List Int)} {text : List Int} {i m j : Nat} {s : List Int} (h : stops[i]? = some s) (hj : s.length ≤ j ∨ text.length < j) (hm : Best (HPj stops text i s j) m) : Best (HP (stops.take (i + 1)) text) m := hm.iff fun k _ => HPj_full h hj k
theorem best_none {stops : List (List Int)} {text : List Int} : Best (HP (stops.take 0) text) 0 := best0 fun k _ ⟨s, h, _⟩ => by simp at h
theorem best_noneS {stops : List (List Int)} {text : List Int} : Best (SP (stops.take 0) text) 0 := best0 fun k _ ⟨s, h, _⟩ => by simp at h
theorem best_heldF (stops : List (List Int)) (text : List Int) : Best (HP stops text) (heldF stops text) := by
  have := foldl_inv0 (fun i m => Best (HP (stops.take i) text) m) (fun m s => (List.range s.length).foldl (fun m k => if m < k ∧ begins s text k then k else m) m) (xs := stops) (b := 0)
    best_none (fun i s m hi hm => by
      have := foldl_inv0 (fun j m => Best (HPj stops text i s j) m) (fun m k => if m < k ∧ begins s text k then k else m) (xs := List.range s.length) (b := m) (hp_first hm (by omega)) (fun j x m hj hm => by
        have : x = j := by
          rw [List.getElem?_range (by have := lt_of_some hj; simpa using this)] at hj
          exact (Option.some.inj hj).symm
        subst this
        exact hp_next hm)
      rw [List.length_range] at this
      exact hp_last hi (.inl (Nat.le_refl _)) this)
  rw [List.take_length] at this
  exact this
theorem stop_next {stops : List (List Int)} {text : List Int} {i m : Nat} {s : List Int} (hi : stops[i]? = some s) (hm : Best (SP (stops.take i) text) m) : Best (SP (stops.take (i + 1)) text) (if m < s.length ∧ endsAt s text then s.length else m) := by
  have e := SP_take (text := text) hi
  by_cases h : m < s.length ∧ endsAt s text
  · rw [if_pos h]
    exact hm.yes ⟨h.1, (e _).mpr (.inr ⟨rfl, h.2⟩)⟩ fun k _ hk => ((e k).mp hk).imp id And.left
  · rw [if_neg h]
    by_cases q : endsAt s text
    · exact hm.no (n := s.length) (fun z => h ⟨z.1, q⟩) (fun k _ hk => ((e k).mp hk).imp id And.left) fun k hk => (e k).mpr (.inl hk)
    · exact hm.iff fun k _ => ⟨fun z => (e k).mpr (.inl z), fun z => ((e k).mp z).resolve_right fun y => q y.2⟩
/-! ### what is held is all that counts -/
theorem heldF_le (stops : List (List Int)) (text : List Int) : heldF stops text ≤ text.length := by
  rcases (best_heldF stops text).1 with h | ⟨s, _, h⟩
  · omega
  · exact h.2.2.1
theorem stopF_le (stops : List (List Int)) (text : List Int) : stopF stops text ≤ text.length := by
  rcases (best_stopF stops text).1 with h | ⟨s, _, e, h⟩
  · omega
  · have := h.1; omega
/-- what ends a text ends its last part -/
theorem drop_tail {xs : List Int} {n k : Nat} (h : n ≤ xs.length) (hk : k ≤ n) : (xs.drop (xs.length - n)).drop (n - k) = xs.drop (xs.length - k) := by
  rw [List.drop_drop]
  congr 1
  omega
theorem begins_tail {s text : List Int} {n k : Nat} (h : n ≤ text.length) (hk : k ≤ n) : begins s (text.drop (text.length - n)) k ↔ begins s text k := by
  have e : (text.drop (text.length - n)).length = n := by rw [List.length_drop]; omega
  unfold begins
  rw [e, drop_tail h hk]
  constructor
  · rintro ⟨a, b, c, d⟩; exact ⟨a, b, by omega, d⟩
  · rintro ⟨a, b, c, d⟩; exact ⟨a, b, by omega, d⟩
theorem ends_tail {s text : List Int} {n : Nat} (h : n ≤ text.length) (hk : s.length ≤ n) : endsAt s (text.drop (text.length - n)) ↔ endsAt s text := by
  have e : (text.drop (text.length - n)).length = n := by rw [List.length_drop]; omega
  unfold endsAt
  rw [e, drop_tail h hk]
  constructor
  · rintro ⟨a, b⟩; exact ⟨by omega, b⟩
  · rintro ⟨a, b⟩; exact ⟨by omega, b⟩
/-- a beginning of more than one letter: one letter less, one letter ago -/
theorem drop_last {text : List Int} {l : Int} {k : Nat} (hk : k ≤ text.length) : (text ++ [l]).drop ((text ++ [l]).length - (k + 1)) = text.drop (text.length - k) ++ [l] := by
  rw [List.length_append, List.length_singleton, List.drop_append_of_le_length (by omega)]
  congr 2
  omega
theorem begun_ago {stops : List (List Int)} {text : List Int} {l : Int} {s : List Int} {k : Nat} (hs : s ∈ stops) (hk : k + 1 ≤ s.length) (ht : k + 1 ≤ text.length + 1) (h : (text ++ [l]).drop ((text ++ [l]).length - (k + 1)) = s.take (k + 1)) : k ≤ heldF stops text := by
  by_cases z : k = 0
  · omega
  refine (best_heldF stops text).2 k ⟨s, hs, by omega, by omega, by omega, ?_⟩
  rw [drop_last (by omega)] at h
  have e := congrArg (List.take k) h
  rw [List.take_take, Nat.min_eq_left (by omega), List.take_append_of_le_length (by rw [List.length_drop]; omega)] at e
  rw [← e, List.take_of_length_le (by rw [List.length_drop]; omega)]
theorem tail_app {text : List Int} {l : Int} {n : Nat} (h : n ≤ text.length) : text.drop (text.length - n) ++ [l] = (text ++ [l]).drop ((text ++ [l]).length - (n + 1)) := by
  rw [drop_last h]
theorem heldF_feed (stops : List (List Int)) (text : List Int) (l : Int) : heldF stops (text.drop (text.length - heldF stops text) ++ [l]) = heldF stops (text ++ [l]) := by
  have hle := heldF_le stops text
  rw [tail_app hle]
  refine Best.uniq (best_heldF _ _) ((best_heldF stops (text ++ [l])).iff fun k hk => ?_)
  have hl : (text ++ [l]).length = text.length + 1 := by simp
  constructor
  · rintro ⟨s, hs, h⟩
    refine ⟨s, hs, (begins_tail (by omega) ?_).mpr h⟩
    obtain ⟨a, b, c, d⟩ := h
    have := begun_ago (text := text) (l := l) (k := k - 1) hs (by omega) (by omega) (by rw [show k - 1 + 1 = k by omega]; exact d)
    omega
  · rintro ⟨s, hs, h⟩
    refine ⟨s, hs, (begins_tail (by omega) ?_).mp h⟩
    have := h.2.2.1
    rw [List.length_drop] at this
    omega
theorem stopF_feed (stops : List (List Int)) (text : List Int) (l : Int) : stopF stops (text.drop (text.length - heldF stops text) ++ [l]) = stopF stops (text ++ [l]) := by
  have hle := heldF_le stops text
  rw [tail_app hle]
  refine Best.uniq (best_stopF _ _) ((best_stopF stops (text ++ [l])).iff fun k hk => ?_)
  have hl : (text ++ [l]).length = text.length + 1 := by simp
  constructor
  · rintro ⟨s, hs, e, h⟩
    refine ⟨s, hs, e, (ends_tail (by omega) ?_).mpr h⟩
    obtain ⟨a, b⟩ := h
    have := begun_ago (text := text) (l := l) (k := k - 1) hs (by omega) (by omega) (by rw [show k - 1 + 1 = k by omega, ← e, List.take_length]; exact b)
    omega
  · rintro ⟨s, hs, e, h⟩
    refine ⟨s, hs, e, (ends_tail (by omega) ?_).mp h⟩
    have := h.1
    rw [List.length_drop] at this
    omega
/-! ### slices from the end -/
theorem cutI_end {xs : List Int} {n : Nat} (h : n ≤ xs.length) : cutI xs (some ((xs.length : Int) - (n : Int))) none = xs.drop (xs.length - n) := by
  rw [cutI_from (by omega)]; congr 1; omega
theorem cutI_but {xs : List Int} {n : Nat} (h : n ≤ xs.length) : cutI xs none (some ((xs.length : Int) - (n : Int))) = xs.take (xs.length - n) := by
  rw [cutI_to (by omega)]; congr 1; omega
theorem cutI_nat {xs : List Int} {n : Nat} : cutI xs none (some (n : Int)) = xs.take n := by
  rw [cutI_to (by omega)]; congr 1
theorem cutI_natF {xs : List Int} {n : Nat} : cutI xs (some (n : Int)) none = xs.drop n := by
  rw [cutI_from (by omega)]; congr 1
end K93
set_option Elab.async false
set_option linter.all false
set_option maxRecDepth 100000
set_option maxHeartbeats 1000000
namespace K93
open PySem PySem.Spec PyProof.Rows L2 DL
section
variable {α : Type} {a b c d : α} {l : List α}
theorem at_0 : atI (a :: l) 0 = some a := by
  unfold atI ixN
  rw [if_pos (by decide), if_pos (by simp only [List.length_cons]; omega)]; rfl
theorem at_1 : atI (a :: b :: l) 1 = some b := by
  unfold atI ixN
  rw [if_pos (by decide), if_pos (by simp only [List.length_cons]; omega)]; rfl
theorem at_2 : atI [a, b, c, d] 2 = some c := rfl
theorem at_3 : atI [a, b, c, d] 3 = some d := rfl
theorem ix4_1 : ixN [a, b, c, d].length 1 = some 1 := rfl
theorem ix4_2 : ixN [a, b, c, d].length 2 = some 2 := rfl
theorem ix4_3 : ixN [a, b, c, d].length 3 = some 3 := rfl
theorem ix2_0 : ixN [a, b].length 0 = some 0 := rfl
theorem ix2_1 : ixN [a, b].length 1 = some 1 := rfl
end
local macro_rules | `(tactic| walk_at "r") => `(tactic| try simp only [wSeq, wNext, wSet, wC, wFor, wIt, wRg1, wRg2, wVar, wIf, wAnd, wOr, wNot, wTest, wChain, wBin, wCB, wCons, wNil, wSl, wP, wNoP, wRet, wRetN, wDrop, wCall, wTup, wLst, wLstM, wUn, wIfE, wAndV, wOrV, wNotV, wIsi, wYes, wSetI, wSetF, wFld, wAugF, wMt, wMeth, wLc, wLcM, wBreak, xcQ, fldD, setD, setIx, mutL, isIns, stMO, put_same, put_put, oAppend, oExtend,
  getV, setV, some!, one, two, asI, oLen, oLt, oLe, oGt, oGe, oI0, oI, oSub, oMul, oMod, oDiv, oPow, oAdd, oCatL, oEq, oNe, oIsN, oNotN, oIx, oSl, oTuple, oList, oMax2, oMin2, oInt, gN, seqA, seqL, seqM, dT, dL, List.length_map, decide_eq_true_eq, shD_int, shD_bl, shD_lst, shD_tup, eqD_int, eqD_bl, eqD_lst, eqD_tup, cutD_int, true_and, and_true, if_true, if_false, Bool.false_eq_true, Bool.true_eq_false, eq_self_iff_true,
  at_0, at_1, at_2, at_3, ix4_1, ix4_2, ix4_3, ix2_0, ix2_1, List.set_cons_zero, List.set_cons_succ, Bool.not_true, Bool.not_false])
theorem len_stop_length (c : Cl) : ∀ ds S Q E, sp_stop_length c ds S Q E → ds.length = 2 := by
  rintro ds S Q E ⟨_, _, rfl, _⟩; rfl
theorem rd_stop_length (c : Cl) : ∀ ds S Q X1, sp_stop_length c ds S Q X1 → w_stop_length c (startD N_stop_length_ ds) S (endQ Q X1) := by
  rintro ds S Q X1 ⟨stops, text, rfl, h⟩
  show w_stop_length c [some (.tup (stops.map dT)), some (dT text), none, none] S (endQ Q X1)
  unfold w_stop_length
  simp only [wSeq, wSet, wC, wFor, wIt, wVar, getV, setV, some!, seqA, gN]
  refine forI_invq (fun i e S' => S' = S ∧ ∃ m x, Best (SP (stops.take i) text) m ∧ e = [some (.tup (stops.map dT)), some (dT text), some (.int (m : Nat)), x]) ⟨rfl, 0, none, best_noneS, rfl⟩ (fun _ _ _ _ => trivial) ?_ ?_
  · rintro i d e S' hi ⟨rfl, m, x, hm, rfl⟩ q hq hrt hbk hct hxc
    rw [List.getElem?_map] at hi
    obtain ⟨s, hs, rfl⟩ := Option.map_eq_some_iff.mp hi
    have key : ∀ (m' : Nat) x, (if m < s.length ∧ endsAt s text then s.length else m) = m' → q.nx [some (.tup (stops.map dT)), some (dT text), some (.int (m' : Nat)), x] S' := fun m' x e => hq _ _ ⟨rfl, m', x, e ▸ stop_next hs hm, rfl⟩
    walk_at "r"
    split
    · rename_i h1
      split
      · rename_i h2
        rw [cutI_end (by omega)]
        split
        · rename_i h3
          exact key _ _ (if_pos ⟨by omega, by omega, h3⟩)
        · rename_i h3
          exact key _ _ (if_neg fun z => h3 z.2.2)
      · rename_i h2
        exact key _ _ (if_neg fun z => h2 (by have := z.2.1; omega))
    · rename_i h1
      exact key _ _ (if_neg fun z => h1 (by have := z.1; omega))
  · rintro e S' ⟨rfl, m, x, hm, rfl⟩
    rw [List.length_map, List.take_length] at hm
    rw [Best.uniq hm (best_stopF _ _)]
    exact h
theorem len_held_back (c : Cl) : ∀ ds S Q E, sp_held_back c ds S Q E → ds.length = 2 := by
  rintro ds S Q E ⟨_, _, _, _, _, rfl, _⟩; rfl
theorem rd_held_back (c : Cl) : ∀ ds S Q X1, sp_held_back c ds S Q X1 → w_held_back c (startD N_held_back_ ds) S (endQ Q X1) := by
  rintro ds S Q X1 ⟨k, j, r, stops, text, rfl, ht, hs, h⟩
  show w_held_back c [some (rows k j stops), some (dR r text), none, none, none] S (endQ Q X1)
  unfold w_held_back
  simp only [wSeq, wSet, wC, wFor, wIt, wVar, getV, setV, some!, seqA_rows, seqA_dR, gN, wCB, wCons, wNil, oTuple, one]
  refine forI_invq (fun i e S' => S' = S ∧ ∃ m x y, Best (HP (stops.take i) text) m ∧ e = [some (rows k j stops), some (dT text), some (.int (m : Nat)), x, y]) ⟨rfl, 0, none, none, best_none, rfl⟩ (fun _ _ _ _ => trivial) ?_ ?_
  · rintro i d e S' hi ⟨rfl, m, x, y, hm, rfl⟩ q hq hrt hbk hct hxc
    rw [List.getElem?_map] at hi
    obtain ⟨s, hs1, rfl⟩ := Option.map_eq_some_iff.mp hi
    have hsl := hs s (List.mem_of_getElem? hs1)
    cases j <;> simp only [dR, if_true, if_false, Bool.false_eq_true]
    all_goals
      walk_at "r"
      refine ⟨by omega, ?_⟩
      refine forI_invq (fun n e S2 => S2 = S' ∧ ∃ m y, Best (HPj stops text i s (n + 1)) m ∧ e = [some (rows k _ stops), some (.tup (text.map D.int)), some (.int (m : Nat)), some _, y]) ⟨rfl, m, y, hp_first hm (by omega), rfl⟩ (fun _ _ _ _ => trivial) ?_ ?_
      · rintro n d e S2 hn ⟨rfl, m, y, hm, rfl⟩ q2 hq2 hrt2 hbk2 hct2 hxc2
        obtain ⟨hlt, rfl⟩ := rngD_get hn
        have key : ∀ (m' : Nat) y, (if m < n + 1 ∧ begins s text (n + 1) then n + 1 else m) = m' → q2.nx [some (rows k _ stops), some (.tup (text.map D.int)), some (.int (m' : Nat)), some _, y] S2 := fun m' y e => hq2 _ _ ⟨rfl, m', y, e ▸ hp_next hm, rfl⟩
        walk_at "r"
        have e1 : (1 : Int) + (n : Int) = ((n + 1 : Nat) : Int) := by omega
        rw [e1]
        have e2 : n + 1 ≤ text.length := by omega
        have e3 : n + 1 < s.length := by omega
        rw [cutI_end e2, cutI_nat]
        split
        · rename_i h1
          split
          · rename_i h2
            exact key _ _ (if_pos ⟨by omega, by omega, e3, e2, h2⟩)
          · rename_i h2
            exact key _ _ (if_neg fun z => h2 z.2.2.2.2)
        · rename_i h1
          exact key _ _ (if_neg fun z => h1 (by have := z.1; omega))
      · rintro e S2 ⟨rfl, m, y, hm, rfl⟩
        refine hq _ _ ⟨rfl, m, _, _, hp_last hs1 ?_ hm, rfl⟩
        rw [rngD_length]
        omega
  · rintro e S' ⟨rfl, m, x, y, hm, rfl⟩
    rw [List.length_map, List.take_length] at hm
    rw [Best.uniq hm (best_heldF _ _)] 
    exact h
end K93
set_option Elab.async false
set_option linter.all false
set_option maxRecDepth 100000
set_option maxHeartbeats 1000000
namespace K93
open PySem PySem.Spec PyProof.Rows L2 DL
local macro_rules | `(tactic| walk_at "r") => `(tactic| try simp only [wSeq, wNext, wSet, wC, wFor, wIt, wRg1, wRg2, wVar, wIf, wAnd, wOr, wNot, wTest, wChain, wBin, wCB, wCons, wNil, wSl, wP, wNoP, wRet, wRetN, wDrop, wCall, wTup, wLst, wLstM, wUn, wIfE, wAndV, wOrV, wNotV, wIsi, wYes, wSetI, wSetF, wFld, wAugF, wMt, wMeth, wLc, wLcM, wBreak, xcQ, fldD, setD, setIx, mutL, isIns, stMO, put_same, put_put, oAppend, oExtend,
  getV, setV, some!, one, two, asI, oLen, oLt, oLe, oGt, oGe, oI0, oI, oSub, oMul, oMod, oDiv, oPow, oAdd, oCatL, oEq, oNe, oIsN, oNotN, oIx, oSl, oTuple, oList, oMax2, oMin2, oInt, gN, seqA, seqL, seqM, dT, dL, List.length_map, decide_eq_true_eq, shD_int, shD_bl, shD_lst, shD_tup, eqD_int, eqD_bl, eqD_lst, eqD_tup, cutD_int, true_and, and_true, if_true, if_false, Bool.false_eq_true, Bool.true_eq_false, eq_self_iff_true,
  at_0, at_1, at_2, at_3, ix4_1, ix4_2, ix4_3, ix2_0, ix2_1, List.set_cons_zero, List.set_cons_succ, Bool.not_true, Bool.not_false])
theorem seqL_cases {S : Sto} {t : D} {xs : List D} (h : seqL S t = some xs) : (∃ p, t = .ref p ∧ S p = some (.lst xs)) ∨ t = .lst xs ∨ t = .fro xs := by
  cases t with
  | ref p =>
    have h' : (match S p with | some (.lst ys) => some ys | _ => none) = some xs := h
    cases q : S p with
    | none => rw [q] at h'; cases h'
    | some m =>
      rw [q] at h'
      cases m with
      | lst ys => cases h'; exact .inl ⟨p, rfl, q⟩
      | _ => cases h'
  | lst ys => cases h; exact .inr (.inl rfl)
  | fro ys => cases h; exact .inr (.inr rfl)
  | _ => cases h
theorem seqA_cases {S : Sto} {t : D} {xs : List D} (h : seqA S t = some xs) : (∃ p, t = .ref p ∧ S p = some (.lst xs)) ∨ t = .lst xs ∨ t = .fro xs ∨ t = .tup xs := by
  cases t with
  | tup ys => cases h; exact .inr (.inr (.inr rfl))
  | ref p => rcases seqL_cases (t := .ref p) h with h | h | h
             · exact .inl h
             · cases h
             · cases h
  | lst ys => cases h; exact .inr (.inl rfl)
  | fro ys => cases h; exact .inr (.inr (.inl rfl))
  | _ => cases h
theorem seqA_ofL {S : Sto} {t : D} {xs : List D} (h : seqL S t = some xs) : seqA S t = some xs := by
  cases t with
  | tup ys => cases h
  | _ => exact h
theorem len__law_stopped (c : Cl) : ∀ ds S Q E, sp__law_stopped c ds S Q E → ds.length = 2 := by
  rintro ds S Q E ⟨_, _, _, _, rfl, _⟩; rfl
theorem rd__law_stopped (c : Cl) : ∀ ds S Q X1, sp__law_stopped c ds S Q X1 → w__law_stopped c (startD N__law_stopped_ ds) S (endQ Q X1) := by
  rintro ds S Q X1 ⟨d0, stops, t, text, rfl, hd, ht, h⟩
  have hA := seqA_ofL hd
  show w__law_stopped c [some d0, some t, none, none] S (endQ Q X1)
  unfold w__law_stopped
  simp only [wSeq, wSet, wC, wFor, wIt, wVar, getV, setV, some!, hA, gN]
  refine forI_invq (fun i e S' => S' = S ∧ ∃ m x, Best (SP (stops.take i) text) m ∧ e = [some d0, some t, some (.int (m : Nat)), x]) ⟨rfl, 0, none, best_noneS, rfl⟩ (fun _ _ _ z => by rw [z.1]; exact hA) ?_ ?_
  · rintro i d e S' hi ⟨rfl, m, x, hm, rfl⟩ q hq hrt hbk hct hxc
    rw [List.getElem?_map] at hi
    obtain ⟨s, hs, rfl⟩ := Option.map_eq_some_iff.mp hi
    have e := SP_take (text := text) hs
    have key1 : ∀ (m' : Nat) x, endsAt s text → m' = max m s.length → q.nx [some d0, some t, some (.int (m' : Nat)), x] S' := fun m' x h e1 => hq _ _ ⟨rfl, m', x, e1 ▸ hm.max ((e _).mpr (.inr ⟨rfl, h⟩)) (fun k _ hk => ((e k).mp hk).imp id And.left) (fun k hk => (e k).mpr (.inl hk)), rfl⟩
    have key2 : ∀ x, ¬ endsAt s text → q.nx [some d0, some t, some (.int (m : Nat)), x] S' := fun x h => hq _ _ ⟨rfl, m, x, hm.iff fun k _ => ⟨fun z => (e k).mpr (.inl z), fun z => ((e k).mp z).resolve_right fun y => h y.2⟩, rfl⟩
    rcases seqA_cases ht with ⟨p, rfl, hp⟩ | rfl | rfl | rfl
    all_goals
      walk_at "r"
      try simp only [hp, List.length_map]
      split
      · rename_i h2
        walk_at "r"
        try simp only [hp]
        walk_at "r"
        rw [cutI_end (by omega)]
        split
        · rename_i h3
          have := key1 (max m s.length) (some (dL s)) ⟨by omega, h3.symm⟩ rfl
          rw [show ((max m s.length : Nat) : Int) = max (m : Int) (s.length : Int) by omega] at this
          exact this
        · rename_i h3
          exact key2 _ fun z => h3 z.2.symm
      · rename_i h2
        exact key2 _ fun z => h2 (by have := z.1; omega)
  · rintro e S' ⟨rfl, m, x, hm, rfl⟩
    rw [List.length_map, List.take_length] at hm
    rw [Best.uniq hm (best_stopF _ _)]
    exact h
theorem len__law_held (c : Cl) : ∀ ds S Q E, sp__law_held c ds S Q E → ds.length = 2 := by
  rintro ds S Q E ⟨_, _, _, _, rfl, _⟩; rfl
theorem rd__law_held (c : Cl) : ∀ ds S Q X1, sp__law_held c ds S Q X1 → w__law_held c (startD N__law_held_ ds) S (endQ Q X1) := by
  rintro ds S Q X1 ⟨d0, stops, t, text, rfl, hd, ht, hs, h⟩
  have hA := seqA_ofL hd
  show w__law_held c [some d0, some t, none, none, none] S (endQ Q X1)
  unfold w__law_held
  simp only [wSeq, wSet, wC, wFor, wIt, wVar, getV, setV, some!, hA, gN]
  refine forI_invq (fun i e S' => S' = S ∧ ∃ m x y, Best (HP (stops.take i) text) m ∧ e = [some d0, some t, some (.int (m : Nat)), x, y]) ⟨rfl, 0, none, none, best_none, rfl⟩ (fun _ _ _ z => by rw [z.1]; exact hA) ?_ ?_
  · rintro i d e S' hi ⟨rfl, m, x, y, hm, rfl⟩ q hq hrt hbk hct hxc
    rw [List.getElem?_map] at hi
    obtain ⟨s, hs1, rfl⟩ := Option.map_eq_some_iff.mp hi
    have hsl := hs s (List.mem_of_getElem? hs1)
    walk_at "r"
    refine ⟨by omega, ?_⟩
    refine forI_invq (fun n e S2 => S2 = S' ∧ ∃ m y, Best (HPj stops text i s (n + 1)) m ∧ e = [some d0, some t, some (.int (m : Nat)), some (.lst (s.map D.int)), y]) ⟨rfl, m, y, hp_first hm (by omega), rfl⟩ (fun _ _ _ _ => trivial) ?_ ?_
    · rintro n d e S2 hn ⟨rfl, m, y, hm, rfl⟩ q2 hq2 hrt2 hbk2 hct2 hxc2
      obtain ⟨hlt, rfl⟩ := rngD_get hn
      have e := HPj_step (stops := stops) (text := text) (i := i) (j := n + 1) (s := s)
      have key1 : ∀ (m' : Nat) y, begins s text (n + 1) → m' = max m (n + 1) → q2.nx [some d0, some t, some (.int (m' : Nat)), some (.lst (s.map D.int)), y] S2 := fun m' y h e1 => hq2 _ _ ⟨rfl, m', y, e1 ▸ hm.max ((e _).mpr (.inr ⟨rfl, h⟩)) (fun k _ hk => ((e k).mp hk).imp id And.left) (fun k hk => (e k).mpr (.inl hk)), rfl⟩
      have key2 : ∀ y, ¬ begins s text (n + 1) → q2.nx [some d0, some t, some (.int (m : Nat)), some (.lst (s.map D.int)), y] S2 := fun y h => hq2 _ _ ⟨rfl, m, y, hm.iff fun k _ => ⟨fun z => (e k).mpr (.inl z), fun z => ((e k).mp z).resolve_right fun y => h y.2⟩, rfl⟩
      have e1 : (1 : Int) + (n : Int) = ((n + 1 : Nat) : Int) := by omega
      have e3 : n + 1 < s.length := by omega
      rcases seqA_cases ht with ⟨p, rfl, hp⟩ | rfl | rfl | rfl
      all_goals
        walk_at "r"
        try simp only [hp, List.length_map]
        rw [e1]
        split
        · rename_i h2
          walk_at "r"
          try simp only [hp]
          walk_at "r"
          rw [cutI_end (by omega), cutI_nat]
          split
          · rename_i h3
            have := key1 (max m (n + 1)) (some (.int ((n + 1 : Nat) : Int))) ⟨by omega, e3, by omega, h3.symm⟩ rfl
            rw [show ((max m (n + 1) : Nat) : Int) = max (m : Int) ((n + 1 : Nat) : Int) by omega] at this
            exact this
          · rename_i h3
            exact key2 _ fun z => h3 z.2.2.2.symm
        · rename_i h2
          exact key2 _ fun z => h2 (by have := z.2.2.1; omega)
    · rintro e S2 ⟨rfl, m, y, hm, rfl⟩
      refine hq _ _ ⟨rfl, m, _, _, hp_last hs1 ?_ hm, rfl⟩
      rw [rngD_length]
      omega
  · rintro e S' ⟨rfl, m, x, y, hm, rfl⟩
    rw [List.length_map, List.take_length] at hm
    rw [Best.uniq hm (best_heldF _ _)]
    exact h
end K93
set_option Elab.async false
set_option linter.all false
set_option maxRecDepth 100000
set_option maxHeartbeats 1000000
namespace K93
open PySem PySem.Spec PyProof.Rows L2 DL
local macro_rules | `(tactic| walk_at "r") => `(tactic| try simp only [wSeq, wNext, wSet, wC, wFor, wIt, wRg1, wRg2, wVar, wIf, wAnd, wOr, wNot, wTest, wChain, wBin, wCB, wCons, wNil, wSl, wP, wNoP, wRet, wRetN, wDrop, wCall, wTup, wLst, wLstM, wUn, wIfE, wAndV, wOrV, wNotV, wIsi, wYes, wSetI, wSetF, wFld, wAugF, wMt, wMeth, wLc, wLcM, wBreak, xcQ, fldD, setD, setIx, mutL, isIns, stMO, put_same, put_put, oAppend, oExtend,
  getV, setV, some!, one, two, asI, oLen, oLt, oLe, oGt, oGe, oI0, oI, oSub, oMul, oMod, oDiv, oPow, oAdd, oCatL, oEq, oNe, oIsN, oNotN, oIx, oSl, oTuple, oList, oMax2, oMin2, oInt, gN, seqA, seqL, seqM, dT, dL, List.length_map, decide_eq_true_eq, shD_int, shD_bl, shD_lst, shD_tup, eqD_int, eqD_bl, eqD_lst, eqD_tup, cutD_int, true_and, and_true, if_true, if_false, Bool.false_eq_true, Bool.true_eq_false, eq_self_iff_true,
  at_0, at_1, at_2, at_3, ix4_1, ix4_2, ix4_3, ix2_0, ix2_1, List.set_cons_zero, List.set_cons_succ, Bool.not_true, Bool.not_false])

theorem len_Stopper_init (c : Cl) : ∀ ds S Q E, sp_Stopper_init c ds S Q E → ds.length = 2 := by
  rintro ds S Q E ⟨_, _, _, rfl, _⟩; rfl
theorem rd_Stopper_init (c : Cl) : ∀ ds S Q X1, sp_Stopper_init c ds S Q X1 → w_Stopper_init c (startD N_Stopper_init_ ds) S (endQ Q X1) := by
  rintro ds S Q X1 ⟨a, d, stops, rfl, h0, ⟨hr, hn⟩, h⟩
  obtain ⟨es, e1, e2, e3⟩ := hr
  show w_Stopper_init c [some (.ref a), some d, none] S (endQ Q X1)
  have h0' : S a = some (.ins c.Stopper N_Stopper [none, none, none, none]) := h0
  unfold w_Stopper_init
  simp only [wSeq, wSetF, wCB, wCons, wNil, wLc, wIt, wVar, getV, setV, some!, e1, delVs, delV]
  refine ⟨by rw [e2]; unfold sizeLine; omega, compI_map (fun e => (seqA S e).map D.tup) e1 (fun e he R hR => ?_) ?_⟩
  · obtain ⟨i, hi⟩ := List.getElem?_of_mem he
    obtain ⟨t, ht⟩ : ∃ t, stops[i]? = some t := ⟨_, List.getElem?_eq_getElem (by rw [← e2]; exact lt_of_some hi)⟩
    have e4 := e3 i e t hi ht
    simp only [wYes, wCB, wCons, wNil, wVar, gN, setV, getV, some!, oTuple, one, if_true, e4]
    rw [e4] at hR
    exact hR
  · have e5 : es.filterMap (fun e => (seqA S e).map D.tup) = stops.map dT := by
      clear e1 hn h h0 h0'
      induction es generalizing stops with
      | nil =>
        cases stops with
        | nil => rfl
        | cons s r => cases e2
      | cons e r ih =>
        cases stops with
        | nil => cases e2
        | cons s q =>
          have e4 := e3 0 e s rfl rfl
          rw [List.filterMap_cons, e4, List.map_cons]
          show dT s :: _ = _
          rw [ih q (Nat.succ.inj e2) fun i e' s' h1 h2 => e3 (i + 1) e' s' h1 h2]
    rw [e5]
    walk_at "r"
    simp only [h0']
    walk_at "r"
    simp only [List.length_nil]
    exact ⟨Nat.zero_le _, h⟩
theorem len_Stopper_has_stopped (c : Cl) : ∀ ds S Q E, sp_Stopper_has_stopped c ds S Q E → ds.length = 1 := by
  rintro ds S Q E ⟨_, _, rfl, _⟩; rfl
theorem rd_Stopper_has_stopped (c : Cl) : ∀ ds S Q X1, sp_Stopper_has_stopped c ds S Q X1 → w_Stopper_has_stopped c (startD N_Stopper_has_stopped_ ds) S (endQ Q X1) := by
  rintro ds S Q X1 ⟨a, s, rfl, h0, h⟩
  show w_Stopper_has_stopped c [some (.ref a)] S (endQ Q X1)
  unfold w_Stopper_has_stopped
  walk_at "r"
  simp only [h0]
  walk_at "r"
  exact h
theorem len_Stopper_letters_held (c : Cl) : ∀ ds S Q E, sp_Stopper_letters_held c ds S Q E → ds.length = 1 := by
  rintro ds S Q E ⟨_, _, rfl, _⟩; rfl
theorem rd_Stopper_letters_held (c : Cl) : ∀ ds S Q X1, sp_Stopper_letters_held c ds S Q X1 → w_Stopper_letters_held c (startD N_Stopper_letters_held_ ds) S (endQ Q X1) := by
  rintro ds S Q X1 ⟨a, s, rfl, h0, h⟩
  show w_Stopper_letters_held c [some (.ref a)] S (endQ Q X1)
  unfold w_Stopper_letters_held
  walk_at "r"
  simp only [h0]
  walk_at "r"
  exact h
theorem len_Stopper_feed (c : Cl) : ∀ ds S Q E, sp_Stopper_feed c ds S Q E → ds.length = 2 := by
  rintro ds S Q E ⟨_, _, _, rfl, _⟩; rfl
theorem rd_Stopper_feed (c : Cl) : ∀ ds S Q X1, sp_Stopper_feed c ds S Q X1 → w_Stopper_feed c (startD N_Stopper_feed_ ds) S (endQ Q X1) := by
  rintro ds S Q X1 ⟨a, s, l, rfl, h0, ⟨hl, hs⟩, h⟩
  show w_Stopper_feed c [some (.ref a), some (.int l), none, none, none] S (endQ Q X1)
  obtain ⟨stops, held, many, stop⟩ := s
  unfold w_Stopper_feed
  have h0' : S a = some (.ins c.Stopper N_Stopper [some (.tup (stops.map dT)), some (.tup (held.map D.int)), some (.int many), some (.bl stop)]) := h0
  have z1 : ([D.int l] : List D).length ≤ sizeLine := by show 1 ≤ sizeLine; decide
  dsimp only at hl hs
  walk_at "r"
  simp only [h0']
  walk_at "r"
  cases stop with
  | true =>
    walk_at "r"
    have e : put S a (stMO c ⟨stops, held, many, true⟩) = S := put_self h0
    have h' : Q (dT []) (put S a (stMO c ⟨stops, held, many, true⟩)) := h
    rw [e] at h'
    exact ⟨Nat.zero_le _, h'⟩
  | false =>
    have h2 : Q (dT (feedF ⟨stops, held, many, false⟩ l).1) (put S a (stMO c (feedF ⟨stops, held, many, false⟩ l).2)) := h
    unfold feedF at h2
    rw [if_neg Bool.false_ne_true] at h2
    dsimp only at h2
    have hll : (held ++ [l]).length ≤ 1001 := by simp; omega
    have ez : held.map D.int ++ [D.int l] = (held ++ [l]).map D.int := by simp
    walk_at "r"
    refine ⟨z1, by show _ + 1 ≤ _; unfold sizeLine; omega, ?_⟩
    rw [ez]
    generalize held ++ [l] = text at *
    have sl := stopF_le stops text
    have kl := heldF_le stops text
    refine ⟨stops, text, rfl, ?_⟩
    walk_at "r"
    split
    · rename_i h1
      rw [if_pos (by omega)] at h2
      simp only [h0']
      walk_at "r"
      refine ⟨Nat.zero_le _, ?_⟩
      rw [cutI_but sl]
      exact h2
    · rename_i h1
      rw [if_neg (by omega)] at h2
      simp only [h0']
      walk_at "r"
      refine ⟨true, true, true, stops, text, rfl, by omega, fun s hs1 => by have := hs s hs1; omega, ?_⟩
      walk_at "r"
      simp only [h0']
      walk_at "r"
      rw [cutI_but kl, cutI_end kl]
      exact h2
theorem len__law_hand (c : Cl) : ∀ ds S Q E, sp__law_hand c ds S Q E → ds.length = 1 := by
  rintro ds S Q E ⟨_, rfl, _⟩; rfl
theorem rd__law_hand (c : Cl) : ∀ ds S Q X1, sp__law_hand c ds S Q X1 → w__law_hand c (startD N__law_hand_ ds) S (endQ Q X1) := by
  rintro ds S Q X1 ⟨cells, rfl, hl, h⟩
  show w__law_hand c [some (.fro (cells.map D.int)), none] S (endQ Q X1)
  unfold w__law_hand
  walk_at "r"
  rw [cutI_to (by omega), List.take_of_length_le (by omega)]
  refine ⟨by unfold sizeLine; omega, compI_map (fun e => some e) trivial (fun e he R hR => ?_) ?_⟩
  · obtain ⟨i, _, rfl⟩ := List.mem_map.mp he
    walk_at "r"
    exact hR
  · rw [List.filterMap_some]
    exact ⟨by simp only [List.length_cons, List.length_nil]; unfold sizeLine; omega, fun p hp => h p hp⟩
theorem len__law_draw (c : Cl) : ∀ ds S Q E, sp__law_draw c ds S Q E → ds.length = 2 := by
  rintro ds S Q E ⟨_, _, rfl, _⟩; rfl
theorem at_cell {cells : List Int} {i : Int} (h0 : 0 ≤ i) (h : i < cells.length) : ∃ x, atI (cells.map D.int) i = some (.int x) := by
  refine ⟨cells[i.toNat]'(by omega), ?_⟩
  unfold atI ixN
  rw [List.length_map, if_pos h0, if_pos h]
  show (cells.map D.int)[i.toNat]? = _
  rw [List.getElem?_map, List.getElem?_eq_getElem (by omega)]; rfl
theorem mulw {i j : Int} (hi : 0 ≤ i ∧ i < 2305843009213693951) (hj : 0 ≤ j ∧ j < 2305843009213693951) : CMulW i j := by
  have key : ∀ i : Int, 0 ≤ i ∧ i < 2305843009213693951 → i.natAbs.log2 < 61 := fun i hi => by
    by_cases z : i.natAbs = 0
    · rw [z]; decide
    · rw [Nat.log2_lt z]; omega
  have := key i hi
  have := key j hj
  unfold CMulW
  omega
theorem divw {i j : Int} (h : 0 < j ∧ j ≤ 1000000000) : CDivW i j := by
  refine ⟨h.1, ?_⟩
  by_cases z : j.natAbs = 0
  · omega
  · have : j.natAbs.log2 < 61 := by rw [Nat.log2_lt z]; omega
    omega
theorem rd__law_draw (c : Cl) : ∀ ds S Q X1, sp__law_draw c ds S Q X1 → w__law_draw c (startD N__law_draw_ ds) S (endQ Q X1) := by
  rintro ds S Q X1 ⟨p, n, rfl, ⟨⟨cells, at0, big, seed⟩, ⟨k1, k2, k3, k4, k5⟩, hp⟩, ⟨hn, hn2⟩, h⟩
  show w__law_draw c [some (.ref p), some (.int n), none, none] S (endQ Q X1)
  have hp' : S p = some (.lst [.lst (cells.map D.int), .int at0, .int big, .int seed]) := hp
  dsimp only at k1 k2 k3 k4 k5
  have hmod : ∀ x : Int, 0 ≤ x % 2305843009213693951 ∧ x % 2305843009213693951 < 2305843009213693951 := fun x => ⟨Int.emod_nonneg _ (by decide), Int.emod_lt_of_pos _ (by decide)⟩
  have hr : ∀ x : Int, 0 ≤ x % n ∧ x % n < n := fun x => ⟨Int.emod_nonneg _ (by omega), Int.emod_lt_of_pos _ hn⟩
  -- what follows the first part
  have last : ∀ (S1 : Sto) at1 big1 seed1 (x y : Option D), S1 = put S p (handMO ⟨cells, at1, big1, seed1⟩) → 0 ≤ at1 → 0 ≤ big1 → 0 ≤ seed1 → seed1 < 2305843009213693951 →
      (wSeq (wIf (wTest (wBin oGt (wBin oIx (wVar 0) (wC (.int 2))) (wC (.int 0)))) (wSeq (wSet 3 (wBin oMod (wCB oInt (wCons (wBin oIx (wVar 0) (wC (.int 2))) wNil)) (wVar 1)))
        (wSeq (wSetI (wVar 0) (wC (.int 2)) (wBin oDiv (wBin oIx (wVar 0) (wC (.int 2))) (wVar 1)))
        (wRet (wVar 3)))) wNext)
        (wSeq (wSetI (wVar 0) (wC (.int 3)) (wBin oMod (wBin oAdd (wBin oMul (wBin oIx (wVar 0) (wC (.int 3))) (wBin oIx (wVar 0) (wC (.int 3)))) (wC (.int 362436069))) (wC (.int 2305843009213693951))))
        (wRet (wBin oMod (wBin oDiv (wCB oInt (wCons (wBin oIx (wVar 0) (wC (.int 3))) wNil)) (wC (.int 1048576))) (wVar 1))))) [some (.ref p), some (.int n), x, y] S1 (endQ Q X1) := by
    rintro S1 at1 big1 seed1 x y rfl q1 q2 q3 q4
    have hp1 : put S p (handMO ⟨cells, at1, big1, seed1⟩) p = some (.lst [.lst (cells.map D.int), .int at1, .int big1, .int seed1]) := put_same
    generalize hS : put S p (handMO ⟨cells, at1, big1, seed1⟩) = S1 at *
    have hb : ∀ m, put S1 p m = put S p m := fun m => by rw [← hS, put_put]
    walk_at "r"
    simp only [hp1]
    walk_at "r"
    split
    · rename_i g
      walk_at "r"
      try simp only [hp1]
      walk_at "r"
      refine ⟨hn, divw ⟨hn, by omega⟩, ?_⟩
      try simp only [hp1]
      walk_at "r"
      rw [hb]
      exact h _ (hr _).1 (hr _).2 ⟨cells, at1, big1 / n, seed1⟩ ⟨k1, q1, Int.ediv_nonneg q2 (by omega), q3, q4⟩
    · rename_i g
      walk_at "r"
      try simp only [hp1]
      walk_at "r"
      refine ⟨mulw ⟨q3, q4⟩ ⟨q3, q4⟩, by decide, divw (by decide), hn, ?_⟩
      rw [hb]
      exact h _ (hr _).1 (hr _).2 ⟨cells, at1, big1, _⟩ ⟨k1, q1, q2, (hmod _).1, (hmod _).2⟩
  unfold w__law_draw
  generalize hw : (wSeq (wIf (wTest (wBin oGt (wBin oIx (wVar 0) (wC (.int 2))) (wC (.int 0)))) _ _) _) = W at last ⊢
  clear hw
  walk_at "r"
  simp only [hp']
  walk_at "r"
  have fin : W [some (.ref p), some (.int n), none, none] S (endQ Q X1) := last S at0 big seed none none (put_self hp).symm k2 k3 k4 k5
  split
  · split
    · rename_i g
      obtain ⟨x, hx⟩ := at_cell (cells := cells) k2 g
      rw [hx]
      have e60 : (10 : Int) ^ Int.toNat 60 * 10 ^ Int.toNat 60 = 10 ^ 120 := by decide +kernel
      have hpos : (0 : Int) < 10 ^ 120 := by decide +kernel
      walk_at "r"
      refine ⟨⟨by decide, by decide, by decide⟩, ?_⟩
      split
      · refine ⟨⟨by decide, by decide, by decide⟩, ⟨by decide, by decide, by decide⟩, ?_⟩
        rw [e60]
        refine ⟨by unfold CMulW; decide +kernel, hpos, mulw ⟨k4, k5⟩ ⟨k4, k5⟩, by decide, by decide, ?_⟩
        exact last _ _ _ _ _ _ rfl (by omega) (Int.emod_nonneg _ (by omega)) (hmod _).1 (hmod _).2
      · refine ⟨mulw ⟨k4, k5⟩ ⟨k4, k5⟩, by decide, by decide, ?_⟩
        exact last _ _ _ _ _ _ rfl (by omega) k3 (hmod _).1 (hmod _).2
    · exact fin
  · exact fin
end K93
set_option Elab.async false
set_option linter.all false
set_option maxRecDepth 100000
set_option maxHeartbeats 1000000
namespace K93
open PySem PySem.Spec PyProof.Rows L2 DL
theorem kb1 : kitB "tuple" "tuple" = some true := by decide +kernel
theorem kb2 : kitB "NoneType" "tuple" = some false := by decide +kernel
theorem kb3 : kitB "bool" "tuple" = some false := by decide +kernel
theorem kb4 : kitB "int" "tuple" = some false := by decide +kernel
theorem kb5 : kitB "bool" "bool" = some true := by decide +kernel
theorem kb6 : kitB "int" "bool" = some false := by decide +kernel
theorem kb7 : kitB "int" "str" = some false := by decide +kernel
theorem kb8 : kitB "int" "int" = some true := by decide +kernel
theorem kb9 : kitB "str" "tuple" = some false := by decide +kernel
theorem kb10 : kitB "str" "bool" = some false := by decide +kernel
theorem kb11 : kitB "str" "str" = some true := by decide +kernel
local macro_rules | `(tactic| walk_at "r") => `(tactic| try simp only [wSeq, wNext, wSet, wC, wFor, wIt, wRg1, wRg2, wVar, wIf, wAnd, wOr, wNot, wTest, wChain, wBin, wCB, wCons, wNil, wSl, wP, wNoP, wRet, wRetN, wDrop, wCall, wTup, wLst, wLstM, wUn, wIfE, wAndV, wOrV, wNotV, wIsi, wYes, wSetI, wSetF, wFld, wAugF, wMt, wMeth, wLc, wLcM, wBreak, xcQ, fldD, setD, setIx, mutL, isIns, stMO, put_same, put_put, oAppend, oExtend,
  getV, setV, some!, one, two, asI, oLen, oLt, oLe, oGt, oGe, oI0, oI, oSub, oMul, oMod, oDiv, oPow, oAdd, oCatL, oEq, oNe, oIsN, oNotN, oIx, oSl, oTuple, oList, oMax2, oMin2, oInt, gN, seqA, seqL, seqM, dT, dL, List.length_map, decide_eq_true_eq, shD_int, shD_bl, shD_lst, shD_tup, eqD_int, eqD_bl, eqD_lst, eqD_tup, cutD_int, true_and, and_true, if_true, if_false, Bool.false_eq_true, Bool.true_eq_false, eq_self_iff_true,
  at_0, at_1, at_2, at_3, ix4_1, ix4_2, ix4_3, ix2_0, ix2_1, List.set_cons_zero, List.set_cons_succ, Bool.not_true, Bool.not_false, tyN, kb1, kb2, kb3, kb4, kb5, kb6, kb7, kb8, kb9, kb10, kb11, isNon, delVs, delV])
theorem len__law_same_n (c : Cl) (n : Nat) : ∀ ds S Q E, sp__law_same_n c n ds S Q E → ds.length = 2 := by
  intro ds S Q E h
  cases n with
  | zero => exact h.elim
  | succ n => obtain ⟨_, rfl, _⟩ := h; rfl
theorem fm_map {α β : Type} {f : α → Option β} {g : α → β} : ∀ (l : List α), (∀ x, x ∈ l → f x = some (g x)) → l.filterMap f = l.map g
  | [], _ => rfl
  | x :: r, h => by rw [List.filterMap_cons, h x List.mem_cons_self, List.map_cons, fm_map r fun y hy => h y (List.mem_cons_of_mem _ hy)]
theorem rng_map {lo : Int} {n : Nat} {f : D → Option D} {g : Nat → D} (h : ∀ i, i < n → f (.int (lo + (i : Int))) = some (g i)) : (rngD lo n).filterMap f = (List.range n).map g := by
  unfold rngD
  rw [List.filterMap_map]
  exact fm_map _ fun i hi => h i (List.mem_range.mp hi)
theorem rd__law_same (c : Cl) (n : Nat) : ∀ ds S Q X1, sp__law_same_n c (n + 1) ds S Q X1 → w__law_same c n (startD N__law_same_ ds) S (endQ Q X1) := by
  rintro ds S Q X1 ⟨d, rfl, hp, h⟩
  show w__law_same c n [some d, some d, none] S (endQ Q X1)
  unfold w__law_same
  cases d with
  | non => walk_at "r"; exact h
  | bl b =>
    walk_at "r"
    rw [beq_self_eq_true]; exact h
  | int i => walk_at "r"; simp only [decide_true]; exact h
  | tup xs =>
    cases n with
    | zero => exact hp.elim
    | succ n =>
      obtain ⟨h1, h2⟩ := hp
      walk_at "r"
      simp only [decide_true, Bool.not_true, Bool.false_eq_true, if_false]
      walk_at "r"
      refine ⟨by omega, by rw [rngD_length]; unfold sizeLine; omega, compI_map (fun _ => some (.bl true)) trivial (fun e he R hR => ?_) ?_⟩
      · obtain ⟨i, hi⟩ := List.getElem?_of_mem he
        obtain ⟨hlt, rfl⟩ := rngD_get hi
        have hlt' : i < xs.length := by omega
        have e : atI xs (0 + (i : Int)) = some xs[i] := by
          unfold atI ixN
          rw [if_pos (by omega), if_pos (by omega)]
          show xs[(0 + (i : Int)).toNat]? = _
          rw [show (0 + (i : Int)).toNat = i by omega, List.getElem?_eq_getElem hlt']
        walk_at "r"
        rw [e]
        exact ⟨_, rfl, h2 _ (List.getElem_mem hlt'), hR⟩
      · rw [rng_map (g := fun _ => D.bl true) fun _ _ => rfl]
        have e : ∀ m, (List.range m).map (fun _ => D.bl true) = ((List.range m).map fun _ => true).map D.bl := fun m => by rw [List.map_map]; rfl
        rw [e]
        simp only [oAll, one, seqL, seqM, some!, toBls_map]
        have e2 : ∀ m, ((List.range m).map fun _ => true).all id = true := fun m => by simp
        rw [e2]
        exact h
  | _ => cases n <;> exact hp.elim
theorem imp__law_same (c : Cl) : ∀ ds S Q X1, sp__law_same c ds S Q X1 → sp__law_same_n c 8 ds S Q X1 := fun ds S Q X1 h => h
/-! ### draws -/
theorem draw_go {c : Cl} {p : Addr} {n : Int} {S : Sto} {Q : Qd} {X : XQ} (hS : IsHand S p) (hn : 0 < n ∧ n ≤ 100000) (h : ∀ r, 0 ≤ r → r < n → ∀ k, HandOk k → Q (.int r) (put S p (handMO k))) : sp__law_draw c [.ref p, .int n] S Q X :=
  ⟨p, n, rfl, hS, hn, fun r h0 h1 k hk => h r h0 h1 k hk⟩
theorem isHand_put {S : Sto} {p : Addr} {k : Hand} (h : HandOk k) : IsHand (put S p (handMO k)) p := ⟨k, h, put_same⟩
theorem at_mem {cells : List Int} {i : Int} (h0 : 0 ≤ i) (h : i < cells.length) : ∃ x, x ∈ cells ∧ atI (cells.map D.int) i = some (.int x) := by
  refine ⟨cells[i.toNat]'(by omega), List.getElem_mem _, ?_⟩
  unfold atI ixN
  rw [List.length_map, if_pos h0, if_pos h]
  show (cells.map D.int)[i.toNat]? = _
  rw [List.getElem?_map, List.getElem?_eq_getElem (by omega)]; rfl
theorem len__law_alphabet (c : Cl) : ∀ ds S Q E, sp__law_alphabet c ds S Q E → ds.length = 1 := by
  rintro ds S Q E ⟨_, rfl, _⟩; rfl
theorem rd__law_alphabet (c : Cl) : ∀ ds S Q X1, sp__law_alphabet c ds S Q X1 → w__law_alphabet c (startD N__law_alphabet_ ds) S (endQ Q X1) := by
  rintro ds S Q X1 ⟨p, rfl, hS, h⟩
  show w__law_alphabet c [some (.ref p), none, none, none] S (endQ Q X1)
  unfold w__law_alphabet
  walk_at "r"
  refine draw_go hS (by decide) fun base b0 b1 k1 o1 => ?_
  refine ⟨by show 4 ≤ sizeLine; decide, ?_⟩
  refine draw_go (isHand_put o1) (by decide) fun w w0 w1 k2 o2 => ?_
  obtain ⟨x, hx, e⟩ := at_mem (cells := [1, 5, 7, 11]) w0 w1
  rw [put_put]
  have e' : atI [D.int 1, D.int 5, D.int 7, D.int 11] w = some (.int x) := e
  walk_at "r"
  rw [e']
  walk_at "r"
  have hx2 : 0 ≤ x ∧ x < 2305843009213693951 := by
    simp at hx
    omega
  refine draw_go (isHand_put o2) (by decide) fun m m0 m1 k3 o3 => ?_
  walk_at "r"
  refine ⟨by omega, by rw [rngD_length]; unfold sizeLine; omega, compI_map (fun d => match d with | .int k => some (.int ((base + k * x) % 12)) | _ => none) trivial (fun e he R hR => ?_) ?_⟩
  · obtain ⟨i, hi⟩ := List.getElem?_of_mem he
    obtain ⟨hlt, rfl⟩ := rngD_get hi
    walk_at "r"
    exact ⟨mulw (by omega) hx2, by decide, hR⟩
  · rw [rng_map (g := fun (i : Nat) => D.int ((base + (0 + (i : Int)) * x) % 12)) fun _ _ => rfl]
    have e3 : ∀ m, (List.range m).map (fun (i : Nat) => D.int ((base + (0 + (i : Int)) * x) % 12)) = ((List.range m).map fun (i : Nat) => (base + (0 + (i : Int)) * x) % 12).map D.int := fun m => by rw [List.map_map]; rfl
    rw [e3]
    refine h _ ?_ ?_ k3 o3
    · intro z
      have := congrArg List.length z
      simp at this
      omega
    · refine ⟨by simp; omega, fun x hx => ?_⟩
      obtain ⟨i, _, rfl⟩ := List.mem_map.mp hx
      omega
theorem len__law_row (c : Cl) : ∀ ds S Q E, sp__law_row c ds S Q E → ds.length = 4 := by
  rintro ds S Q E ⟨_, _, _, _, rfl, _⟩; rfl
theorem rd__law_row (c : Cl) : ∀ ds S Q X1, sp__law_row c ds S Q X1 → w__law_row c (startD N__law_row_ ds) S (endQ Q X1) := by
  rintro ds S Q X1 ⟨p, al, l, m, rfl, hS, ⟨ha, ha2, ha3⟩, ⟨l1, l2, m1, m2⟩, h⟩
  show w__law_row c [some (.ref p), some (dL al), some (.int l), some (.int m), none] S (endQ Q X1)
  unfold w__law_row
  have hal : 0 < al.length := List.length_pos_iff.mpr ha
  walk_at "r"
  refine draw_go hS (by omega) fun w w0 w1 k1 o1 => ?_
  refine ⟨by omega, by rw [rngD_length]; unfold sizeLine; omega, ?_⟩
  refine compI_inv (fun i acc S' => ∃ ns : List Int, acc = ns.map D.int ∧ ns.length = i ∧ LO ns ∧ ∃ k, HandOk k ∧ S' = put S p (handMO k)) ⟨[], rfl, rfl, (fun x hx => by cases hx), k1, o1, rfl⟩ (fun _ _ _ _ => trivial) ?_ ?_
  · rintro i d acc S' hi ⟨ns, rfl, hn, hlo, k, ok, rfl⟩
    walk_at "r"
    refine draw_go (isHand_put ok) (by omega) fun r r0 r1 k2 o2 => ?_
    obtain ⟨x, hx, e⟩ := at_mem (cells := al) r0 r1
    rw [put_put]
    walk_at "r"
    rw [e]
    refine ⟨ns ++ [x], by simp, by simp [hn], fun y hy => ?_, k2, o2, rfl⟩
    rcases List.mem_append.mp hy with hy | hy
    · exact hlo y hy
    · rw [List.mem_singleton.mp hy]; exact ha3 x hx
  · rintro acc S' ⟨ns, rfl, hn, hlo, k, ok, rfl⟩
    rw [rngD_length] at hn
    refine h ns (fun l1 z => ?_) ⟨by omega, hlo⟩ k ok
    rw [z] at hn
    simp at hn
    omega
end K93
set_option Elab.async false
set_option linter.all false
set_option maxRecDepth 100000
set_option maxHeartbeats 1000000
namespace K93
open PySem PySem.Spec PyProof.Rows L2 DL
local macro_rules | `(tactic| walk_at "r") => `(tactic| try simp only [wSeq, wNext, wSet, wC, wFor, wIt, wRg1, wRg2, wVar, wIf, wAnd, wOr, wNot, wTest, wChain, wBin, wCB, wCons, wNil, wSl, wP, wNoP, wRet, wRetN, wDrop, wCall, wTup, wLst, wLstM, wUn, wIfE, wAndV, wOrV, wNotV, wIsi, wYes, wSetI, wSetF, wFld, wAugF, wMt, wMeth, wLc, wLcM, wBreak, xcQ, fldD, setD, setIx, mutL, isIns, stMO, put_same, put_put, oAppend, oExtend,
  getV, setV, some!, one, two, asI, oLen, oLt, oLe, oGt, oGe, oI0, oI, oSub, oMul, oMod, oDiv, oPow, oAdd, oCatL, oEq, oNe, oIsN, oNotN, oIx, oSl, oTuple, oList, oMax2, oMin2, oInt, gN, seqA, seqL, seqM, dT, dL, List.length_map, decide_eq_true_eq, shD_int, shD_bl, shD_lst, shD_tup, eqD_int, eqD_bl, eqD_lst, eqD_tup, cutD_int, true_and, and_true, if_true, if_false, Bool.false_eq_true, Bool.true_eq_false, eq_self_iff_true,
  at_0, at_1, at_2, at_3, ix4_1, ix4_2, ix4_3, ix2_0, ix2_1, List.set_cons_zero, List.set_cons_succ, Bool.not_true, Bool.not_false, tyN, kb1, kb2, kb3, kb4, kb5, kb6, kb7, kb8, kb9, kb10, kb11, isNon, delVs, delV, oNeg, wFrz, frzD, ← List.map_append])
theorem draw_go2 {c : Cl} {p p2 : Addr} {n : Int} {S : Sto} {L : MO} {k0 : Hand} {Q : Qd} {X : XQ} (hne : p ≠ p2) (hk : HandOk k0) (hn : 0 < n ∧ n ≤ 100000) (h : ∀ r, 0 ≤ r → r < n → ∀ k, HandOk k → Q (.int r) (put (put S p (handMO k)) p2 L)) :
    sp__law_draw c [.ref p, .int n] (put (put S p (handMO k0)) p2 L) Q X :=
  draw_go ⟨k0, hk, by rw [put_ne hne, put_same]⟩ hn fun r h0 h1 k ok => by
    rw [put_comm (Ne.symm hne), put_put]
    exact h r h0 h1 k ok
theorem row_go2 {c : Cl} {p p2 : Addr} {al : List Int} {l m : Int} {S : Sto} {L : MO} {k0 : Hand} {Q : Qd} {X : XQ} (hne : p ≠ p2) (hk : HandOk k0) (ha : al ≠ [] ∧ al.length ≤ 1000 ∧ LO al) (hm : 1 ≤ l ∧ l ≤ 10 ∧ 0 ≤ m ∧ m ≤ 10)
    (h : ∀ r : List Int, r ≠ [] → (r.length ≤ 30 ∧ LO r) → ∀ k, HandOk k → Q (dL r) (put (put S p (handMO k)) p2 L)) : sp__law_row c [.ref p, dL al, .int l, .int m] (put (put S p (handMO k0)) p2 L) Q X :=
  ⟨p, al, l, m, rfl, ⟨k0, hk, by rw [put_ne hne, put_same]⟩, ha, ⟨by omega, by omega, by omega, by omega⟩, fun r h0 h1 k ok => by
    rw [put_comm (Ne.symm hne), put_put]
    exact h r (h0 hm.1) h1 k ok⟩
theorem del_two {S : Sto} {p p2 : Addr} {L : MO} {k : MO} (hne : p ≠ p2) (h : S p2 = none) : del (put (put S p k) p2 L) p2 = put S p k := del_put (by rw [put_ne (Ne.symm hne)]; exact h)
theorem at_row {xs : List (List Int)} {i : Int} (h0 : 0 ≤ i) (h : i < xs.length) : ∃ x, x ∈ xs ∧ atI (xs.map dL) i = some (dL x) := by
  refine ⟨xs[i.toNat]'(by omega), List.getElem_mem _, ?_⟩
  unfold atI ixN
  rw [List.length_map, if_pos h0, if_pos h]
  show (xs.map dL)[i.toNat]? = _
  rw [List.getElem?_map, List.getElem?_eq_getElem (by omega)]; rfl
theorem cutI_le {xs : List Int} {a b : Option Int} : (cutI xs a b).length ≤ xs.length := by
  unfold cutI
  rw [List.length_take, List.length_drop]
  omega
theorem LO.cut {e : List Int} (h : LO e) {a b : Option Int} : LO (cutI e a b) := fun x hx => by
  unfold cutI at hx
  exact h x (List.mem_of_mem_drop (List.mem_of_mem_take hx))
theorem LO.add {a b : List Int} (h : LO a) (g : LO b) : LO (a ++ b) := fun x hx => (List.mem_append.mp hx).elim (h x) (g x)
theorem cut_first {e : List Int} (h : e ≠ []) (hl : LO e) : cutI e none (some 4) ≠ [] ∧ (cutI e none (some 4)).length ≤ 4 ∧ LO (cutI e none (some 4)) := by
  have hc := hl.cut (a := none) (b := some 4)
  rw [cutI_to (by omega)] at hc ⊢
  refine ⟨fun z => ?_, by rw [List.length_take]; omega, hc⟩
  have := congrArg List.length z
  rw [List.length_take, List.length_nil] at this
  have h1 := List.length_pos_iff.mpr h
  omega
theorem endsOk_snoc {xs : List (List Int)} {e : List Int} {i : Nat} (h : xs.length = i ∧ ∀ s, s ∈ xs → s ≠ [] ∧ s.length ≤ 4 ∧ LO s) (he : e ≠ []) (hl : LO e) : (xs ++ [cutI e none (some 4)]).length = i + 1 ∧ ∀ s, s ∈ xs ++ [cutI e none (some 4)] → s ≠ [] ∧ s.length ≤ 4 ∧ LO s := by
  refine ⟨by simp [h.1], fun s hs => ?_⟩
  rcases List.mem_append.mp hs with q | q
  · exact h.2 s q
  · rw [List.mem_singleton.mp q]
    exact cut_first he hl
theorem seq_k {w u : WPs} {env : DE} {S : Sto} {q : QS} (h : ∀ q1 : QS, (∀ e s, u e s q → q1.nx e s) → q1.rt = q.rt → q1.bk = q.bk → q1.ct = q.ct → q1.xc = q.xc → w env S q1) : wSeq w u env S q :=
  h { q with nx := fun e s => u e s q } (fun _ _ z => z) rfl rfl rfl rfl
theorem len__law_ends (c : Cl) : ∀ ds S Q E, sp__law_ends c ds S Q E → ds.length = 3 := by
  rintro ds S Q E ⟨_, _, _, rfl, _⟩; rfl
theorem rd__law_ends (c : Cl) : ∀ ds S Q X1, sp__law_ends c ds S Q X1 → w__law_ends c (startD N__law_ends_ ds) S (endQ Q X1) := by
  rintro ds S Q X1 ⟨p, al, m, rfl, hS, ⟨ha, ha2, ha3⟩, ⟨m1, m2⟩, h⟩
  show w__law_ends c [some (.ref p), some (dL al), some (.int m), none, none, none, none, none] S (endQ Q X1)
  obtain ⟨k0, ok0, hp⟩ := hS
  unfold w__law_ends
  simp only [wSeq, wSet, wLstM, wNil, setV]
  refine ⟨Nat.zero_le _, fun p2 hp2 => ?_⟩
  have hne : p ≠ p2 := ne_of_S hp hp2
  have e0 : put S p2 (.lst []) = put (put S p (handMO k0)) p2 (.lst []) := by rw [put_self hp]
  rw [e0]
  simp only [wFor, wRg1, wCall, wCons, wVar, wBin, wC, wNil, getV, some!, oAdd]
  refine draw_go2 hne ok0 (by omega) fun r r0 r1 k1 o1 => ?_
  refine ⟨by omega, ?_⟩
  refine forI_invq (fun i e S' => ∃ xs x4 x5 x6 x7 k, (xs.length = i ∧ ∀ s, s ∈ xs → s ≠ [] ∧ s.length ≤ 4 ∧ LO s) ∧ HandOk k ∧ S' = put (put S p (handMO k)) p2 (.lst (xs.map dL)) ∧ e = [some (.ref p), some (dL al), some (.int m), some (.ref p2), x4, x5, x6, x7]) ⟨[], _, _, _, _, k1, ⟨rfl, fun s h => by cases h⟩, o1, rfl, rfl⟩ (fun _ _ _ _ => trivial) ?_ ?_
  · rintro i d e S' hi ⟨xs, x4, x5, x6, x7, k, hx, ok, rfl, rfl⟩ q hq hrt hbk hct hxc
    obtain ⟨hlt, rfl⟩ := rngD_get hi
    have hxl : xs.length ≤ 9 := by omega
    have fin : ∀ (E : List Int) x6 x7 k x4, E ≠ [] → LO E → HandOk k → q.nx [some (.ref p), some (dL al), some (.int m), some (.ref p2), x4, some (.lst (E.map D.int)), x6, x7] (put (put S p (handMO k)) p2 (.lst (xs.map dL ++ [.lst ((cutI E none (some 4)).map D.int)]))) := fun E x6 x7 k x4 hE hL ok =>
      hq _ _ ⟨_, _, _, _, _, k, endsOk_snoc hx hE hL, ok, by rw [List.map_append]; rfl, rfl⟩
    refine seq_k fun q1 n1 _ _ _ _ => ?_
    walk_at "r"
    refine row_go2 hne ok ⟨ha, ha2, ha3⟩ (by omega) fun E hE hE2 k2 o2 => n1 _ _ ?_
    have hE20 := hE2.1
    have hLE := hE2.2
    refine seq_k fun q1 n1 _ _ _ _ => ?_
    walk_at "r"
    refine draw_go2 hne o2 (by omega) fun way v0 v1 k3 o3 => n1 _ _ ?_
    refine seq_k fun q1 n1 _ _ _ _ => ?_
    have key : ∀ (E : List Int) x7 k, E ≠ [] → LO E → HandOk k → q1.nx [some (.ref p), some (dL al), some (.int m), some (.ref p2), some (.int (0 + (i : Int))), some (.lst (E.map D.int)), some (.int way), x7] (put (put S p (handMO k)) p2 (.lst (xs.map dL))) := fun E x7 k hE hL ok => by
      refine n1 _ _ ?_
      have := fin E (some (.int way)) x7 k (some (.int (0 + (i : Int)))) hE hL ok
      walk_at "r"
      exact ⟨by unfold sizeLine; omega, this⟩
    simp only [wIf, wTest, wBin, wCB, wCons, wNil, wVar, getV, some!, wC, oLen, one, seqA, seqL, seqM, put_same, oGt, oI0, List.length_map, decide_eq_true_eq]
    split
    · rename_i g
      refine seq_k fun q2 n2 _ _ _ _ => ?_
      walk_at "r"
      refine draw_go2 hne o3 (by omega) fun r2 r20 r21 k4 o4 => ?_
      obtain ⟨el, hel, ee⟩ := at_row (xs := xs) r20 r21
      have hel2 := hx.2 el hel
      have hLe := hel2.2.2
      walk_at "r"
      rw [ee]
      refine n2 _ _ ?_
      have hEl := List.length_pos_iff.mpr hE
      have hel3 := List.length_pos_iff.mpr hel2.1
      walk_at "r"
      split
      · refine ⟨by unfold sizeLine; omega, key _ _ _ (by simp [hE]) (hLe.add hLE) o4⟩
      · split
        · have c1 := cutI_le (xs := E) (a := none) (b := some 1)
          have c2 := cutI_le (xs := E) (a := some 1) (b := none)
          refine ⟨by unfold sizeLine; omega, by unfold sizeLine; rw [List.length_append]; omega, key _ _ _ ?_ ((hLE.cut.add hLe).add hLE.cut) o4⟩
          simp [hel2.1]
        · split
          · refine draw_go2 hne o4 (by omega) fun r3 r30 r31 k5 o5 => key _ _ _ ?_ hLe.cut o5
            rw [cutI_from r30]
            intro z
            have := congrArg List.length z
            rw [List.length_drop, List.length_nil] at this
            omega
          · split
            · have c1 := cutI_le (xs := E) (a := none) (b := some 1)
              have c2 := cutI_le (xs := el) (a := none) (b := some (-1))
              refine ⟨by unfold sizeLine; omega, key _ _ _ ?_ (hLe.cut.add hLE.cut) o4⟩
              intro z
              have := congrArg List.length z
              rw [List.length_append, List.length_nil, cutI_to (xs := E) (by omega), List.length_take] at this
              omega
            · exact key _ _ _ hE hLE o4
    · exact key _ _ _ hE hLE o3
  · rintro e S' ⟨xs, x4, x5, x6, x7, k, hx, ok, rfl, rfl⟩
    rw [rngD_length] at hx
    walk_at "r"
    rw [del_two hne hp2]
    exact h xs ⟨by omega, hx.2⟩ k ok
end K93
set_option Elab.async false
set_option linter.all false
set_option maxRecDepth 100000
set_option maxHeartbeats 1000000
namespace K93
open PySem PySem.Spec PyProof.Rows L2 DL
/-! ### the plain law of states -/
theorem nodup_le {α : Type} [DecidableEq α] : ∀ {a b : List α}, a.Nodup → (∀ x, x ∈ a → x ∈ b) → a.length ≤ b.length
  | [], _, _, _ => Nat.zero_le _
  | x :: r, b, h, hs => by
    obtain ⟨h1, h2⟩ := List.nodup_cons.mp h
    have hx := hs x List.mem_cons_self
    have := nodup_le (a := r) (b := b.erase x) h2 fun y hy => (List.mem_erase_of_ne (fun e => by rw [e] at hy; exact h1 hy)).mpr (hs y (List.mem_cons_of_mem _ hy))
    rw [List.length_erase_of_mem hx] at this
    have hp := List.length_pos_of_mem hx
    rw [List.length_cons]; omega
def Prefs (xs : List (List Int)) : List (List Int) := [] :: xs.flatMap fun s => [s.take 1, s.take 2, s.take 3]
theorem prefs_len : ∀ {xs : List (List Int)}, (Prefs xs).length = 1 + 3 * xs.length := fun {xs} => by
  have : ∀ xs : List (List Int), (xs.flatMap fun s => [s.take 1, s.take 2, s.take 3]).length = 3 * xs.length := fun xs => by
    induction xs with
    | nil => rfl
    | cons s r ih => rw [List.flatMap_cons, List.length_append, ih]; show 3 + 3 * r.length = 3 * (r.length + 1); omega
  show (xs.flatMap _).length + 1 = _
  rw [this]; omega
theorem next_pref {xs : List (List Int)} (hx : EndsOk xs) {h h' : List Int} {l : Int} (e : nextF xs h l = some h') : h' ∈ Prefs xs := by
  unfold nextF at e
  split at e
  · cases e
  · cases e
    obtain ⟨b1, b2⟩ := best_heldF xs (h ++ [l])
    rcases b1 with b1 | ⟨s, hs, c1, c2, c3, c4⟩
    · rw [b1, Nat.sub_zero, List.drop_length]; exact List.mem_cons_self
    · rw [c4]
      refine List.mem_cons_of_mem _ (List.mem_flatMap.mpr ⟨s, hs, ?_⟩)
      have := (hx.2 s hs).2
      generalize heldF xs (h ++ [l]) = m at c1 c2
      rcases (show m = 1 ∨ m = 2 ∨ m = 3 by omega) with rfl | rfl | rfl <;> simp
inductive Reach (xs : List (List Int)) : List Int → Prop
  | nil : Reach xs []
  | next {h h' : List Int} {l : Nat} : Reach xs h → l < 12 → nextF xs h (l : Int) = some h' → Reach xs h'
theorem reach_pref {xs : List (List Int)} (hx : EndsOk xs) {h : List Int} (r : Reach xs h) : h ∈ Prefs xs := by
  cases r with
  | nil => exact List.mem_cons_self
  | next _ _ e => exact next_pref hx e
theorem rowH_succ {xs : List (List Int)} {h : List Int} {hs : List (List Int)} {n : Nat} : rowH xs h hs (n + 1) = addH xs h (rowH xs h hs n) n := by
  unfold rowH; rw [List.range_succ, List.foldl_append]; rfl
theorem addH_cases (xs : List (List Int)) (h : List Int) (hs : List (List Int)) (l : Nat) : (addH xs h hs l = hs ∧ ∀ k, nextF xs h (l : Int) = some k → k ∈ hs) ∨ ∃ k, nextF xs h (l : Int) = some k ∧ k ∉ hs ∧ addH xs h hs l = hs ++ [k] := by
  unfold addH
  cases e : nextF xs h (l : Int) with
  | none => exact .inl ⟨rfl, fun k z => by cases z⟩
  | some k =>
    by_cases hk : k ∈ hs
    · exact .inl ⟨if_pos hk, fun k' z => by cases z; exact hk⟩
    · exact .inr ⟨k, rfl, hk, if_neg hk⟩
/-- what holds of a list of rows met: none twice, all reached, and what was there stays where it was -/
structure Met (xs : List (List Int)) (old hs : List (List Int)) : Prop where
  nd : hs.Nodup
  ok : ∀ h, h ∈ hs → Reach xs h
  at_ : ∀ (i : Nat) h, old[i]? = some h → hs[i]? = some h
theorem Met.add {xs old hs : List (List Int)} (m : Met xs old hs) {h : List Int} (hr : Reach xs h) {l : Nat} (hl : l < 12) : Met xs old (addH xs h hs l) := by
  rcases addH_cases xs h hs l with ⟨e, _⟩ | ⟨k, e1, e2, e3⟩
  · rw [e]; exact m
  · rw [e3]
    refine ⟨List.nodup_append.mpr ⟨m.nd, List.nodup_cons.mpr ⟨List.not_mem_nil, List.nodup_nil⟩, fun a ha b hb => ?_⟩, fun x hx => ?_, fun i x hx => ?_⟩
    · rw [List.mem_singleton.mp hb]; exact fun z => e2 (z ▸ ha)
    · rcases List.mem_append.mp hx with hx | hx
      · exact m.ok x hx
      · rw [List.mem_singleton.mp hx]; exact .next hr hl e1
    · have := m.at_ i x hx
      rw [List.getElem?_append_left (lt_of_some this)]; exact this
theorem Met.row {xs old hs : List (List Int)} (m : Met xs old hs) {h : List Int} (hr : Reach xs h) : ∀ n, n ≤ 12 → Met xs old (rowH xs h hs n) ∧ (∀ x, x ∈ hs → x ∈ rowH xs h hs n) ∧ ∀ l k, l < n → nextF xs h (l : Nat) = some k → k ∈ rowH xs h hs n
  | 0, _ => ⟨m, fun _ h => h, fun l k hl => absurd hl (Nat.not_lt_zero _)⟩
  | n + 1, hn => by
    obtain ⟨m1, m2, m3⟩ := Met.row m hr n (by omega)
    rw [rowH_succ]
    have m4 := m1.add hr (l := n) (by omega)
    have key : ∀ x, x ∈ rowH xs h hs n → x ∈ addH xs h (rowH xs h hs n) n := fun x hx => by
      rcases addH_cases xs h (rowH xs h hs n) n with ⟨e, _⟩ | ⟨k, e1, e2, e3⟩
      · rw [e]; exact hx
      · rw [e3]; exact List.mem_append_left _ hx
    refine ⟨m4, fun x hx => key x (m2 x hx), fun l k hl hk => ?_⟩
    by_cases e : l = n
    · subst e
      rcases addH_cases xs h (rowH xs h hs l) l with ⟨e, h2⟩ | ⟨k', e1, e2, e3⟩
      · rw [e]; exact h2 k hk
      · rw [e1] at hk; cases hk
        rw [e3]; exact List.mem_append_right _ List.mem_cons_self
    · exact key k (m3 l k (by omega) hk)
theorem bfs_succ {xs : List (List Int)} {n : Nat} : bfs xs (n + 1) = (match (bfs xs n)[n]? with | none => bfs xs n | some h => rowH xs h (bfs xs n) 12) := rfl
theorem bfs_met (xs : List (List Int)) : ∀ n, Met xs [[]] (bfs xs n) ∧ ∀ (i : Nat) h l k, i < n → (bfs xs n)[i]? = some h → l < 12 → nextF xs h (l : Nat) = some k → k ∈ bfs xs n
  | 0 => ⟨⟨List.nodup_cons.mpr ⟨List.not_mem_nil, List.nodup_nil⟩, fun h hh => by rw [List.mem_singleton.mp hh]; exact .nil, fun _ _ h => h⟩, fun i h l k hi => absurd hi (Nat.not_lt_zero _)⟩
  | n + 1 => by
    obtain ⟨m, cl⟩ := bfs_met xs n
    rw [bfs_succ]
    cases e : (bfs xs n)[n]? with
    | none => exact ⟨m, fun i h l k hi hh hl hk => by
        by_cases z : i = n
        · subst z; rw [e] at hh; cases hh
        · exact cl i h l k (by omega) hh hl hk⟩
    | some h =>
      have hr := m.ok h (List.mem_of_getElem? e)
      obtain ⟨m1, m2, m3⟩ := m.row hr 12 (Nat.le_refl _)
      obtain ⟨m4, _, _⟩ := (show Met xs (bfs xs n) (bfs xs n) from ⟨m.nd, m.ok, fun _ _ h => h⟩).row hr 12 (Nat.le_refl _)
      refine ⟨m1, fun i h' l k hi hh hl hk => ?_⟩
      have hn := lt_of_some e
      have hb : (bfs xs n)[i]? = some ((bfs xs n)[i]'(by omega)) := List.getElem?_eq_getElem (by omega)
      have hb2 := m4.at_ _ _ hb
      rw [hh] at hb2
      cases hb2
      by_cases z : i = n
      · subst z
        rw [e] at hb
        cases hb
        exact m3 l k hl hk
      · exact m2 _ (cl i _ l k (by omega) hb hl hk)
theorem bfs_len {xs : List (List Int)} (hx : EndsOk xs) (n : Nat) : (bfs xs n).length ≤ 19 := by
  have := nodup_le (bfs_met xs n).1.nd fun h hh => reach_pref hx ((bfs_met xs n).1.ok h hh)
  rw [prefs_len] at this
  have := hx.1
  omega
theorem read_iff {xs : List (List Int)} (hx : EndsOk xs) {h : List Int} : h ∈ readH xs ↔ Reach xs h := by
  obtain ⟨m, cl⟩ := bfs_met xs 25
  refine ⟨m.ok h, fun r => ?_⟩
  induction r with
  | nil => exact List.mem_of_getElem? (m.at_ 0 [] rfl)
  | next hr hl e ih =>
    obtain ⟨i, hi⟩ := List.mem_iff_getElem?.mp ih
    have := lt_of_some hi
    have h19 := bfs_len hx 25
    exact cl i _ _ _ (by have : i < (bfs xs 25).length := this; omega) hi hl e
theorem bfs_stop {xs : List (List Int)} {n : Nat} (h : (bfs xs n).length ≤ n) : ∀ m, n ≤ m → bfs xs m = bfs xs n
  | 0, hm => by rw [show n = 0 by omega]
  | m + 1, hm => by
    by_cases e : n = m + 1
    · rw [e]
    · have ih := bfs_stop h m (by omega)
      rw [bfs_succ, ih, List.getElem?_eq_none (by omega)]
/-! ### the program's states -/
end K93
set_option Elab.async false
set_option linter.all false
set_option maxRecDepth 100000
set_option maxHeartbeats 1000000
namespace K93
open PySem PySem.Spec PyProof.Rows L2 DL
theorem len_Stopper_twin (c : Cl) : ∀ ds S Q E, sp_Stopper_twin c ds S Q E → ds.length = 1 := by
  rintro ds S Q E ⟨_, _, rfl, _⟩; rfl
theorem rows_tup {S : Sto} {xs : List (List Int)} : Rows S (.tup (xs.map dT)) xs := ⟨_, rfl, List.length_map _, fun i e s h1 h2 => by
  rw [List.getElem?_map, h2] at h1
  cases h1; rfl⟩
theorem rd_Stopper_twin (c : Cl) : ∀ ds S Q X1, sp_Stopper_twin c ds S Q X1 → w_Stopper_twin c (startD N_Stopper_twin_ ds) S (endQ Q X1) := by
  rintro ds S Q X1 ⟨a, ⟨stops, held, many, stop⟩, rfl, hS, hlen, h⟩
  have hS' : S a = some (.ins c.Stopper N_Stopper [some (.tup (stops.map dT)), some (dT held), some (.int many), some (.bl stop)]) := hS
  show w_Stopper_twin c [some (.ref a), none] S (endQ Q X1)
  unfold w_Stopper_twin
  refine seq_k fun q1 n1 r1 _ _ x1 => ?_
  simp only [wSet, wMake, wCons, wNil, wFld, wVar, getV, setV, some!, fldD, hS', true_and]
  refine fun x hx => ⟨x, _, stops, rfl, put_same, ⟨rows_tup, hlen⟩, rfl, n1 _ _ ?_⟩
  rw [put_put]
  have ne : a ≠ x := fun z => by rw [z, hx] at hS; cases hS
  have h2 := h x hx
  have put3 : ∀ m n, put (put S x m) x n = put S x n := fun _ _ => put_put
  have at_ : ∀ m, put S x m a = some (.ins c.Stopper N_Stopper [some (.tup (stops.map dT)), some (dT held), some (.int many), some (.bl stop)]) := fun m => by rw [put_ne ne]; exact hS'
  refine seq_k fun q1 n1 r1 _ _ x1 => ?_
  simp only [wSetF, wFld, wVar, getV, setV, some!, fldD, setD, at_, put_same, put3, stMO, true_and]
  refine n1 _ _ ?_
  refine seq_k fun q1 n1 r1 _ _ x1 => ?_
  simp only [wSetF, wFld, wVar, getV, setV, some!, fldD, setD, at_, put_same, put3, stMO, true_and, List.set_cons_zero, List.set_cons_succ]
  refine n1 _ _ ?_
  refine seq_k fun q1 n1 r1 _ _ x1 => ?_
  simp only [wSetF, wFld, wVar, getV, setV, some!, fldD, setD, at_, put_same, put3, stMO, true_and, List.set_cons_zero, List.set_cons_succ]
  refine n1 _ _ ?_
  simp only [wRet, wVar, getV, some!]
  exact h2
end K93
set_option Elab.async false
set_option linter.all false
set_option maxRecDepth 100000
set_option maxHeartbeats 1000000
namespace K93
open PySem PySem.Spec PyProof.Rows L2 DL
theorem oLen_of {S : Sto} {d : D} {xs : List D} {Q : Qd} (h : seqA S d = some xs) (q : Q (.int (xs.length : Nat)) S) : oLen S [d] Q := by
  have key : some! (seqA S d) fun xs => Q (.int (xs.length : Nat)) S := by rw [h]; exact q
  cases d with
  | str x => cases h
  | _ => exact key
theorem oIx_eq {S : Sto} {x d : D} {i : Int} {xs : List D} (h : seqA S x = some xs) (h2 : atI xs i = some d) (Q : Qd) : oIx S x (.int i) Q = Q d S := by
  show some! (seqA S x) _ = _
  rw [h]
  show some! (atI xs i) _ = _
  rw [h2]
  rfl
theorem at_k {α : Type} {xs : List α} {k : Nat} {x : α} (h : xs[k]? = some x) : atI xs (k : Int) = some x := by
  have hl := lt_of_some h
  unfold atI ixN
  rw [if_pos (by omega), if_pos (by omega)]
  show xs[(k : Int).toNat]? = _
  rw [Int.toNat_natCast]; exact h
theorem seqA_at {S : Sto} {p : Addr} {xs : List D} (h : S p = some (.lst xs)) : seqA S (.ref p) = some xs := by
  show (match S p with | some (MO.lst xs) => some xs | _ => none) = _
  rw [h]
theorem pref_len {xs : List (List Int)} {h : List Int} (hh : h ∈ Prefs xs) : h.length ≤ 3 := by
  cases hh with
  | head => exact Nat.zero_le _
  | tail _ hh =>
    obtain ⟨s, _, h2⟩ := List.mem_flatMap.mp hh
    simp only [List.mem_cons, List.not_mem_nil, or_false] at h2
    rcases h2 with rfl | rfl | rfl <;> rw [List.length_take] <;> omega
theorem isIns_of {c : Cl} {S : Sto} {a : Addr} {s : Stp3} (h : S a = some (stMO c s)) : isIns c.Stopper N_Stopper S (.ref a) := by
  show (match S a with | some (.ins C' N' _) => C' = c.Stopper ∧ N' = N_Stopper | _ => False)
  rw [h]
  exact ⟨rfl, rfl⟩
end K93
set_option Elab.async false
set_option linter.all false
set_option maxRecDepth 100000
set_option maxHeartbeats 1000000
namespace K93
open PySem PySem.Spec PyProof.Rows L2 DL
theorem at_map {α : Type} {f : α → D} {l : List α} {k : Nat} {x : α} (h : l[k]? = some x) : atI (l.map f) (k : Int) = some (f x) := at_k (by rw [List.getElem?_map, h]; rfl)
theorem at_last {α : Type} {xs : List α} {x : α} (h : xs[xs.length - 1]? = some x) : atI xs (-1) = some x := by
  have hn := lt_of_some h
  unfold atI ixN
  rw [if_neg (by decide), if_pos (by omega)]
  show xs[(-1 + (xs.length : Int)).toNat]? = _
  rw [show (-1 + (xs.length : Int)).toNat = xs.length - 1 by omega, h]
/-! ### what the reader meets is laid as rows of ints -/
def toInt (xs : List Int) : PyData := .tuple (xs.map PyData.int)
theorem toPs_ints : ∀ xs : List Int, toPs (xs.map D.int) = xs.map PyData.int
  | [] => rfl
  | x :: r => by
    show PyData.int x :: toPs (r.map D.int) = _
    rw [toPs_ints r]; rfl
theorem toP_dT (xs : List Int) : toP (dT xs) = toInt xs := by
  show PyData.tuple (toPs (xs.map D.int)) = _
  rw [toPs_ints]; rfl
theorem toP_dL (xs : List Int) : toP (dL xs) = .list (xs.map PyData.int) := by
  show PyData.list (toPs (xs.map D.int)) = _
  rw [toPs_ints]
theorem toPs_map {α : Type} {f : α → D} {g : α → PyData} (h : ∀ a, toP (f a) = g a) : ∀ xs : List α, toPs (xs.map f) = xs.map g
  | [] => rfl
  | x :: r => by
    show toP (f x) :: toPs (r.map f) = _
    rw [h, toPs_map h r]; rfl
theorem lay_ints : ∀ xs : List Int, PyData.canLayAll0 (xs.map PyData.int) = true
  | [] => rfl
  | x :: r => by
    show (true && PyData.canLayAll0 (r.map PyData.int)) = true
    rw [lay_ints r]; rfl
theorem lay_all {α : Type} {g : α → PyData} (h : ∀ a, (g a).canLay0 = true) : ∀ xs : List α, PyData.canLayAll0 (xs.map g) = true
  | [] => rfl
  | x :: r => by
    show ((g x).canLay0 && PyData.canLayAll0 (r.map g)) = true
    rw [h, lay_all h r]; rfl
theorem depth_ints : ∀ xs : List Int, PyData.depthAll (xs.map PyData.int) = 0
  | [] => rfl
  | x :: r => by
    show max 0 (PyData.depthAll (r.map PyData.int)) = 0
    rw [depth_ints r]; rfl
theorem eqv_ints : ∀ {a b : List Int}, PyData.eqvAll (a.map PyData.int) (b.map PyData.int) = decide (a = b)
  | [], [] => rfl
  | [], _ :: _ => by rw [decide_eq_false (by simp)]; rfl
  | _ :: _, [] => by rw [decide_eq_false (by simp)]; rfl
  | x :: a, y :: b => by
    show (decide (x = y) && PyData.eqvAll (a.map PyData.int) (b.map PyData.int)) = _
    rw [eqv_ints]
    by_cases h1 : x = y <;> by_cases h2 : a = b <;> simp [h1, h2]
theorem eqv_toInt {a b : List Int} : PyData.eqv (toInt a) (toInt b) = decide (a = b) := by
  show PyData.eqvAll (a.map PyData.int) (b.map PyData.int) = _
  exact eqv_ints
end K93
set_option Elab.async false
set_option linter.all false
set_option maxRecDepth 100000
set_option maxHeartbeats 1000000
namespace K93
open PySem PySem.Spec PyProof.Rows L2 DL
theorem take_of_at {α : Type} {a b : List α} (h : ∀ (i : Nat) x, a[i]? = some x → b[i]? = some x) {n : Nat} (hn : n ≤ a.length) : b.take n = a.take n := by
  refine List.ext_getElem? fun i => ?_
  rw [List.getElem?_take, List.getElem?_take]
  by_cases e : i < n
  · rw [if_pos e, if_pos e]
    have := List.getElem?_eq_getElem (show i < a.length by omega)
    rw [this, h i _ this]
  · rw [if_neg e, if_neg e]
theorem hasD_row {h : List Int} {hs : List (List Int)} : hasD (toInt h) (hs.map toInt) = decide (h ∈ hs) := by
  unfold hasD
  induction hs with
  | nil => rfl
  | cons x r ih =>
    rw [List.map_cons, List.any_cons, ih, eqv_toInt]
    by_cases e1 : x = h
    · subst e1; simp
    · by_cases e2 : h ∈ r <;> simp [e1, e2, Ne.symm e1]
theorem hasD_int {l : Int} {s : List Int} : hasD (.int l) (s.map PyData.int) = decide (l ∈ s) := by
  unfold hasD
  induction s with
  | nil => rfl
  | cons x r ih =>
    rw [List.map_cons, List.any_cons, ih]
    show (decide (x = l) || _) = _
    by_cases e1 : x = l
    · subst e1; simp
    · by_cases e2 : l ∈ r <;> simp [e1, e2, Ne.symm e1]
theorem lay_dT {S : Sto} {h : List Int} : layP S (dT h) := by
  unfold layP
  show (toP (dT h)).canLay0 = true ∧ (toP (dT h)).depth ≤ 8
  rw [toP_dT]
  refine ⟨lay_ints h, ?_⟩
  show PyData.depthAll (h.map PyData.int) + 1 ≤ 8
  rw [depth_ints]; decide
theorem lay_toInt (h : List Int) : (toInt h).canLay0 = true := lay_ints h
/-- a row of ints in a mutable list of rows -/
theorem in_rows {neg : Bool} {S : Sto} {a : Addr} {h : List Int} {hs : List (List Int)} {Q : Qd} (e : S a = some (.lst (hs.map dT))) (q : Q (.bl (if neg = true then !decide (h ∈ hs) else decide (h ∈ hs))) S) : oInD neg S (dT h) (.ref a) Q := by
  have er : resD S (.ref a) = .lst (hs.map dT) := by
    show (match S a with | some (.lst xs) => D.lst xs | _ => .ref a) = _
    rw [e]
  have ep : toP (resD S (.ref a)) = .list (hs.map toInt) := by
    rw [er]
    show PyData.list (toPs (hs.map dT)) = _
    rw [toPs_map toP_dT]
  have eh : toP (resD S (dT h)) = toInt h := toP_dT h
  refine ⟨lay_dT, by rw [ep]; exact lay_all lay_toInt hs, ?_⟩
  rw [ep, eh]
  show Q (.bl (if neg = true then !hasD (toInt h) (hs.map toInt) else hasD (toInt h) (hs.map toInt))) S
  rw [hasD_row]
  exact q
theorem in_int {S : Sto} {l : Int} {s : List Int} {Q : Qd} (q : Q (.bl (decide (l ∈ s))) S) : oInD false S (.int l) (.lst (s.map D.int)) Q := by
  have ep : toP (resD S (.lst (s.map D.int))) = .list (s.map PyData.int) := toP_dL s
  refine ⟨⟨rfl, Nat.zero_le _⟩, by rw [ep]; exact lay_ints s, ?_⟩
  rw [ep]
  show Q (.bl (hasD (.int l) (s.map PyData.int))) S
  rw [hasD_int]
  exact q
/-- the place of a row -/
theorem first_at : ∀ {hs : List (List Int)} {h : List Int}, h ∈ hs → ∃ k : Nat, hs[k]? = some h ∧ ∀ m : Nat, m < k → hs[m]? ≠ some h
  | [], _, hh => by cases hh
  | x :: r, h, hh => by
    by_cases e : x = h
    · exact ⟨0, by rw [e]; rfl, fun m hm => absurd hm (Nat.not_lt_zero _)⟩
    · obtain ⟨k, h1, h2⟩ := first_at (hs := r) ((List.mem_cons.mp hh).resolve_left (Ne.symm e))
      refine ⟨k + 1, h1, fun m hm => ?_⟩
      cases m with
      | zero => exact fun z => e (Option.some.inj z)
      | succ m => exact h2 m (by omega)
theorem index_rows {S : Sto} {a : Addr} {h : List Int} {hs : List (List Int)} {Q : Qd} (e : S a = some (.lst (hs.map dT))) (hz : hs.length ≤ 1000) (hh : h ∈ hs) (q : ∀ k : Nat, Q (.int (k : Int)) S) : oIndex S (.ref a) [dT h] Q := by
  obtain ⟨k, k1, k2⟩ := first_at hh
  have em : toPs (hs.map dT) = hs.map toInt := toPs_map toP_dT hs
  have eh : toP (resD S (dT h)) = toInt h := toP_dT h
  show mutL S (.ref a) _
  unfold mutL
  simp only [e]
  refine ⟨lay_dT, by rw [em]; exact lay_all lay_toInt hs, by rw [List.length_map]; unfold sizeLine; omega, k, toInt h, by rw [em, List.getElem?_map, k1]; rfl, by rw [eh, eqv_toInt]; exact decide_eq_true rfl, fun m z hm hz => ?_, q _⟩
  rw [em, List.getElem?_map] at hz
  obtain ⟨y, hy, rfl⟩ := Option.map_eq_some_iff.mp hz
  rw [eh, eqv_toInt]
  exact decide_eq_false fun e => k2 m hm (by rw [hy, e])
/-- a letter of no end -/
theorem no_letter {xs : List (List Int)} (hx : EndsOk xs) {h : List Int} {l : Int} (hl : (xs.any fun s => decide (l ∈ s)) = false) : stopF xs (h ++ [l]) = 0 ∧ heldF xs (h ++ [l]) = 0 := by
  have no : ∀ s, s ∈ xs → l ∉ s := fun s hs => by
    have := List.any_eq_false.mp hl s hs
    simpa using this
  have last : ∀ (t s : List Int) (k : Nat), 1 ≤ k → k ≤ (h ++ [l]).length → (h ++ [l]).drop ((h ++ [l]).length - k) = t → l ∈ t := fun t s k h1 h2 e => by
    rw [← e, List.length_append]
    show l ∈ (h ++ [l]).drop (h.length + 1 - k)
    rw [List.drop_append_of_le_length (by omega)]
    exact List.mem_append_right _ List.mem_cons_self
  constructor
  · obtain ⟨b1, _⟩ := best_stopF xs (h ++ [l])
    rcases b1 with b1 | ⟨s, hs, e1, e2, e3⟩
    · exact b1
    · exfalso
      have hne := (hx.2 s hs).1
      exact no s hs (last s s s.length (List.length_pos_iff.mpr hne) e2 e3)
  · obtain ⟨b1, _⟩ := best_heldF xs (h ++ [l])
    rcases b1 with b1 | ⟨s, hs, c1, c2, c3, c4⟩
    · exact b1
    · exfalso
      exact no s hs (List.mem_of_mem_take (last _ s _ c1 c3 c4))
theorem next_none {xs : List (List Int)} {h : List Int} {l : Int} : (nextF xs h l).isNone = decide (0 < stopF xs (h ++ [l])) := by
  unfold nextF
  by_cases e : 0 < stopF xs (h ++ [l])
  · rw [if_pos e, decide_eq_true e]; rfl
  · rw [if_neg e, decide_eq_false e]; rfl
end K93
set_option Elab.async false
set_option linter.all false
set_option maxRecDepth 100000
set_option maxHeartbeats 1000000
namespace K93
open PySem PySem.Spec PyProof.Rows L2 DL
structure RS (S0 S : Sto) (a b : Addr) (hs : List (List Int)) (mv : List (List (Int × Int))) : Prop where
  ext : Ext S0 S
  new : S0 a = none ∧ S0 b = none ∧ a ≠ b
  ata : S a = some (.lst (hs.map dT))
  atb : S b = some (.lst (mv.map dRow))
theorem RowsL.ext {S S' : Sto} {d : D} {xs : List (List Int)} (h : RowsL S d xs) (e : Ext S S') : RowsL S' d xs := by
  rcases seqL_cases h with ⟨p, rfl, hp⟩ | rfl | rfl
  · show (match S' p with | some (.lst ys) => some ys | _ => none) = _
    rw [e _ _ hp]
  · rfl
  · rfl
theorem add_letter {S : Sto} {h : List Int} {l : Int} {Q : Qd} (hl : h.length ≤ 1000) (q : Q (dT (h ++ [l])) S) : oAdd S (dT h) (.tup [.int l]) Q := by
  show (h.map D.int).length + 1 ≤ sizeLine ∧ Q (.tup (h.map D.int ++ [.int l])) S
  refine ⟨by rw [List.length_map]; unfold sizeLine; omega, ?_⟩
  unfold dT at q
  rw [List.map_append] at q
  exact q
def letD (l : Int) (d : D) : Option D := match d with
  | .lst ys => some (.bl (hasD (.int l) (toPs ys)))
  | _ => none
theorem fm_let {l : Int} : ∀ xs : List (List Int), (xs.map dL).filterMap (letD l) = (xs.map fun s => decide (l ∈ s)).map D.bl
  | [] => rfl
  | s :: r => by
    have e : letD l (dL s) = some (.bl (decide (l ∈ s))) := by
      show some (D.bl (hasD (.int l) (toPs (s.map D.int)))) = _
      rw [toPs_ints, hasD_int]
    rw [List.map_cons, List.filterMap_cons, e, fm_let r]; rfl
theorem any_letter {S : Sto} {d : D} {xs : List (List Int)} {env : DE} {l : Int} {Q : Qd} {E : XQ} (hd : RowsL S d xs) (hz : xs.length ≤ 1000) (h0 : getV env 0 = some d) (h9 : ∀ x, getV (setV (delVs env [9]) 9 x) 9 = some x ∧ getV (setV (delVs env [9]) 9 x) 5 = some (.int l)) (q : Q (.bl (xs.any fun s => decide (l ∈ s))) S) :
    wCB oAny (wCons (wLc (wIt (wVar 0)) (gN 9) wYes (wBin (oInD false) (wVar 5) (wVar 9)) [9]) wNil) env S Q E := by
  have hA := seqA_ofL hd
  simp only [wCB, wCons, wNil, wLc, wIt, wVar, h0, some!, hA]
  refine ⟨by rw [List.length_map]; unfold sizeLine; omega, compI_map (letD l) hA (fun x hx R hR => ?_) ?_⟩
  · obtain ⟨s, _, rfl⟩ := List.mem_map.mp hx
    have e : letD l (dL s) = some (.bl (decide (l ∈ s))) := by
      show some (D.bl (hasD (.int l) (toPs (s.map D.int)))) = _
      rw [toPs_ints, hasD_int]
    rw [e] at hR
    simp only [gN, wYes, if_true, wBin, wVar, (h9 (dL s)).1, (h9 (dL s)).2, some!]
    exact in_int hR
  · rw [fm_let]
    simp only [oAny, one, seqL, seqM, some!, toBls_map, List.any_map, Function.comp_def, id]
    exact q
theorem stopped_call {c : Cl} {S : Sto} {d : D} {xs : List (List Int)} {t : List Int} {Q : Qd} {E : XQ} (hd : RowsL S d xs) (q : Q (.int (stopF xs t : Nat)) S) : sp__law_stopped c [d, dT t] S Q E := ⟨d, xs, dT t, t, rfl, hd, rfl, q⟩
theorem held_call {c : Cl} {S : Sto} {d : D} {xs : List (List Int)} {t : List Int} {Q : Qd} {E : XQ} (hx : EndsOk xs) (hd : RowsL S d xs) (q : Q (.int (heldF xs t : Nat)) S) : sp__law_held c [d, dT t] S Q E :=
  ⟨d, xs, dT t, t, rfl, hd, rfl, (fun s hs => by have := (hx.2 s hs).2; omega), q⟩
theorem slice_end {S : Sto} {t : List Int} {n : Nat} {Q : Qd} (hn : n ≤ t.length) (q : Q (dT (t.drop (t.length - n))) S) : oSl S (dT t) (some ((t.length : Int) - (n : Int))) none Q := by
  simp only [oSl, dT, cutD_int]
  rw [cutI_end hn]
  exact q
end K93
set_option Elab.async false
set_option linter.all false
set_option maxRecDepth 100000
set_option maxHeartbeats 1000000
namespace K93
open PySem PySem.Spec PyProof.Rows L2 DL
local macro_rules | `(tactic| walk_at "r") => `(tactic| try simp only [wSeq, wNext, wSet, wC, wFor, wIt, wRg1, wRg2, wVar, wIf, wAnd, wOr, wNot, wTest, wChain, wBin, wCB, wCons, wNil, wSl, wP, wNoP, wRet, wRetN, wDrop, wCall, wTup, wLst, wLstM, wUn, wIfE, wAndV, wOrV, wNotV, wIsi, wYes, wSetI, wSetF, wFld, wAugF, wMt, wMeth, wLc, wLcM, wBreak, xcQ, fldD, setD, setIx, mutL, isIns, stMO, put_same, put_put, oAppend, oExtend,
  getV, setV, some!, one, two, asI, oLen, oLt, oLe, oGt, oGe, oI0, oI, oSub, oMul, oMod, oDiv, oPow, oAdd, oCatL, oEq, oNe, oIsN, oNotN, oIx, oSl, oTuple, oList, oMax2, oMin2, oInt, gN, seqA, seqL, seqM, dT, dL, List.length_map, decide_eq_true_eq, shD_int, shD_bl, shD_lst, shD_tup, eqD_int, eqD_bl, eqD_lst, eqD_tup, cutD_int, true_and, and_true, if_true, if_false, Bool.false_eq_true, Bool.true_eq_false, eq_self_iff_true,
  at_0, at_1, at_2, at_3, ix4_1, ix4_2, ix4_3, ix2_0, ix2_1, List.set_cons_zero, List.set_cons_succ, Bool.not_true, Bool.not_false, tyN, kb1, kb2, kb3, kb4, kb5, kb6, kb7, kb8, kb9, kb10, kb11, isNon, delVs, delV, oNeg, wFrz, frzD, ← List.map_append])
local macro_rules | `(tactic| walk_at "c") => `(tactic| try simp only [wSeq, wNext, wSet, wC, wVar, wIf, wAnd, wOr, wNot, wTest, wBin, wCB, wCons, wNil, wRet, wDrop, wCall, wMeth, wIfE, xcQ, getV, setV, some!, true_and, and_true, if_true, if_false, Bool.false_eq_true, Bool.true_eq_false, eq_self_iff_true, Bool.not_true, Bool.not_false])
theorem plain_dT {n : Nat} {xs : List Int} (h : xs.length ≤ 1000) : plain (n + 1) (dT xs) := by
  refine ⟨by rw [List.length_map]; exact h, fun x hx => ?_⟩
  obtain ⟨i, _, rfl⟩ := List.mem_map.mp hx
  cases n <;> trivial
theorem same_go {c : Cl} {d : D} {S : Sto} {Q : Qd} {X : XQ} (hp : plain 7 d) (h : Q (.bl true) S) : sp__law_same c [d, d] S Q X := ⟨d, rfl, hp, h⟩
theorem shD_rows {S : Sto} {xs : List (List Int)} : shD S (.lst (xs.map dL)) = true := shaped_of (n := 2) (okP_lst fun x hx => by
  obtain ⟨s, _, rfl⟩ := List.mem_map.mp hx
  exact okP_dL) (by decide)
theorem eqD_rows {S : Sto} {xs ys : List (List Int)} : eqD S (.lst (xs.map dL)) (.lst (ys.map dL)) = decide (xs = ys) := eqvAll_map eqv_dL xs ys
theorem cutD_rows {xs : List (List Int)} : cutD (xs.map dL) none (some 4) = (xs.take 4).map dL := by
  unfold DL.cutD
  rw [List.length_map, HT.sIx_none, sIx_pos (by decide), List.drop_zero, Nat.sub_zero, List.map_take]
  show List.take (min 4 xs.length) _ = _
  by_cases h : 4 ≤ xs.length
  · rw [Nat.min_eq_left h]
  · rw [Nat.min_eq_right (by omega), List.take_of_length_le (by simp), List.take_of_length_le (by simp; omega)]
def asTup (d : D) : Option D := match d with
  | .lst ys => some (.tup ys)
  | _ => none
theorem tup_rows {few : List (List Int)} : (few.map dL).filterMap asTup = few.map dT := by
  rw [List.filterMap_map]
  exact fm_map few fun e _ => rfl
end K93
set_option Elab.async false
set_option linter.all false
set_option maxRecDepth 100000
set_option maxHeartbeats 1000000
namespace K93
open PySem PySem.Spec PyProof.Rows L2 DL
/-! ### how many, told -/
theorem lst_res {S : Sto} {d : D} {xs : List (List Int)} (h : RowsL S d xs) (hf : ∀ ys, d ≠ .fro ys) : resD S d = .lst (xs.map dL) := by
  rcases seqL_cases h with ⟨p, rfl, hp⟩ | rfl | rfl
  · show (match S p with | some (.lst xs) => D.lst xs | _ => .ref p) = _
    rw [hp]
  · rfl
  · exact absurd rfl (hf _)
theorem ne_rows {S : Sto} {a b : D} {xs : List (List Int)} {Q : Qd} (ha : RowsL S a xs) (hb : RowsL S b xs) (fa : ∀ ys, a ≠ .fro ys) (fb : ∀ ys, b ≠ .fro ys) (q : Q (.bl false) S) : oNe S a b Q := by
  have e1 := lst_res ha fa
  have e2 := lst_res hb fb
  have s := shD_rows (S := S) (xs := xs)
  have t := eqD_rows (S := S) (xs := xs) (ys := xs)
  unfold shD at s
  unfold eqD at t
  have s' : SeqAt.shaped (toP (.lst (xs.map dL))) = true := s
  have t' : PyData.eqv (toP (.lst (xs.map dL))) (toP (.lst (xs.map dL))) = decide (xs = xs) := t
  refine ⟨by unfold shD; rw [e1]; exact s', by unfold shD; rw [e2]; exact s', ?_⟩
  unfold eqD
  rw [e1, e2, t', decide_eq_true rfl]
  exact q
end K93
set_option Elab.async false
set_option linter.all false
set_option maxRecDepth 100000
set_option maxHeartbeats 1000000
namespace K93
open PySem PySem.Spec PyProof.Rows L2 DL
theorem ext_put {S S' : Sto} {p : Addr} {m : MO} (e : Ext S S') (h : S' p = none) : Ext S (put S' p m) := fun a n z => by
  have := e a n z
  rw [put_ne (fun y => by rw [y, h] at this; cases this)]; exact this
theorem rows_of {S : Sto} {d : D} {xs : List (List Int)} (h : RowsL S d xs) : Rows S d xs := ⟨_, seqA_ofL h, List.length_map _, fun i e s h1 h2 => by
  rw [List.getElem?_map, h2] at h1
  cases h1; rfl⟩
def lstD (d : D) : Option D := match d with
  | .lst ys => some (.lst ys)
  | _ => none
theorem fm_lst : ∀ xs : List (List Int), (xs.map dL).filterMap lstD = xs.map dL
  | [] => rfl
  | x :: r => by
    show dL x :: (r.map dL).filterMap lstD = _
    rw [fm_lst r]; rfl
end K93
set_option Elab.async false
set_option linter.all false
set_option maxRecDepth 100000
set_option maxHeartbeats 1000000
namespace K93
open PySem PySem.Spec PyProof.Rows L2 DL
/-! ### fed letter by letter, as it is due -/
theorem cutI_mid {xs : List Int} {a b : Nat} (h1 : a ≤ b) (h2 : b ≤ xs.length) : cutI xs (some (a : Int)) (some (b : Int)) = (xs.drop a).take (b - a) := by
  have e := cutD_int (xs := xs) (lo := some (a : Int)) (hi := some (b : Int))
  have inj : ∀ {u v : List Int}, u.map D.int = v.map D.int → u = v := fun {u v} h => by
    have := congrArg toInts h
    rw [toInts_map, toInts_map] at this
    exact Option.some.inj this
  apply inj
  rw [← e]
  unfold DL.cutD
  rw [List.length_map, sIx_pos (by omega), sIx_pos (by omega)]
  show ((xs.map D.int).drop (min (a : Int).toNat xs.length)).take (min (b : Int).toNat xs.length - min (a : Int).toNat xs.length) = _
  rw [Int.toNat_natCast, Int.toNat_natCast, Nat.min_eq_left h2, Nat.min_eq_left (by omega), List.map_take, List.map_drop]
structure FI (xs : List (List Int)) (text : List Int) (k : Nat) (rows : List (List Int)) (s : Stp3) (sent : Nat) : Prop where
  eq : fedF xs (text.take k) = (rows, s)
  stops : s.stops = xs
  le : sent ≤ k
  run : s.stop = false → sent + heldF xs (text.take k) = k ∧ s.held = (text.take k).drop sent
  fin : s.stop = true → s.held = []
theorem fi_start {xs : List (List Int)} {text : List Int} : FI xs text 0 [] ⟨xs, [], 0, false⟩ 0 :=
  ⟨rfl, rfl, Nat.le_refl _, fun _ => ⟨by have := heldF_le xs (text.take 0); rw [List.take_zero] at this ⊢; simpa using this, by simp⟩, fun h => by cases h⟩
theorem fed_snoc {xs : List (List Int)} {text : List Int} {k : Nat} {l : Int} {rows : List (List Int)} {s : Stp3} (h : fedF xs (text.take k) = (rows, s)) (hl : text[k]? = some l) : fedF xs (text.take (k + 1)) = (rows ++ [(feedF s l).1], (feedF s l).2) := by
  unfold fedF at h ⊢
  rw [List.take_add_one, hl]
  show List.foldl _ _ (text.take k ++ [l]) = _
  rw [List.foldl_append, h]; rfl
theorem FI.stopped {xs : List (List Int)} {text : List Int} {k : Nat} {l : Int} {rows : List (List Int)} {s : Stp3} {sent : Nat} (f : FI xs text k rows s sent) (hl : text[k]? = some l) (hs : s.stop = true) : FI xs text (k + 1) (rows ++ [[]]) s sent := by
  have e : feedF s l = ([], s) := by unfold feedF; rw [if_pos hs]
  have := fed_snoc f.eq hl
  rw [e] at this
  exact ⟨this, f.stops, by have := f.le; omega, (fun z => by rw [hs] at z; cases z), f.fin⟩
theorem FI.go {xs : List (List Int)} {text : List Int} {k : Nat} {l : Int} {rows : List (List Int)} {s : Stp3} {sent : Nat} (f : FI xs text k rows s sent) (hl : text[k]? = some l) (hs : s.stop = false) :
    (0 < stopF xs (text.take (k + 1)) → ∃ s', s'.stop = true ∧ sent ≤ k + 1 - stopF xs (text.take (k + 1)) ∧ stopF xs (text.take (k + 1)) ≤ k + 1 ∧ FI xs text (k + 1) (rows ++ [(text.drop sent).take (k + 1 - stopF xs (text.take (k + 1)) - sent)]) s' (k + 1 - stopF xs (text.take (k + 1)))) ∧
    (¬ 0 < stopF xs (text.take (k + 1)) → ∃ s', s'.stop = false ∧ sent ≤ k + 1 - heldF xs (text.take (k + 1)) ∧ heldF xs (text.take (k + 1)) ≤ k + 1 ∧ FI xs text (k + 1) (rows ++ [(text.drop sent).take (k + 1 - heldF xs (text.take (k + 1)) - sent)]) s' (k + 1 - heldF xs (text.take (k + 1)))) := by
  obtain ⟨r1, r2⟩ := f.run hs
  have hk := lt_of_some hl
  have tl : (text.take k).length = k := by rw [List.length_take]; omega
  have e1 : text.take (k + 1) = text.take k ++ [l] := by rw [List.take_add_one, hl]; rfl
  have es : sent = (text.take k).length - heldF xs (text.take k) := by rw [tl]; omega
  have ht : s.held ++ [l] = (text.take (k + 1)).drop sent := by
    rw [r2, e1, List.drop_append_of_le_length (by rw [tl]; exact f.le)]
  have st : stopF xs (s.held ++ [l]) = stopF xs (text.take (k + 1)) := by
    rw [r2, es, stopF_feed, ← e1]
  have hd : heldF xs (s.held ++ [l]) = heldF xs (text.take (k + 1)) := by
    rw [r2, es, heldF_feed, ← e1]
  have hlen : (s.held ++ [l]).length = k + 1 - sent := by
    rw [ht, List.length_drop, List.length_take]
    omega
  have b1 := stopF_le xs (s.held ++ [l])
  have b2 := heldF_le xs (s.held ++ [l])
  rw [st, hlen] at b1
  rw [hd, hlen] at b2
  have fle := f.le
  have fd := fed_snoc f.eq hl
  have part : ∀ n, n ≤ k + 1 - sent → (s.held ++ [l]).take ((s.held ++ [l]).length - n) = (text.drop sent).take (k + 1 - n - sent) := fun n hn => by
    rw [hlen, ht, List.drop_take, List.take_take]
    congr 1
    omega
  constructor
  · intro z
    have e : feedF s l = ((s.held ++ [l]).take ((s.held ++ [l]).length - stopF s.stops (s.held ++ [l])), { s with stop := true, held := [], many := s.many + (((s.held ++ [l]).length : Int) - (stopF s.stops (s.held ++ [l]) : Int)) }) := by
      unfold feedF
      rw [if_neg (by rw [hs]; exact Bool.false_ne_true)]
      dsimp only
      rw [if_pos (by rw [f.stops, st]; exact z)]
    rw [e, f.stops, st, part _ b1] at fd
    exact ⟨_, rfl, by omega, by omega, fd, rfl, by omega, (fun y => by cases y), fun _ => rfl⟩
  · intro z
    have e : feedF s l = ((s.held ++ [l]).take ((s.held ++ [l]).length - heldF s.stops (s.held ++ [l])), { s with held := (s.held ++ [l]).drop ((s.held ++ [l]).length - heldF s.stops (s.held ++ [l])), many := s.many + (((s.held ++ [l]).length : Int) - (heldF s.stops (s.held ++ [l]) : Int)) }) := by
      unfold feedF
      rw [if_neg (by rw [hs]; exact Bool.false_ne_true)]
      dsimp only
      rw [if_neg (by rw [f.stops, st]; exact z)]
    rw [e, f.stops, hd, part _ b2] at fd
    refine ⟨⟨xs, (s.held ++ [l]).drop ((s.held ++ [l]).length - heldF xs (text.take (k + 1))), _, s.stop⟩, hs, by omega, by omega, fd, rfl, by omega, fun _ => ⟨by omega, ?_⟩, fun y => by rw [hs] at y; cases y⟩
    show (s.held ++ [l]).drop ((s.held ++ [l]).length - heldF xs (text.take (k + 1))) = _
    rw [hlen, ht, List.drop_drop]
    congr 1
    omega
end K93
set_option Elab.async false
set_option linter.all false
set_option maxRecDepth 100000
set_option maxHeartbeats 1000000
namespace K93
open PySem PySem.Spec PyProof.Rows L2 DL
theorem len__law_due (c : Cl) : ∀ ds S Q E, sp__law_due c ds S Q E → ds.length = 2 := by
  rintro ds S Q E ⟨_, _, _, rfl, _⟩; rfl
theorem sl_lst0 {S : Sto} {t : List Int} {lo hi : Option Int} {Q : Qd} (q : Q (dL (cutI t lo hi)) S) : oSl S (dL t) lo hi Q := by
  simp only [oSl, dL, seqL, seqM, some!, cutD_int]
  exact q
theorem stopped_callR {c : Cl} {S : Sto} {d : D} {y : Bool} {xs : List (List Int)} {t : List Int} {Q : Qd} {E : XQ} (hd : RowsL S d xs) (q : Q (.int (stopF xs t : Nat)) S) : sp__law_stopped c [d, dR y t] S Q E := ⟨d, xs, dR y t, t, rfl, hd, seqA_dR, q⟩
theorem held_callR {c : Cl} {S : Sto} {d : D} {y : Bool} {xs : List (List Int)} {t : List Int} {Q : Qd} {E : XQ} (hx : EndsOk xs) (hd : RowsL S d xs) (q : Q (.int (heldF xs t : Nat)) S) : sp__law_held c [d, dR y t] S Q E :=
  ⟨d, xs, dR y t, t, rfl, hd, seqA_dR, (fun s hs => by have := (hx.2 s hs).2; omega), q⟩
theorem sl_mid {S : Sto} {t : List Int} {a b : Nat} {Q : Qd} {y : Bool} (h1 : a ≤ b) (h2 : b ≤ t.length) (q : Q (dR y ((t.drop a).take (b - a))) S) : oSl S (dR y t) (some (a : Int)) (some (b : Int)) Q := by
  cases y
  · simp only [dR, Bool.false_eq_true, if_false] at q ⊢
    refine sl_lst0 ?_
    rw [cutI_mid h1 h2]
    exact q
  · simp only [dR, if_true] at q ⊢
    simp only [oSl, dT, cutD_int]
    rw [cutI_mid h1 h2]
    exact q
theorem sl_to {S : Sto} {t : List Int} {b : Nat} {Q : Qd} {y : Bool} (q : Q (dR y (t.take b)) S) : oSl S (dR y t) none (some (b : Int)) Q := by
  cases y
  · simp only [dR, Bool.false_eq_true, if_false] at q ⊢
    refine sl_lst0 ?_
    rw [cutI_nat]
    exact q
  · simp only [dR, if_true] at q ⊢
    simp only [oSl, dT, cutD_int]
    rw [cutI_nat]
    exact q
theorem sl_from {S : Sto} {t : List Int} {b : Nat} {Q : Qd} {y : Bool} (q : Q (dR y (t.drop b)) S) : oSl S (dR y t) (some (b : Int)) none Q := by
  cases y
  · simp only [dR, Bool.false_eq_true, if_false] at q ⊢
    refine sl_lst0 ?_
    rw [cutI_natF]
    exact q
  · simp only [dR, if_true] at q ⊢
    simp only [oSl, dT, cutD_int]
    rw [cutI_natF]
    exact q
theorem tup_same {S : Sto} {t : List Int} {Q : Qd} {y : Bool} (q : Q (dT t) S) : oTuple S [dR y t] Q := by
  cases y <;> exact q
theorem rd__law_due (c : Cl) : ∀ ds S Q X1, sp__law_due c ds S Q X1 → w__law_due c (startD N__law_due_ ds) S (endQ Q X1) := by
  rintro ds S Q X1 ⟨y, xs, text, rfl, hx, ht, h⟩
  show w__law_due c [some (dRows xs), some (dR y text), none, none, none, none, none, none, none] S (endQ Q X1)
  unfold w__law_due
  refine seq_k fun q1 n1 r1 _ _ x1 => ?_
  simp only [wSet, wLstM, wNil, setV]
  refine ⟨Nat.zero_le _, fun p hp => n1 _ _ ?_⟩
  refine seq_k fun q1 n1 r1 _ _ x1 => ?_
  simp only [wSet, wC, setV]
  refine n1 _ _ ?_
  refine seq_k fun q1 n1 r1 _ _ x1 => ?_
  simp only [wSet, wC, setV]
  refine n1 _ _ ?_
  refine seq_k fun q1 n1 r1 _ _ x1 => ?_
  simp only [wFor, wRg1, wCB, wCons, wNil, wVar, getV, some!]
  refine oLen_of (d := dR y text) seqA_dR ?_
  rw [List.length_map]
  simp only [asI]
  refine ⟨by omega, ?_⟩
  refine forI_invq (fun k e S' => ∃ (rows : List (List Int)) (s : Stp3) (sent : Nat) (x5 x6 x7 x8 : Option D), FI xs text k rows s sent ∧ S' = put S p (.lst (rows.map dT)) ∧ e = [some (dRows xs), some (dR y text), some (.ref p), some (.int (sent : Int)), some (.bl s.stop), x5, x6, x7, x8])
    ⟨[], _, 0, none, none, none, none, fi_start, rfl, rfl⟩ (fun _ _ _ _ => trivial) ?_ ?_
  · rintro k e' e S' hk ⟨rows, s, sent, x5, x6, x7, x8, F, rfl, rfl⟩ q hq _ _ _ _
    obtain ⟨hlt, rfl⟩ := rngD_get hk
    have hkl : k < text.length := by omega
    obtain ⟨l, hl⟩ : ∃ l, text[k]? = some l := ⟨_, List.getElem?_eq_getElem hkl⟩
    have hrl : rows.length = k := by
      have e := congrArg (fun x => x.1.length) F.eq
      have : ∀ (t : List Int) (a : List (List Int) × Stp3), (t.foldl (fun st l => (st.1 ++ [(feedF st.2 l).1], (feedF st.2 l).2)) a).1.length = a.1.length + t.length := fun t => by
        induction t with
        | nil => intro a; rfl
        | cons x r ih => intro a; rw [List.foldl_cons, ih]; simp only [List.length_append, List.length_cons, List.length_nil]; omega
      unfold fedF at e
      dsimp only at e
      rw [this, List.length_take] at e
      dsimp only [List.length_nil] at e
      omega
    rw [Int.zero_add]
    simp only [gN, setV]
    refine seq_k fun q2 n2 _ _ _ _ => ?_
    simp only [wSet, wVar, getV, setV, some!]
    refine n2 _ _ ?_
    refine seq_k fun q2 n2 _ _ _ _ => ?_
    have rest : ∀ (s' : Stp3) (total : Nat) x7 x8, sent ≤ total → total ≤ k + 1 → FI xs text (k + 1) (rows ++ [(text.drop sent).take (total - sent)]) s' total → q2.nx [some (dRows xs), some (dR y text), some (.ref p), some (.int (sent : Int)), some (.bl s'.stop), some (.int (k : Int)), some (.int (total : Int)), x7, x8] (put S p (.lst (rows.map dT))) := by
      intro s' total x7 x8 h1 h2 F'
      refine n2 _ _ ?_
      refine seq_k fun q3 n3 _ _ _ _ => ?_
      simp only [wDrop, wMt, wCB, wSl, wP, wCons, wNil, wVar, getV, some!, mutL, put_same]
      refine sl_mid h1 (by omega) (tup_same ?_)
      simp only [oAppend, mutL, put_same, put_put, one, List.length_map]
      refine ⟨by unfold sizeLine; omega, n3 _ _ ?_⟩
      simp only [wSet, wVar, getV, setV, some!]
      exact hq _ _ ⟨_, s', total, _, _, _, _, F', by rw [List.map_append]; rfl, rfl⟩
    simp only [wIf, wNot, wTest, wVar, getV, some!]
    cases hs : s.stop with
    | true =>
      simp only [Bool.not_true, Bool.false_eq_true, if_false, wNext]
      have F' := F.stopped hl hs
      have := rest s sent x7 x8 (Nat.le_refl _) (by have := F.le; omega) (by rw [Nat.sub_self, List.take_zero]; exact F')
      rw [hs] at this
      exact this
    | false =>
      obtain ⟨g1, g2⟩ := F.go hl hs
      simp only [Bool.not_false, if_true]
      refine seq_k fun q3 n3 _ _ _ _ => ?_
      simp only [wSet, wSl, wNoP, wP, wBin, wVar, wC, getV, setV, some!, oAdd]
      rw [show (k : Int) + 1 = ((k + 1 : Nat) : Int) by omega]
      refine sl_to (n3 _ _ ?_)
      refine seq_k fun q3 n3 _ _ _ _ => ?_
      simp only [wSet, wCall, wCons, wNil, wVar, getV, setV, some!]
      refine stopped_callR rfl (n3 _ _ ?_)
      refine seq_k fun q3 n3 _ _ _ _ => ?_
      simp only [wSet, wBin, wVar, wC, getV, setV, some!, oGt, oI0]
      refine n3 _ _ ?_
      simp only [wSet, wBin, wIfE, wTest, wVar, wC, getV, setV, some!, oAdd]
      by_cases z : 0 < stopF xs (text.take (k + 1))
      · obtain ⟨s', a1, a2, a3, F'⟩ := g1 z
        rw [decide_eq_true (show (0 : Int) < (stopF xs (text.take (k + 1)) : Nat) by omega)]
        simp only [if_true, oSub, oI0]
        have := rest s' _ (some (dR y (text.take (k + 1)))) (some (.int (stopF xs (text.take (k + 1)) : Nat))) a2 (by omega) F'
        rw [a1, show ((k + 1 - stopF xs (text.take (k + 1)) : Nat) : Int) = (k : Int) + 1 - (stopF xs (text.take (k + 1)) : Nat) by omega] at this
        exact this
      · obtain ⟨s', a1, a2, a3, F'⟩ := g2 z
        rw [decide_eq_false (show ¬ (0 : Int) < (stopF xs (text.take (k + 1)) : Nat) by omega)]
        simp only [Bool.false_eq_true, if_false, wCall, wCons, wNil, wVar, getV, some!]
        refine held_callR hx rfl ?_
        simp only [oSub, oI0]
        have := rest s' _ (some (dR y (text.take (k + 1)))) (some (.int (stopF xs (text.take (k + 1)) : Nat))) a2 (by omega) F'
        rw [a1, show ((k + 1 - heldF xs (text.take (k + 1)) : Nat) : Int) = (k : Int) + 1 - (heldF xs (text.take (k + 1)) : Nat) by omega] at this
        exact this
  · rintro e S' ⟨rows, s, sent, x5, x6, x7, x8, F, rfl, rfl⟩
    rw [rngD_length, Int.toNat_natCast] at F
    refine n1 _ _ ?_
    have e1 := F.eq
    have hrun := F.run
    rw [List.take_of_length_le (Nat.le_refl _)] at e1 hrun
    have hq := h (put S p (.lst (rows.map dT))) (ext_put (fun _ _ z => z) hp)
    rw [e1] at hq
    have hat : seqA (put S p (.lst (rows.map dT))) (.ref p) = some (rows.map dT) := seqA_at put_same
    simp only [wRet, wTup, wCB, wIfE, wTest, wCons, wNil, wVar, getV, some!, oTuple, one, hat]
    unfold dFed at hq
    dsimp only at hq
    cases hs : s.stop with
    | true =>
      rw [hs, F.fin hs] at hq
      simp only [if_true]
      exact ⟨Nat.zero_le _, by show 3 ≤ sizeLine; decide, hq⟩
    | false =>
      rw [hs, (hrun hs).2] at hq
      simp only [Bool.false_eq_true, if_false, wSl, wP, wNoP, wVar, getV, some!]
      refine sl_from ?_
      simp only [seqA_dR]
      exact ⟨by show 3 ≤ sizeLine; decide, hq⟩
end K93
set_option Elab.async false
set_option linter.all false
set_option maxRecDepth 100000
set_option maxHeartbeats 1000000
namespace K93
open PySem PySem.Spec PyProof.Rows L2 DL
theorem FI.next {xs : List (List Int)} {text : List Int} {k : Nat} {l : Int} {rows : List (List Int)} {s : Stp3} {sent : Nat} (f : FI xs text k rows s sent) (hl : text[k]? = some l) : ∃ sent', FI xs text (k + 1) (rows ++ [(feedF s l).1]) (feedF s l).2 sent' := by
  have e := fed_snoc f.eq hl
  have conv : ∀ {rows' s' sent'}, FI xs text (k + 1) rows' s' sent' → FI xs text (k + 1) (rows ++ [(feedF s l).1]) (feedF s l).2 sent' := fun {rows' s' sent'} F' => by
    have e2 := F'.eq
    rw [e] at e2
    injection e2 with h1 h2
    rw [h1, h2]
    exact F'
  cases hs : s.stop with
  | true => exact ⟨_, conv (f.stopped hl hs)⟩
  | false =>
    by_cases z : 0 < stopF xs (text.take (k + 1))
    · obtain ⟨s', _, _, _, F'⟩ := (f.go hl hs).1 z
      exact ⟨_, conv F'⟩
    · obtain ⟨s', _, _, _, F'⟩ := (f.go hl hs).2 z
      exact ⟨_, conv F'⟩
theorem len__law_fed (c : Cl) : ∀ ds S Q E, sp__law_fed c ds S Q E → ds.length = 2 := by
  rintro ds S Q E ⟨_, _, _, rfl, _⟩; rfl
theorem rd__law_fed (c : Cl) : ∀ ds S Q X1, sp__law_fed c ds S Q X1 → w__law_fed c (startD N__law_fed_ ds) S (endQ Q X1) := by
  rintro ds S Q X1 ⟨y, xs, text, rfl, hx, ht, h⟩
  have hx6 := hx.1
  show w__law_fed c [some (dRows xs), some (dR y text), none, none, none, none, none] S (endQ Q X1)
  unfold w__law_fed
  refine seq_k fun q1 n1 r1 _ _ x1 => ?_
  simp only [wSet, wLcM, wIt, wVar, getV, some!, dRows, seqA, seqL, seqM, delVs, delV, setV, List.length_map]
  refine ⟨by unfold sizeLine; omega, ?_⟩
  refine ⟨fun i acc S' => Ext S S' ∧ ∃ cs : List Addr, acc = cs.map D.ref ∧ cs.length = i ∧ ∀ (j : Nat) c s, cs[j]? = some c → xs[j]? = some s → S' c = some (.lst (s.map D.int)) ∧ S c = none,
    ⟨fun _ _ z => z, [], rfl, rfl, fun j c s z => by simp at z⟩, fun _ _ _ _ _ => trivial, ?_, ?_⟩
  · rintro i d acc S' hi ⟨e1, cs, rfl, e3, e4⟩
    rw [List.getElem?_map] at hi
    obtain ⟨s, hs, rfl⟩ := Option.map_eq_some_iff.mp hi
    simp only [gN, setV, wYes, if_true, wCB, wCons, wNil, wVar, getV, some!, oListM, one, dL, seqA, seqL, seqM]
    intro p hp
    have hnew : S p = none := by
      cases z : S p with
      | none => rfl
      | some m => rw [e1 p m z] at hp; cases hp
    refine ⟨ext_put e1 hp, cs ++ [p], by rw [List.map_append]; rfl, by rw [List.length_append, e3]; rfl, fun j c s' h1 h2 => ?_⟩
    by_cases z : j < cs.length
    · rw [List.getElem?_append_left z] at h1
      obtain ⟨a1, a2⟩ := e4 j c s' h1 h2
      exact ⟨by rw [put_ne (fun y => by rw [y, hp] at a1; cases a1)]; exact a1, a2⟩
    · have l1 := lt_of_some h1
      rw [List.length_append] at l1
      have ej : j = cs.length := by have : j < cs.length + 1 := l1; omega
      subst ej
      rw [List.getElem?_append_right (Nat.le_refl _), Nat.sub_self] at h1
      cases h1
      rw [e3, hs] at h2
      cases h2
      exact ⟨put_same, hnew⟩
  rintro acc S1 ⟨e1, cs, rfl, e3, e4⟩
  rw [List.length_map] at e3
  refine fun p hp => n1 _ _ ?_
  have hpn : S p = none := by
    cases z : S p with
    | none => rfl
    | some m => rw [e1 p m z] at hp; cases hp
  have e2 := ext_put (m := .lst (cs.map D.ref)) e1 hp
  have hcs : ∀ (j : Nat) b s, cs[j]? = some b → xs[j]? = some s → put S1 p (.lst (cs.map D.ref)) b = some (.lst (s.map D.int)) ∧ S b = none := fun j b s h1 h2 => by
    obtain ⟨a1, a2⟩ := e4 j b s h1 h2
    exact ⟨by rw [put_ne (fun y => by rw [y, hp] at a1; cases a1)]; exact a1, a2⟩
  have hat : put S1 p (.lst (cs.map D.ref)) p = some (.lst (cs.map D.ref)) := put_same
  generalize put S1 p (.lst (cs.map D.ref)) = S2 at e2 hcs hat
  clear e1 e4 hp
  refine seq_k fun q1 n1 r1 _ _ x1 => ?_
  simp only [wSet, wMake, wCons, wNil, wVar, getV, setV, some!]
  refine fun a ha => ⟨a, .ref p, xs, rfl, put_same, ⟨⟨cs.map D.ref, ?_, by rw [List.length_map, e3], fun i e s h1 h2 => ?_⟩, by omega⟩, rfl, n1 _ _ ?_⟩
  · exact seqA_at (by rw [put_ne (fun z => by rw [z, ha] at hat; cases hat)]; exact hat)
  · rw [List.getElem?_map] at h1
    obtain ⟨b, hb, rfl⟩ := Option.map_eq_some_iff.mp h1
    have := (hcs i b s hb h2).1
    exact seqA_at (by rw [put_ne (fun z => by rw [z, ha] at this; cases this)]; exact this)
  rw [put_put]
  have han : S a = none := by
    cases z : S a with
    | none => rfl
    | some m => rw [e2 a m z] at ha; cases ha
  have e3' := ext_put (m := stMO c ⟨xs, [], 0, false⟩) e2 ha
  have hap : p ≠ a := fun z => by rw [z, ha] at hat; cases hat
  have hat3 : put S2 a (stMO c ⟨xs, [], 0, false⟩) p = some (.lst (cs.map D.ref)) := by rw [put_ne hap]; exact hat
  have hst3 : put S2 a (stMO c ⟨xs, [], 0, false⟩) a = some (stMO c ⟨xs, [], 0, false⟩) := put_same
  have hcs3 : ∀ (j : Nat) b s, cs[j]? = some b → xs[j]? = some s → put S2 a (stMO c ⟨xs, [], 0, false⟩) b = some (.lst (s.map D.int)) ∧ S b = none := fun j b s h1 h2 => by
    obtain ⟨a1, a2⟩ := hcs j b s h1 h2
    exact ⟨by rw [put_ne (fun y => by rw [y, ha] at a1; cases a1)]; exact a1, a2⟩
  generalize put S2 a (stMO c ⟨xs, [], 0, false⟩) = S3 at e3' hat3 hst3 hcs3
  clear e2 hcs hat ha
  refine seq_k fun q1 n1 r1 _ _ x1 => ?_
  simp only [wDrop, wMt, wLstM, wCons, wNil, wVar, wC, getV, some!, mutL, hat3]
  refine ⟨by show 1 ≤ sizeLine; decide, fun r hr => ?_⟩
  have hrp : p ≠ r := fun z => by rw [z, hr] at hat3; cases hat3
  have hra : a ≠ r := fun z => by rw [z, hr] at hst3; cases hst3
  have hrn : S r = none := by
    cases z : S r with
    | none => rfl
    | some m => rw [e3' r m z] at hr; cases hr
  have hat4 : put S3 r (.lst [.int 0]) p = some (.lst (cs.map D.ref)) := by rw [put_ne hrp]; exact hat3
  simp only [oAppend, mutL, hat4, one, List.length_map]
  refine ⟨by unfold sizeLine; omega, n1 _ _ ?_⟩
  -- the first list of all
  have first : ∃ b ys, atI (cs.map D.ref ++ [.ref r]) 0 = some (.ref b) ∧ put (put S3 r (.lst [.int 0])) p (.lst (cs.map D.ref ++ [.ref r])) b = some (.lst ys) ∧ ys.length ≤ 1000 ∧ S b = none ∧ b ≠ a := by
    cases hc : cs with
    | nil =>
      refine ⟨r, [.int 0], rfl, by rw [put_ne (Ne.symm hrp), put_same], by decide, hrn, Ne.symm hra⟩
    | cons b cs' =>
      obtain ⟨s, hs⟩ : ∃ s, xs[0]? = some s := ⟨_, List.getElem?_eq_getElem (by rw [← e3, hc]; exact Nat.succ_pos _)⟩
      obtain ⟨a1, a2⟩ := hcs3 0 b s (by rw [hc]; rfl) hs
      have b1 : b ≠ r := fun z => by rw [z, hr] at a1; cases a1
      have b2 : b ≠ p := fun z => by
        rw [z, hat3] at a1
        rw [hc] at a1
        injection a1 with a1
        injection a1 with a1
        cases s with
        | nil => cases a1
        | cons _ _ => rw [List.map_cons, List.map_cons] at a1; injection a1 with a1; cases a1
      have b3 : b ≠ a := fun z => by rw [z, hst3] at a1; cases a1
      refine ⟨b, s.map D.int, ?_, by rw [put_ne b2, put_ne b1]; exact a1, by rw [List.length_map]; have := (hx.2 s (List.mem_of_getElem? hs)).2; omega, a2, b3⟩
      rw [List.map_cons, List.cons_append]
      exact at_0
  obtain ⟨b, ys, f1, f2, f3, f4, f5⟩ := first
  have e5 : Ext S (put (put S3 r (.lst [.int 0])) p (.lst (cs.map D.ref ++ [.ref r]))) := fun x m z => by
    rw [put_ne (fun y => by rw [y, hpn] at z; cases z), put_ne (fun y => by rw [y, hrn] at z; cases z)]; exact e3' x m z
  have hat5 : put (put S3 r (.lst [.int 0])) p (.lst (cs.map D.ref ++ [.ref r])) p = some (.lst (cs.map D.ref ++ [.ref r])) := put_same
  have hst5 : put (put S3 r (.lst [.int 0])) p (.lst (cs.map D.ref ++ [.ref r])) a = some (stMO c ⟨xs, [], 0, false⟩) := by rw [put_ne (Ne.symm hap), put_ne hra]; exact hst3
  generalize put (put S3 r (.lst [.int 0])) p (.lst (cs.map D.ref ++ [.ref r])) = S5 at e5 hat5 hst5 f2
  refine seq_k fun q1 n1 r1 _ _ x1 => ?_
  simp only [wDrop, wMt, wBin, wCons, wNil, wVar, wC, getV, some!]
  refine (oIx_eq (seqA_at hat5) f1 _).mpr ?_
  simp only [oAppend, mutL, f2, one]
  refine ⟨by unfold sizeLine; omega, n1 _ _ ?_⟩
  have e6 : Ext S (put S5 b (.lst (ys ++ [.int 0]))) := fun x m z => by
    rw [put_ne (fun y => by rw [y, f4] at z; cases z)]; exact e5 x m z
  have hst6 : put S5 b (.lst (ys ++ [.int 0])) a = some (stMO c ⟨xs, [], 0, false⟩) := by rw [put_ne (Ne.symm f5)]; exact hst5
  generalize put S5 b (.lst (ys ++ [.int 0])) = S6 at e6 hst6
  clear e5 hat5 hst5 f1 f2 f3 f4 f5 hcs3 hat3 hat4 hst3 e3'
  refine seq_k fun q1 n1 r1 _ _ x1 => ?_
  simp only [wSet, wLc, wIt, wVar, getV, some!, seqA_dR, delVs, delV, setV, List.length_map]
  refine ⟨by unfold sizeLine; omega, ?_⟩
  refine ⟨fun i acc S' => ∃ rows s sent, FI xs text i rows s sent ∧ acc = rows.map dT ∧ S' a = some (stMO c s) ∧ Ext S S', ⟨[], _, 0, fi_start, rfl, hst6, e6⟩, fun _ _ _ _ _ => trivial, ?_, ?_⟩
  · rintro i d acc S' hi ⟨rows, s, sent, F, rfl, e2, e3⟩
    rw [List.getElem?_map] at hi
    obtain ⟨l, hl, rfl⟩ := Option.map_eq_some_iff.mp hi
    have hheld : s.held.length ≤ 1000 := by
      cases hs : s.stop with
      | true => rw [F.fin hs]; exact Nat.zero_le _
      | false => rw [(F.run hs).2, List.length_drop, List.length_take]; omega
    obtain ⟨sent', F'⟩ := F.next hl
    simp only [gN, setV, wYes, if_true, wMeth, wCons, wNil, wVar, getV, some!]
    refine ⟨isIns_of e2, a, s, l, rfl, e2, ⟨hheld, fun t ht => by rw [F.stops] at ht; have := (hx.2 t ht).2; omega⟩, _, _, sent', F', by rw [List.map_append]; rfl, put_same, fun x m z => ?_⟩
    rw [put_ne (fun y => by rw [y, han] at z; cases z)]; exact e3 x m z
  · rintro acc S' ⟨rows, s, sent, F, rfl, e2, e3⟩
    rw [List.length_map] at F
    refine n1 _ _ ?_
    have e1 := F.eq
    rw [List.take_of_length_le (Nat.le_refl _)] at e1
    have hq := h S' e3
    rw [e1] at hq
    simp only [wRet, wTup, wCB, wMeth, wCons, wNil, wVar, getV, some!, oTuple, one, seqA, seqL, seqM]
    exact ⟨isIns_of e2, a, s, rfl, e2, isIns_of e2, a, s, rfl, e2, by show 3 ≤ sizeLine; decide, hq⟩
end K93
set_option Elab.async false
set_option linter.all false
set_option maxRecDepth 100000
set_option maxHeartbeats 1000000
namespace K93
open PySem PySem.Spec PyProof.Rows L2 DL
/-! ### a Stopper stands in each state -/
def Whole (xs : List (List Int)) (h : List Int) : Prop := ∀ j, j ≤ h.length → stopF xs (h.take j) = 0 ∧ heldF xs (h.take j) = j
theorem stop_none {xs : List (List Int)} (hx : EndsOk xs) {t : List Int} : stopF xs t = 0 ↔ ∀ s, s ∈ xs → ¬ endsAt s t := by
  obtain ⟨b1, b2⟩ := best_stopF xs t
  constructor
  · intro z s hs he
    have := b2 s.length ⟨s, hs, rfl, he⟩
    have hp := List.length_pos_iff.mpr (hx.2 s hs).1
    omega
  · intro h
    rcases b1 with b1 | ⟨s, hs, _, he⟩
    · exact b1
    · exact absurd he (h s hs)
theorem whole_of {xs : List (List Int)} (hx : EndsOk xs) {h : List Int} (r : Reach xs h) : Whole xs h := by
  induction r with
  | nil => intro j hj; rw [show j = 0 by exact Nat.le_zero.mp hj]; exact ⟨Nat.le_zero.mp (stopF_le xs []), Nat.le_zero.mp (heldF_le xs [])⟩
  | @next h h' l _ hl e ih =>
    unfold nextF at e
    split at e
    · cases e
    rename_i hz
    have hs0 : stopF xs (h ++ [(l : Int)]) = 0 := by omega
    cases e
    have hk := heldF_le xs (h ++ [(l : Int)])
    obtain ⟨b1, b2⟩ := best_heldF xs (h ++ [(l : Int)])
    generalize heldF xs (h ++ [(l : Int)]) = m at hk b1 b2
    have hlen : (h ++ [(l : Int)]).length = h.length + 1 := by rw [List.length_append]; rfl
    intro j hj
    rw [List.length_drop] at hj
    have hj' : j ≤ m := by omega
    have ep : ((h ++ [(l : Int)]).drop ((h ++ [(l : Int)]).length - m)).take j = ((h ++ [(l : Int)]).take ((h ++ [(l : Int)]).length - m + j)).drop ((h ++ [(l : Int)]).length - m) := by
      rw [List.drop_take]; congr 1; omega
    have lp : (((h ++ [(l : Int)]).drop ((h ++ [(l : Int)]).length - m)).take j).length = j := by
      rw [List.length_take, List.length_drop]; omega
    constructor
    · refine (stop_none hx).mpr fun s hs ⟨c1, c2⟩ => ?_
      rw [lp] at c1 c2
      have lq : ((h ++ [(l : Int)]).take ((h ++ [(l : Int)]).length - m + j)).length = (h ++ [(l : Int)]).length - m + j := by
        rw [List.length_take]; omega
      have he : endsAt s ((h ++ [(l : Int)]).take ((h ++ [(l : Int)]).length - m + j)) := by
        refine ⟨by omega, ?_⟩
        rw [ep, List.drop_drop] at c2
        rw [lq, show (h ++ [(l : Int)]).length - m + j - s.length = (h ++ [(l : Int)]).length - m + (j - s.length) by omega]
        exact c2
      by_cases z : (h ++ [(l : Int)]).length - m + j ≤ h.length
      · rw [List.take_append_of_le_length z] at he
        exact (stop_none hx).mp (ih _ z).1 s hs he
      · rw [List.take_of_length_le (by omega)] at he
        exact (stop_none hx).mp hs0 s hs he
    · have hle := heldF_le xs (((h ++ [(l : Int)]).drop ((h ++ [(l : Int)]).length - m)).take j)
      rw [lp] at hle
      by_cases z : j = 0
      · omega
      · rcases b1 with b1 | ⟨s, hs, c1, c2, c3, c4⟩
        · omega
        · have := (best_heldF xs (((h ++ [(l : Int)]).drop ((h ++ [(l : Int)]).length - m)).take j)).2 j ⟨s, hs, by omega, by omega, by rw [lp]; exact Nat.le_refl _, by
            rw [lp, Nat.sub_self, List.drop_zero, c4, List.take_take, Nat.min_eq_left hj']⟩
          omega
theorem fi_whole {xs : List (List Int)} {h : List Int} (w : Whole xs h) : ∀ k, k ≤ h.length → ∃ s, s.stop = false ∧ FI xs h k (List.replicate k []) s 0
  | 0, _ => ⟨_, rfl, fi_start⟩
  | k + 1, hk => by
    obtain ⟨s, hs, F⟩ := fi_whole w k (by omega)
    obtain ⟨l, hl⟩ : ∃ l, h[k]? = some l := ⟨_, List.getElem?_eq_getElem (by omega)⟩
    obtain ⟨w1, w2⟩ := w (k + 1) hk
    obtain ⟨s', a1, a2, a3, F'⟩ := (F.go hl hs).2 (by omega)
    rw [w2, Nat.sub_self] at F'
    refine ⟨s', a1, ?_⟩
    rw [List.replicate_succ', show (([] : List Int)) = (h.drop 0).take (0 - 0) by simp]
    simpa using F'
theorem fed_whole {xs : List (List Int)} {h : List Int} (w : Whole xs h) : dFed (fedF xs h) = .tup [.tup ((List.replicate h.length []).map dT), .bl false, dT h] := by
  obtain ⟨s, hs, F⟩ := fi_whole w h.length (Nat.le_refl _)
  have e := F.eq
  have r := (F.run hs).2
  rw [List.take_of_length_le (Nat.le_refl _)] at e r
  rw [e]
  unfold dFed
  dsimp only
  rw [hs, r, List.drop_zero]
theorem fi_all {xs : List (List Int)} {text : List Int} : ∀ k, k ≤ text.length → ∃ rows s sent, FI xs text k rows s sent ∧ rows.length = k ∧ ∀ r, r ∈ rows → r.length ≤ text.length
  | 0, _ => ⟨_, _, _, fi_start, rfl, fun r hr => by cases hr⟩
  | k + 1, hk => by
    obtain ⟨rows, s, sent, F, h1, h2⟩ := fi_all (xs := xs) (text := text) k (by omega)
    obtain ⟨l, hl⟩ : ∃ l, text[k]? = some l := ⟨_, List.getElem?_eq_getElem (by omega)⟩
    have snoc : ∀ (r : List Int), r.length ≤ text.length → (rows ++ [r]).length = k + 1 ∧ ∀ x, x ∈ rows ++ [r] → x.length ≤ text.length := fun r hr => ⟨by rw [List.length_append, h1]; rfl, fun x hx => by
      rcases List.mem_append.mp hx with hx | hx
      · exact h2 x hx
      · rw [List.mem_singleton.mp hx]; exact hr⟩
    have part : ∀ n, ((text.drop sent).take n).length ≤ text.length := fun n => by rw [List.length_take, List.length_drop]; omega
    cases hs : s.stop with
    | true => exact ⟨_, _, _, F.stopped hl hs, snoc [] (Nat.zero_le _)⟩
    | false =>
      by_cases z : 0 < stopF xs (text.take (k + 1))
      · obtain ⟨s', _, _, _, F'⟩ := (F.go hl hs).1 z
        exact ⟨_, _, _, F', snoc _ (part _)⟩
      · obtain ⟨s', _, _, _, F'⟩ := (F.go hl hs).2 z
        exact ⟨_, _, _, F', snoc _ (part _)⟩
theorem plain_fed {xs : List (List Int)} {text : List Int} (ht : text.length ≤ 1000) : plain 7 (dFed (fedF xs text)) := by
  obtain ⟨rows, s, sent, F, h1, h2⟩ := fi_all (xs := xs) (text := text) text.length (Nat.le_refl _)
  have e := F.eq
  rw [List.take_of_length_le (Nat.le_refl _)] at e
  rw [e]
  refine ⟨by show 3 ≤ 1000; decide, fun x hx => ?_⟩
  simp only [List.mem_cons, List.not_mem_nil, or_false] at hx
  rcases hx with rfl | rfl | rfl
  · refine ⟨by rw [List.length_map, h1]; exact ht, fun y hy => ?_⟩
    obtain ⟨r, hr, rfl⟩ := List.mem_map.mp hy
    exact plain_dT (by have := h2 r hr; omega)
  · trivial
  · refine plain_dT ?_
    cases hs : s.stop with
    | true => rw [F.fin hs]; exact Nat.zero_le _
    | false => rw [(F.run hs).2, List.length_drop, List.length_take]; omega
end K93
set_option Elab.async false
set_option linter.all false
set_option maxRecDepth 100000
set_option maxHeartbeats 1000000
namespace K93
open PySem PySem.Spec PyProof.Rows L2 DL
theorem isHand_ext {S S' : Sto} {p : Addr} (h : IsHand S p) (e : Ext S S') : IsHand S' p := by
  obtain ⟨k, h1, h2⟩ := h
  exact ⟨k, h1, e _ _ h2⟩
theorem del_ne {S : Sto} {a b : Addr} (h : b ≠ a) : DL.del S a b = S b := if_neg h
end K93
set_option Elab.async false
set_option linter.all false
set_option maxRecDepth 100000
set_option maxHeartbeats 1000000
namespace K93
open PySem PySem.Spec PyProof.Rows L2 DL
/-! ### changed, mixed up, needless -/
structure CS (S : Sto) (p a : Addr) (rows : List (List Int)) : Prop where
  hand : IsHand S p
  at_ : S a = some (.lst (rows.map dL))
  ne : a ≠ p
theorem CS.draw {c : Cl} {S : Sto} {p a : Addr} {rows : List (List Int)} {n : Int} {Q : Qd} {X : XQ} (h : CS S p a rows) (hn : 0 < n ∧ n ≤ 100000) (q : ∀ r S', 0 ≤ r → r < n → CS S' p a rows → Q (.int r) S') : sp__law_draw c [.ref p, .int n] S Q X :=
  draw_go h.hand hn fun r h0 h1 k hk => q r _ h0 h1 ⟨isHand_put hk, by rw [put_ne h.ne]; exact h.at_, h.ne⟩
theorem CS.set {S : Sto} {p a : Addr} {rows : List (List Int)} (h : CS S p a rows) (rows2 : List (List Int)) : CS (put S a (.lst (rows2.map dL))) p a rows2 := by
  obtain ⟨k, h1, h2⟩ := h.hand
  exact ⟨⟨k, h1, by rw [put_ne (Ne.symm h.ne)]; exact h2⟩, put_same, h.ne⟩
theorem cutD_mapL {xs : List (List Int)} {lo hi : Option Int} : cutD (xs.map dL) lo hi = ((xs.drop (HT.sIx xs.length 0 lo)).take (HT.sIx xs.length xs.length hi - HT.sIx xs.length 0 lo)).map dL := by
  unfold DL.cutD
  rw [List.length_map, List.map_take, List.map_drop]
theorem cut_but1 {s : List Int} (h : s ≠ []) : (cutI s none (some (-1))).length ≤ s.length - 1 := by
  have hp := List.length_pos_iff.mpr h
  unfold cutI
  rw [HT.sIx_none, List.drop_zero, Nat.sub_zero, List.length_take]
  unfold HT.sIx
  simp
  omega
theorem oAdd_lst {S : Sto} {d : D} {xs ys : List D} {Q : Qd} (h : seqM S d = some xs) (hz : xs.length + ys.length ≤ sizeLine) (q : Q (.lst (xs ++ ys)) S) : oAdd S d (.lst ys) Q := by
  have e : oCatL S d (.lst ys) Q := by
    show some! (seqM S d) _
    rw [h]
    exact ⟨hz, q⟩
  cases d with
  | ref a => exact e
  | lst zs => exact e
  | _ => cases h
theorem seqM_at {S : Sto} {p : Addr} {xs : List D} (h : S p = some (.lst xs)) : seqM S (.ref p) = some xs := by
  show (match S p with | some (MO.lst xs) => some xs | _ => none) = _
  rw [h]
theorem ix_k {n k : Nat} (h : k < n) : ixN n (k : Int) = some k := by
  unfold ixN
  rw [if_pos (by omega), if_pos (by omega)]
  rw [Int.toNat_natCast]
theorem add_lsts {S : Sto} {a b : List Int} {Q : Qd} (hz : a.length + b.length ≤ 1000) (q : Q (dL (a ++ b)) S) : oAdd S (dL a) (.lst (b.map D.int)) Q := by
  refine oAdd_lst (xs := a.map D.int) rfl (by rw [List.length_map, List.length_map]; unfold sizeLine; omega) ?_
  rw [← List.map_append]
  exact q
theorem sl_list {S : Sto} {t : List Int} {lo hi : Option Int} {Q : Qd} (q : Q (dL (cutI t lo hi)) S) : oSl S (dL t) lo hi Q := by
  simp only [oSl, dL, seqL, seqM, some!, cutD_int]
  exact q
theorem set_row {S : Sto} {p a : Addr} {xs : List (List Int)} {n : Nat} {t : List Int} {k : Sto → Prop} (C : CS S p a xs) (hn : n < xs.length) (q : ∀ S', CS S' p a (xs.set n t) → k S') : setIx S (.ref a) (.int (n : Int)) (dL t) k := by
  have e := C.at_
  simp only [setIx, e, List.length_map, ix_k hn, some!]
  have := q _ (C.set (xs.set n t))
  rw [List.map_set] at this
  exact this
theorem len__law_changed (c : Cl) : ∀ ds S Q E, sp__law_changed c ds S Q E → ds.length = 3 := by
  rintro ds S Q E ⟨_, _, _, rfl, _⟩; rfl
theorem endsOk_set {xs : List (List Int)} (hx : EndsOk xs) {n : Nat} {s : List Int} (h1 : s ≠ []) (h2 : s.length ≤ 4) (h3 : LO s) : EndsOk (xs.set n s) :=
  ⟨by rw [List.length_set]; exact hx.1, fun t ht => by
    rcases List.mem_or_eq_of_mem_set ht with ht | ht
    · exact hx.2 t ht
    · rw [ht]; exact ⟨h1, h2, h3⟩⟩
theorem rd__law_changed (c : Cl) : ∀ ds S Q X1, sp__law_changed c ds S Q X1 → w__law_changed c (startD N__law_changed_ ds) S (endQ Q X1) := by
  rintro ds S Q X1 ⟨p, xs, al, rfl, hp, hx, ⟨ha1, ha2, ha3⟩, h⟩
  have hx6 := hx.1
  have hal := List.length_pos_iff.mpr ha1
  show w__law_changed c [some (.ref p), some (dRows xs), some (dL al), none, none, none, none, none] S (endQ Q X1)
  unfold w__law_changed
  refine seq_k fun q1 n1 r1 _ _ x1 => ?_
  simp only [wSet, wLcM, wIt, wVar, getV, some!, dRows, seqA, seqL, seqM, delVs, delV, setV, List.length_map]
  refine ⟨by unfold sizeLine; omega, compI_map lstD trivial (fun x hx R hR => ?_) ?_⟩
  · obtain ⟨s, _, rfl⟩ := List.mem_map.mp hx
    simp only [gN, wYes, if_true, wCB, wCons, wNil, wVar, getV, setV, some!, oList, one, dL, seqA, seqL, seqM]
    exact hR
  rw [fm_lst]
  refine fun a ha => n1 _ _ ?_
  have C : CS (put S a (.lst (xs.map dL))) p a xs := by
    obtain ⟨k, h1, h2⟩ := hp
    have ne : a ≠ p := fun z => by rw [z, h2] at ha; cases ha
    exact ⟨⟨k, h1, by rw [put_ne (Ne.symm ne)]; exact h2⟩, put_same, ne⟩
  generalize put S a (.lst (xs.map dL)) = S1 at C
  clear hp ha
  generalize hde : D.lst (xs.map dL) = de
  refine seq_k fun q1 n1 r2 _ _ x1 => ?_
  simp only [wSet, wCall, wCons, wNil, wVar, wC, getV, setV, some!]
  refine C.draw (by decide) fun way S2 w0 w1 C => n1 _ _ ?_
  refine seq_k fun q1 n1 r3 _ _ x1 => ?_
  simp only [wSet, wBin, wCB, wCall, wCons, wNil, wVar, wC, getV, setV, some!]
  refine oLen_of (d := dL al) rfl ?_
  rw [List.length_map]
  refine C.draw ⟨by omega, by omega⟩ fun li S3 l0 l1 C => ?_
  obtain ⟨l, hl, el⟩ := at_mem l0 l1
  have ll : LO [l] := fun x hx => by rw [List.mem_singleton.mp hx]; exact ha3 l hl
  refine (oIx_eq (x := dL al) rfl el _).mpr (n1 _ _ ?_)
  refine seq_k fun q1 n1 r4 _ _ x1 => ?_
  simp only [wIf, wTest, wBin, wCB, wCons, wNil, wVar, wC, getV, some!]
  refine oLen_of (seqA_at C.at_) ?_
  rw [List.length_map]
  simp only [oEq, shD_int, eqD_int, true_and, decide_eq_true_eq]
  split
  · simp only [wRet, wLst, wCons, wNil, wVar, getV, some!]
    refine ⟨by show 1 ≤ sizeLine; decide, by show 1 ≤ sizeLine; decide, ?_⟩
    rw [r4]
    exact h [[l]] S3 ⟨by show 1 ≤ 6; decide, fun s hs => by rw [List.mem_singleton.mp hs]; exact ⟨by simp, by show 1 ≤ 4; decide, ll⟩⟩ C.hand
  · rename_i g
    simp only [wNext]
    refine n1 _ _ ?_
    have hxp : 0 < xs.length := by omega
    refine seq_k fun q1 n1 r5 _ _ x1 => ?_
    simp only [wSet, wCB, wCall, wCons, wNil, wVar, getV, setV, some!]
    refine oLen_of (seqA_at C.at_) ?_
    rw [List.length_map]
    refine C.draw ⟨by omega, by omega⟩ fun at_ S4 a0 a1 C => n1 _ _ ?_
    obtain ⟨n, rfl⟩ : ∃ n : Nat, at_ = n := ⟨at_.toNat, by omega⟩
    have hn : n < xs.length := by omega
    have hat : xs[n]? = some xs[n] := List.getElem?_eq_getElem hn
    obtain ⟨hs1, hs2, hs3⟩ := hx.2 _ (List.mem_of_getElem? hat)
    generalize xs[n] = s at hat hs1 hs2 hs3
    refine seq_k fun q1 n1 r6 _ _ x1 => ?_
    simp only [wIf, wTest, wBin, wVar, wC, getV, some!, oEq, shD_int, eqD_int, true_and, decide_eq_true_eq]
    split
    · have e4 : seqL S4 (.ref a) = some (xs.map dL) := seqM_at C.at_
      simp only [wRet, wBin, wSl, wP, wNoP, wVar, wC, getV, some!, oSl, e4, cutD_mapL]
      have a1 : ∀ Q, oAdd S4 (.int (n : Int)) (.int 1) Q = Q (.int ((n : Int) + 1)) S4 := fun _ => rfl
      rw [a1]
      simp only [e4, cutD_mapL]
      refine oAdd_lst (xs := ((xs.drop (HT.sIx xs.length 0 none)).take (HT.sIx xs.length xs.length (some (n : Int)) - HT.sIx xs.length 0 none)).map dL) rfl ?_ ?_
      · rw [List.length_map, List.length_map, List.length_take, List.length_take, List.length_drop, List.length_drop]
        unfold sizeLine; omega
      · rw [← List.map_append, r6]
        refine h _ _ ⟨?_, fun t ht => ?_⟩ C.hand
        · rw [List.length_append, HT.sIx_none, HT.sIx_none, sIx_pos (by omega), sIx_pos (by omega), List.length_take, List.length_take, List.length_drop, List.length_drop]
          omega
        · rcases List.mem_append.mp ht with ht | ht
          · exact hx.2 t (List.mem_of_mem_drop (List.mem_of_mem_take ht))
          · exact hx.2 t (List.mem_of_mem_drop (List.mem_of_mem_take ht))
    · simp only [wNext]
      refine n1 _ _ ?_
      refine seq_k fun q1 n1 r7 _ _ x1 => ?_
      have rest7 : q1.nx [some (.ref p), some de, some (dL al), some (.ref a), some (.int way), some (.int l), some (.int (n : Int)), none] S4 := by
        refine n1 _ _ ?_
        refine seq_k fun q1 n1 r8 _ _ x1 => ?_
        have fin : ∀ S5 rows, CS S5 p a rows → EndsOk rows → q1.nx [some (.ref p), some de, some (dL al), some (.ref a), some (.int way), some (.int l), some (.int (n : Int)), none] S5 := fun S5 rows C5 hr => by
          refine n1 _ _ ?_
          have e5 := C5.at_
          simp only [wRet, wFrz, wVar, getV, some!, frzD, e5]
          obtain ⟨k, k1, k2⟩ := C5.hand
          exact h rows _ hr ⟨k, k1, by rw [del_ne (Ne.symm C5.ne)]; exact k2⟩
        simp only [wIf, wTest, wBin, wVar, wC, getV, some!, oEq, shD_int, eqD_int, true_and, decide_eq_true_eq]
        split
        · simp only [wSetI, wBin, wSl, wP, wNoP, wUn, wLst, wCons, wNil, wVar, wC, getV, some!]
          refine (oIx_eq (seqA_at C.at_) (at_map hat) _).mpr ?_
          simp only [oNeg]
          have hc := cut_but1 hs1
          refine sl_list ⟨by show 1 ≤ sizeLine; decide, add_lsts (b := [l]) (by show _ + 1 ≤ 1000; omega) ?_⟩
          exact set_row C hn fun S5 C5 => fin S5 _ C5 (endsOk_set hx (by simp) (by rw [List.length_append]; show _ + 1 ≤ 4; omega) (hs3.cut.add ll))
        · simp only [wSetI, wBin, wSl, wP, wNoP, wLst, wCons, wNil, wVar, wC, getV, some!]
          refine (oIx_eq (seqA_at C.at_) (at_map hat) _).mpr ?_
          refine ⟨by show 1 ≤ sizeLine; decide, add_lsts (b := [l]) (by show _ + 1 ≤ 1000; omega) (sl_list ?_)⟩
          obtain ⟨c1, c2, c3⟩ := cut_first (e := s ++ [l]) (by simp) (hs3.add ll)
          exact set_row C hn fun S5 C5 => fin S5 _ C5 (endsOk_set hx c1 c2 c3)
      simp only [wIf, wAnd, wTest, wBin, wCB, wCons, wNil, wVar, wC, getV, some!, oEq, shD_int, eqD_int, true_and, decide_eq_true_eq]
      split
      · refine oLen_of (seqA_at C.at_) ?_
        rw [List.length_map]
        simp only [oLt, oI0, decide_eq_true_eq]
        split
        · rename_i g6
          simp only [wRet, wBin, wLst, wSl, wP, wNoP, wCall, wCons, wNil, wVar, wC, getV, some!]
          refine ⟨by show 1 ≤ sizeLine; decide, (oIx_eq (seqA_at C.at_) (at_map hat) _).mpr (C.draw (by decide) fun m S5 m0 m1 C => ?_)⟩
          obtain ⟨m, rfl⟩ : ∃ k : Nat, m = k := ⟨m.toNat, by omega⟩
          refine sl_list ?_
          rw [cutI_nat]
          refine add_lsts (a := [l]) (b := s.take m) (by show 1 + _ ≤ 1000; rw [List.length_take]; omega) ⟨by show 1 ≤ sizeLine; decide, ?_⟩
          refine oAdd_lst (seqM_at C.at_) (by rw [List.length_map]; show _ + 1 ≤ _; unfold sizeLine; omega) ?_
          rw [r7]
          have := h (xs ++ [[l] ++ s.take m]) S5 ⟨by rw [List.length_append]; show _ + 1 ≤ 6; omega, fun t ht => ?_⟩ C.hand
          · unfold dRows at this
            rw [List.map_append] at this
            exact this
          · rcases List.mem_append.mp ht with ht | ht
            · exact hx.2 t ht
            · rw [List.mem_singleton.mp ht]
              exact ⟨by simp, by rw [List.length_append, List.length_take]; show 1 + _ ≤ 4; omega, ll.add fun x hx => hs3 x (List.mem_of_mem_take hx)⟩
        · simp only [wNext]; exact rest7
      · simp only [wNext]; exact rest7
end K93
set_option Elab.async false
set_option linter.all false
set_option maxRecDepth 100000
set_option maxHeartbeats 1000000
namespace K93
open PySem PySem.Spec PyProof.Rows L2 DL
theorem sq_ix {n k : Nat} (h : k < n) : seqIndex? (k : Int) n = some k := by
  unfold seqIndex?
  first
    | simp [h]; done
    | (rw [if_neg (by omega), if_pos (by omega)]; simp; done)
    | (simp; omega)
theorem erase_map {α β : Type} {f : α → β} : ∀ {l : List α} {n : Nat}, (l.map f).eraseIdx n = (l.eraseIdx n).map f
  | [], _ => rfl
  | _ :: _, 0 => rfl
  | x :: r, n + 1 => by
    show f x :: (r.map f).eraseIdx n = f x :: (r.eraseIdx n).map f
    rw [erase_map]
theorem mem_erase {α : Type} {l : List α} {k : Nat} {x : α} (h : x ∈ l.eraseIdx k) : x ∈ l := List.mem_of_mem_eraseIdx h
end K93
set_option Elab.async false
set_option linter.all false
set_option maxRecDepth 100000
set_option maxHeartbeats 1000000
namespace K93
open PySem PySem.Spec PyProof.Rows L2 DL
theorem len__law_mixed_up (c : Cl) : ∀ ds S Q E, sp__law_mixed_up c ds S Q E → ds.length = 2 := by
  rintro ds S Q E ⟨_, _, rfl, _⟩; rfl
theorem rd__law_mixed_up (c : Cl) : ∀ ds S Q X1, sp__law_mixed_up c ds S Q X1 → w__law_mixed_up c (startD N__law_mixed_up_ ds) S (endQ Q X1) := by
  rintro ds S Q X1 ⟨p, xs, rfl, hp, hx, h⟩
  have hx6 := hx.1
  show w__law_mixed_up c [some (.ref p), some (dRows xs), none, none, none, none] S (endQ Q X1)
  unfold w__law_mixed_up
  refine seq_k fun q1 n1 r1 _ _ x1 => ?_
  simp only [wSet, wLcM, wIt, wVar, getV, some!, dRows, seqA, seqL, seqM, delVs, delV, setV, List.length_map]
  refine ⟨by unfold sizeLine; omega, compI_map lstD trivial (fun x hx R hR => ?_) ?_⟩
  · obtain ⟨s, _, rfl⟩ := List.mem_map.mp hx
    simp only [gN, wYes, if_true, wCB, wCons, wNil, wVar, getV, setV, some!, oList, one, dL, seqA, seqL, seqM]
    exact hR
  rw [fm_lst]
  refine fun a ha => n1 _ _ ?_
  have C : CS (put S a (.lst (xs.map dL))) p a xs := by
    obtain ⟨k, h1, h2⟩ := hp
    have ne : a ≠ p := fun z => by rw [z, h2] at ha; cases ha
    exact ⟨⟨k, h1, by rw [put_ne (Ne.symm ne)]; exact h2⟩, put_same, ne⟩
  generalize put S a (.lst (xs.map dL)) = S1 at C
  clear hp ha
  refine seq_k fun q1 n1 r2 _ _ x1 => ?_
  simp only [wSet, wLstM, wNil, setV]
  refine ⟨Nat.zero_le _, fun b hb => n1 _ _ ?_⟩
  have ba : b ≠ a := fun z => by rw [z, C.at_] at hb; cases hb
  have bp : b ≠ p := fun z => by obtain ⟨k, _, h2⟩ := C.hand; rw [z, h2] at hb; cases hb
  have C : CS (put S1 b (.lst [])) p a xs := by
    obtain ⟨k, h1, h2⟩ := C.hand
    exact ⟨⟨k, h1, by rw [put_ne (Ne.symm bp)]; exact h2⟩, by rw [put_ne (Ne.symm ba)]; exact C.at_, C.ne⟩
  have hb : put S1 b (.lst []) b = some (.lst (([] : List (List Int)).map dL)) := put_same
  generalize put S1 b (.lst []) = S2 at C hb
  refine seq_k fun q1 n1 r3 _ _ x1 => ?_
  have hl : seqA S2 (dRows xs) = some (xs.map dL) := rfl
  show (wFor _ _ _) [some (.ref p), some (dRows xs), some (.ref a), some (.ref b), none, none] S2 q1
  simp only [wFor, wRg1, wCB, wCons, wNil, wVar, getV, some!]
  refine oLen_of hl ?_
  rw [List.length_map]
  simp only [asI]
  refine ⟨by omega, ?_⟩
  refine forI_invq (fun i e S' => ∃ (ls fs : List (List Int)) (x4 : Option D), CS S' p a ls ∧ S' b = some (.lst (fs.map dL)) ∧ ls.length + i = xs.length ∧ fs.length = i ∧ (∀ s, s ∈ ls → s ≠ [] ∧ s.length ≤ 4 ∧ LO s) ∧ (∀ s, s ∈ fs → s ≠ [] ∧ s.length ≤ 4 ∧ LO s) ∧
    e = [some (.ref p), some (dRows xs), some (.ref a), some (.ref b), x4, none]) ⟨xs, [], none, C, hb, rfl, rfl, hx.2, (fun s hs => by cases hs), rfl⟩ (fun _ _ _ _ => trivial) ?_ ?_
  · clear C hb hl
    rintro i e' e S' hi ⟨ls, fs, x4, C, hb, h1, h2, h3, h4, rfl⟩ q hq _ _ _ _
    obtain ⟨hlt, rfl⟩ := rngD_get hi
    have hil : i < xs.length := by omega
    simp only [gN, setV, wDrop, wMt, wCB, wCall, wCons, wNil, wVar, getV, some!, mutL, hb, C.at_]
    refine oLen_of (seqA_at C.at_) ?_
    rw [List.length_map]
    refine draw_go C.hand ⟨by omega, by omega⟩ fun r r0 r1 k hk => ?_
    have C3 : CS (put S' p (handMO k)) p a ls := ⟨isHand_put hk, by rw [put_ne C.ne]; exact C.at_, C.ne⟩
    have hb3 : put S' p (handMO k) b = some (.lst (fs.map dL)) := by rw [put_ne bp]; exact hb
    generalize put S' p (handMO k) = S3 at C3 hb3
    obtain ⟨n, rfl⟩ : ∃ n : Nat, r = n := ⟨r.toNat, by omega⟩
    have hn : n < ls.length := by omega
    have hat : ls[n]? = some ls[n] := List.getElem?_eq_getElem hn
    have hsn := h3 _ (List.mem_of_getElem? hat)
    generalize ls[n] = s at hat hsn
    have e3 := C3.at_
    simp only [oPopAt, mutL, e3, one, asI, List.length_map, sq_ix hn, some!, List.getElem?_map, hat, Option.map_some]
    have C4 := C3.set (ls.eraseIdx n)
    have e5 : (ls.map dL).eraseIdx n = (ls.eraseIdx n).map dL := erase_map
    rw [e5]
    have hb4 : put S3 a (.lst ((ls.eraseIdx n).map dL)) b = some (.lst (fs.map dL)) := by rw [put_ne ba]; exact hb3
    generalize put S3 a (.lst ((ls.eraseIdx n).map dL)) = S4 at C4 hb4
    refine ⟨⟨by omega, by omega⟩, ?_⟩
    simp only [oAppend, mutL, hb4, one, List.length_map]
    refine ⟨by unfold sizeLine; omega, hq _ _ ⟨ls.eraseIdx n, fs ++ [s], _, ?_, by rw [put_same, List.map_append]; rfl, ?_, by rw [List.length_append, h2]; rfl, fun t ht => h3 t (mem_erase ht), fun t ht => ?_, rfl⟩⟩
    · obtain ⟨k2, k3, k4⟩ := C4.hand
      exact ⟨⟨k2, k3, by rw [put_ne (Ne.symm bp)]; exact k4⟩, by rw [put_ne (Ne.symm ba)]; exact C4.at_, C4.ne⟩
    · rw [List.length_eraseIdx, if_pos hn]; omega
    · rcases List.mem_append.mp ht with ht | ht
      · exact h4 t ht
      · rw [List.mem_singleton.mp ht]; exact hsn
  · rintro e S' ⟨ls, fs, x4, C, hb, h1, h2, h3, h4, rfl⟩
    rw [rngD_length, Int.toNat_natCast] at h2
    refine n1 _ _ ?_
    simp only [wRet, wFrz, wVar, getV, some!, frzD, hb]
    obtain ⟨k, k1, k2⟩ := C.hand
    exact h fs _ ⟨by omega, h4⟩ h2 ⟨k, k1, by rw [del_ne (Ne.symm bp)]; exact k2⟩
theorem len_Stopper_sent_in_all (c : Cl) : ∀ ds S Q E, sp_Stopper_sent_in_all c ds S Q E → ds.length = 1 := by
  rintro ds S Q E ⟨_, _, rfl, _⟩; rfl
theorem rd_Stopper_sent_in_all (c : Cl) : ∀ ds S Q X1, sp_Stopper_sent_in_all c ds S Q X1 → w_Stopper_sent_in_all c (startD N_Stopper_sent_in_all_ ds) S (endQ Q X1) := by
  rintro ds S Q X1 ⟨a, s, rfl, h0, h⟩
  show w_Stopper_sent_in_all c [some (.ref a)] S (endQ Q X1)
  unfold w_Stopper_sent_in_all
  have h0' : S a = some (.ins c.Stopper N_Stopper [some (.tup (s.stops.map dT)), some (dT s.held), some (.int s.many), some (.bl s.stop)]) := h0
  simp only [wRet, wFld, wVar, getV, some!, fldD, h0', true_and]
  exact h
theorem len_are_unlike (c : Cl) : ∀ ds S Q E, sp_are_unlike c ds S Q E → ds.length = 2 := by
  rintro ds S Q E ⟨_, _, _, _, rfl, _⟩; rfl
theorem rd_are_unlike (c : Cl) : ∀ ds S Q X1, sp_are_unlike c ds S Q X1 → w_are_unlike c (startD N_are_unlike_ ds) S (endQ Q X1) := by
  rintro ds S Q X1 ⟨a, b, s, t, rfl, ha, hb, h⟩
  show w_are_unlike c [some (.ref a), some (.ref b)] S (endQ Q X1)
  unfold w_are_unlike
  refine seq_k fun q1 n1 r1 _ _ x1 => ?_
  unfold unlike at h
  simp only [wIf, wTest, wBin, wMeth, wCons, wNil, wVar, getV, some!]
  refine ⟨isIns_of ha, a, s, rfl, ha, isIns_of hb, b, t, rfl, hb, ?_⟩
  simp only [oNe, shD_bl, eqD_bl, true_and]
  cases e1 : s.stop != t.stop with
  | true =>
    have e2 : (!(s.stop == t.stop)) = true := e1
    rw [e1] at h
    simp only [e2, if_true, wRet, wC]
    rw [r1]
    exact h
  | false =>
    have e2 : (!(s.stop == t.stop)) = false := e1
    rw [e1, Bool.false_or] at h
    simp only [e2, Bool.false_eq_true, if_false, wNext]
    refine n1 _ _ ?_
    simp only [wRet, wAndV, wMeth, wBin, wCons, wNil, wVar, getV, some!]
    refine ⟨isIns_of ha, a, s, rfl, ha, ?_⟩
    cases e3 : s.stop with
    | true =>
      rw [e3, Bool.true_and] at h
      simp only [if_true]
      refine ⟨isIns_of ha, a, s, rfl, ha, isIns_of hb, b, t, rfl, hb, ?_⟩
      simp only [oNe, shD_int, eqD_int, true_and]
      have e4 : (s.many != t.many) = !decide (s.many = t.many) := by
        by_cases z : s.many = t.many
        · rw [z]; simp
        · simp [z]
      rw [e4] at h
      exact h
    | false =>
      rw [e3, Bool.false_and] at h
      simp only [Bool.false_eq_true, if_false]
      exact h
end K93
set_option Elab.async false
set_option linter.all false
set_option maxRecDepth 100000
set_option maxHeartbeats 1000000
namespace K93
open PySem PySem.Spec PyProof.Rows L2 DL
theorem hand_go {c : Cl} {p : Addr} {n : Int} {S : Sto} {Q : Qd} {X : XQ} (H : IsHand S p) (hn : 0 < n ∧ n ≤ 100000) (h : ∀ r S', 0 ≤ r → r < n → IsHand S' p → Q (.int r) S') : sp__law_draw c [.ref p, .int n] S Q X :=
  draw_go H hn fun r h0 h1 k hk => h r _ h0 h1 (isHand_put hk)
theorem cut_rows {S : Sto} {xs : List (List Int)} {lo hi : Option Int} {Q : Qd} (q : Q (dRows ((xs.drop (HT.sIx xs.length 0 lo)).take (HT.sIx xs.length xs.length hi - HT.sIx xs.length 0 lo))) S) : oSl S (dRows xs) lo hi Q := by
  simp only [oSl, dRows, seqL, seqM, some!, cutD_mapL]
  exact q
theorem add_rows {S : Sto} {a b : List (List Int)} {Q : Qd} (hz : a.length + b.length ≤ 1000) (q : Q (dRows (a ++ b)) S) : oAdd S (dRows a) (.lst (b.map dL)) Q := by
  refine oAdd_lst (xs := a.map dL) rfl (by rw [List.length_map, List.length_map]; unfold sizeLine; omega) ?_
  rw [← List.map_append]
  exact q
end K93
set_option Elab.async false
set_option linter.all false
set_option maxRecDepth 100000
set_option maxHeartbeats 1000000
namespace K93
open PySem PySem.Spec PyProof.Rows L2 DL
/-! ### the plain law of pairs -/
/-- none twice, all pairs reached -/
structure PM (xs ys : List (List Int)) (old ws : List Pr) : Prop where
  nd : (ws.map Prod.snd).Nodup
  ok : ∀ w, w ∈ ws → Reach xs w.2.1 ∧ Reach ys w.2.2
  at_ : ∀ (i : Nat) w, old[i]? = some w → ws[i]? = some w
theorem step_cases (xs ys : List (List Int)) (w : Pr) (ws : List Pr) (l : Nat) : (∃ t, stepP xs ys w (none, ws) l = (some t, ws)) ∨ stepP xs ys w (none, ws) l = (none, ws) ∨
    ∃ h k, nextF xs w.2.1 (l : Int) = some h ∧ nextF ys w.2.2 (l : Int) = some k ∧ (h, k) ∉ ws.map Prod.snd ∧ stepP xs ys w (none, ws) l = (none, ws ++ [(w.1 ++ [(l : Int)], h, k)]) := by
  unfold stepP
  rw [if_neg (by simp)]
  by_cases z : stopF xs (w.2.1 ++ [(l : Int)]) ≠ stopF ys (w.2.2 ++ [(l : Int)])
  · rw [if_pos z]; exact .inl ⟨_, rfl⟩
  · rw [if_neg z]
    cases e1 : nextF xs w.2.1 (l : Int) with
    | none => exact .inr (.inl rfl)
    | some h =>
      cases e2 : nextF ys w.2.2 (l : Int) with
      | none => exact .inr (.inl rfl)
      | some k =>
        by_cases y : (h, k) ∈ ws.map Prod.snd
        · exact .inr (.inl (if_pos y))
        · exact .inr (.inr ⟨h, k, rfl, rfl, y, if_neg y⟩)
theorem PM.step {xs ys : List (List Int)} {old ws : List Pr} (m : PM xs ys old ws) {w : Pr} (hw : Reach xs w.2.1 ∧ Reach ys w.2.2) {l : Nat} (hl : l < 12) : PM xs ys old (stepP xs ys w (none, ws) l).2 := by
  rcases step_cases xs ys w ws l with ⟨t, e⟩ | e | ⟨h, k, e1, e2, e3, e⟩
  · rw [e]; exact m
  · rw [e]; exact m
  · rw [e]
    refine ⟨?_, fun x hx => ?_, fun i x hx => ?_⟩
    · rw [List.map_append]
      refine List.nodup_append.mpr ⟨m.nd, List.nodup_cons.mpr ⟨List.not_mem_nil, List.nodup_nil⟩, fun a ha b hb => ?_⟩
      rw [List.mem_singleton.mp hb]; exact fun z => e3 (by rw [z] at ha; exact ha)
    · rcases List.mem_append.mp hx with hx | hx
      · exact m.ok x hx
      · rw [List.mem_singleton.mp hx]; exact ⟨.next hw.1 hl e1, .next hw.2 hl e2⟩
    · have := m.at_ i x hx
      show (ws ++ _)[i]? = _
      rw [List.getElem?_append_left (lt_of_some this)]; exact this
theorem rowP_succ {xs ys : List (List Int)} {w : Pr} {ws : List Pr} {n : Nat} : rowP xs ys w ws (n + 1) = stepP xs ys w (rowP xs ys w ws n) n := by
  unfold rowP; rw [List.range_succ, List.foldl_append]; rfl
theorem step_done {xs ys : List (List Int)} {w : Pr} {st : Option (List Int) × List Pr} {l : Nat} (h : st.1.isSome = true) : stepP xs ys w st l = st := by
  unfold stepP; rw [if_pos h]
theorem PM.row {xs ys : List (List Int)} {old ws : List Pr} (m : PM xs ys old ws) {w : Pr} (hw : Reach xs w.2.1 ∧ Reach ys w.2.2) : ∀ n, n ≤ 12 → PM xs ys old (rowP xs ys w ws n).2
  | 0, _ => m
  | n + 1, hn => by
    have ih := PM.row m hw n (by omega)
    rw [rowP_succ]
    cases e : (rowP xs ys w ws n).1 with
    | some t => rw [step_done (by rw [e]; rfl)]; exact ih
    | none =>
      have e2 : rowP xs ys w ws n = (none, (rowP xs ys w ws n).2) := by rw [← e]
      rw [e2]
      exact ih.step hw (by omega)
theorem bfsP_succ {xs ys : List (List Int)} {n : Nat} : bfsP xs ys (n + 1) = if (bfsP xs ys n).1.isSome = true then bfsP xs ys n else match (bfsP xs ys n).2[n]? with
    | none => bfsP xs ys n
    | some w => rowP xs ys w (bfsP xs ys n).2 12 := rfl
theorem bfsP_met (xs ys : List (List Int)) : ∀ n, PM xs ys [([], [], [])] (bfsP xs ys n).2
  | 0 => ⟨List.nodup_cons.mpr ⟨List.not_mem_nil, List.nodup_nil⟩, (fun w hw => by rw [List.mem_singleton.mp hw]; exact ⟨.nil, .nil⟩), fun _ _ h => h⟩
  | n + 1 => by
    have ih := bfsP_met xs ys n
    rw [bfsP_succ]
    split
    · exact ih
    · split
      · exact ih
      · rename_i w hw
        exact ih.row (ih.ok w (List.mem_of_getElem? hw)) 12 (Nat.le_refl _)
def allPr (xs ys : List (List Int)) : List (List Int × List Int) := (Prefs xs).flatMap fun h => (Prefs ys).map fun k => (h, k)
theorem allPr_len {xs ys : List (List Int)} : (allPr xs ys).length = (Prefs xs).length * (Prefs ys).length := by
  have : ∀ a : List (List Int), (a.flatMap fun h => (Prefs ys).map fun k => (h, k)).length = a.length * (Prefs ys).length := fun a => by
    induction a with
    | nil => simp
    | cons x r ih => rw [List.flatMap_cons, List.length_append, ih, List.length_map, List.length_cons, Nat.succ_mul, Nat.add_comm]
  exact this _
theorem bfsP_len {xs ys : List (List Int)} (hx : EndsOk xs) (hy : EndsOk ys) (n : Nat) : (bfsP xs ys n).2.length ≤ 361 := by
  have m := bfsP_met xs ys n
  have h1 : ((bfsP xs ys n).2.map Prod.snd).length ≤ (allPr xs ys).length := nodup_le m.nd fun p hp => by
    obtain ⟨w, hw, rfl⟩ := List.mem_map.mp hp
    obtain ⟨a, b⟩ := m.ok w hw
    exact List.mem_flatMap.mpr ⟨_, reach_pref hx a, List.mem_map.mpr ⟨_, reach_pref hy b, rfl⟩⟩
  rw [List.length_map, allPr_len, prefs_len, prefs_len] at h1
  have a := hx.1
  have b := hy.1
  have : (1 + 3 * xs.length) * (1 + 3 * ys.length) ≤ 19 * 19 := Nat.mul_le_mul (by omega) (by omega)
  omega
theorem bfsP_stop {xs ys : List (List Int)} {n : Nat} (h : (bfsP xs ys n).1.isSome = true ∨ (bfsP xs ys n).2.length ≤ n) : ∀ m, n ≤ m → bfsP xs ys m = bfsP xs ys n
  | 0, hm => by rw [show n = 0 by omega]
  | m + 1, hm => by
    by_cases e : n = m + 1
    · rw [e]
    · have ih := bfsP_stop h m (by omega)
      rw [bfsP_succ, ih]
      rcases h with h | h
      · rw [if_pos h]
      · split
        · rfl
        · rw [List.getElem?_eq_none (by omega)]
end K93
set_option Elab.async false
set_option linter.all false
set_option maxRecDepth 100000
set_option maxHeartbeats 1000000
namespace K93
open PySem PySem.Spec PyProof.Rows L2 DL
theorem feed_run {xs : List (List Int)} {h : List Int} {m l : Int} : (0 < stopF xs (h ++ [l]) → (feedF ⟨xs, h, m, false⟩ l).2 = ⟨xs, [], m + (((h.length : Int) + 1) - (stopF xs (h ++ [l]) : Nat)), true⟩ ∧ nextF xs h l = none) ∧
    (¬ 0 < stopF xs (h ++ [l]) → ∃ h', nextF xs h l = some h' ∧ ∃ m', (feedF ⟨xs, h, m, false⟩ l).2 = ⟨xs, h', m', false⟩ ∧ m' + (h'.length : Int) = m + (h.length : Int) + 1) := by
  have hl : ((h ++ [l]).length : Int) = (h.length : Int) + 1 := by rw [List.length_append]; rfl
  constructor
  · intro z
    unfold feedF nextF
    rw [if_neg Bool.false_ne_true]
    dsimp only
    rw [if_pos z, if_pos z, hl]
    exact ⟨rfl, rfl⟩
  · intro z
    have hk := heldF_le xs (h ++ [l])
    unfold feedF nextF
    rw [if_neg Bool.false_ne_true]
    dsimp only
    rw [if_neg z, if_neg z]
    refine ⟨_, rfl, _, rfl, ?_⟩
    rw [List.length_drop, hl]
    omega
theorem feed_unlike {xs ys : List (List Int)} {h k : List Int} {m n l : Int} (e : m + (h.length : Int) = n + (k.length : Int)) :
    unlike (feedF ⟨xs, h, m, false⟩ l).2 (feedF ⟨ys, k, n, false⟩ l).2 = decide (stopF xs (h ++ [l]) ≠ stopF ys (k ++ [l])) := by
  obtain ⟨a1, a2⟩ := feed_run (xs := xs) (h := h) (m := m) (l := l)
  obtain ⟨b1, b2⟩ := feed_run (xs := ys) (h := k) (m := n) (l := l)
  by_cases z : 0 < stopF xs (h ++ [l])
  · rw [(a1 z).1]
    by_cases y : 0 < stopF ys (k ++ [l])
    · rw [(b1 y).1]
      unfold unlike
      show (false || (true && (m + _ != n + _))) = _
      rw [Bool.false_or, Bool.true_and]
      by_cases x : stopF xs (h ++ [l]) = stopF ys (k ++ [l])
      · rw [decide_eq_false (by simpa using x), x, show m + ((h.length : Int) + 1 - (stopF ys (k ++ [l]) : Nat)) = n + ((k.length : Int) + 1 - (stopF ys (k ++ [l]) : Nat)) by omega]
        simp
      · rw [decide_eq_true x]
        have : m + ((h.length : Int) + 1 - (stopF xs (h ++ [l]) : Nat)) ≠ n + ((k.length : Int) + 1 - (stopF ys (k ++ [l]) : Nat)) := by omega
        simpa using this
    · obtain ⟨h', _, m', e1, _⟩ := b2 y
      rw [e1, decide_eq_true (by omega)]
      rfl
  · obtain ⟨h', _, m', e1, _⟩ := a2 z
    rw [e1]
    by_cases y : 0 < stopF ys (k ++ [l])
    · rw [(b1 y).1, decide_eq_true (by omega)]
      rfl
    · obtain ⟨k', _, n', e2, _⟩ := b2 y
      rw [e2, decide_eq_false (by omega)]
      rfl
end K93
set_option Elab.async false
set_option linter.all false
set_option maxRecDepth 100000
set_option maxHeartbeats 1000000
namespace K93
open PySem PySem.Spec PyProof.Rows L2 DL
/-! ### parting_text: the keys, and what stands while the pairs are gathered -/
def kP (p : List Int × List Int) : NestedKey := .tup [.tup (p.1.map NestedKey.num), .tup (p.2.map NestedKey.num)]
def dP (p : List Int × List Int) : D := .tup [dT p.1, dT p.2]
theorem nks_ints : ∀ xs : List Int, nksD (xs.map D.int) = some (xs.map NestedKey.num)
  | [] => rfl
  | x :: r => by
    show ((nkD (.int x)).bind fun k => (nksD (r.map D.int)).map (k :: ·)) = _
    rw [nks_ints r]; rfl
theorem nk_dP (p : List Int × List Int) : nkD (dP p) = some (kP p) := by
  unfold dP kP dT
  simp only [nkD, nksD, nks_ints, Option.map_some, Option.bind_some]
theorem depth_nums : ∀ xs : List Int, NestedKey.depthAll (xs.map NestedKey.num) ≤ 1
  | [] => by simp [NestedKey.depthAll]
  | x :: r => by
    have := depth_nums r
    rw [List.map_cons]
    simp [NestedKey.depthAll, NestedKey.depth]
    omega
theorem key_dP (p : List Int × List Int) : keyD (dP p) = some (kP p) := by
  have h := nk_dP p
  show ((nkD (dP p)).bind fun k => if k.depth ≤ 8 then some k else none) = _
  rw [h]
  show (if (kP p).depth ≤ 8 then some (kP p) else none) = _
  refine if_pos ?_
  have h1 := depth_nums p.1
  have h2 := depth_nums p.2
  unfold kP
  simp [NestedKey.depthAll, NestedKey.depth]
  omega
theorem nums_inj : ∀ {a b : List Int}, a.map NestedKey.num = b.map NestedKey.num → a = b
  | [], [], _ => rfl
  | [], _ :: _, h => by cases h
  | _ :: _, [], h => by cases h
  | x :: a, y :: b, h => by
    rw [List.map_cons, List.map_cons] at h
    injection h with h1 h2
    injection h1 with h1
    rw [h1, nums_inj h2]
theorem kP_inj {a b : List Int × List Int} (h : kP a = kP b) : a = b := by
  unfold kP at h
  injection h with h
  injection h with h1 h2
  injection h1 with h1
  injection h2 with h2
  injection h2 with h2
  obtain ⟨a1, a2⟩ := a
  obtain ⟨b1, b2⟩ := b
  have e1 : a1 = b1 := nums_inj h1
  have e2 : a2 = b2 := nums_inj h2
  rw [e1, e2]
def kvP (w : Pr) : D × D := (dP w.2, .bl true)
theorem fnd_p {p : List Int × List Int} : ∀ {ws : List Pr}, (fndN (ws.map kvP) (kP p)).isSome = decide (p ∈ ws.map Prod.snd)
  | [] => by simp [fndN]
  | s :: r => by
    show (if nkD (dP s.2) = some (kP p) then some (D.bl true) else fndN (r.map kvP) (kP p)).isSome = _
    rw [nk_dP, List.map_cons]
    by_cases e : s.2 = p
    · rw [if_pos (by rw [e]), e]; simp
    · rw [if_neg (fun z => e (kP_inj (Option.some.inj z))), fnd_p, Bool.eq_iff_iff, decide_eq_true_iff, decide_eq_true_iff, List.mem_cons]
      exact ⟨.inr, fun z => z.resolve_left (fun y => e y.symm)⟩
theorem put_p {p : List Int × List Int} {t : List Int} {ws : List Pr} (h : p ∉ ws.map Prod.snd) : putN (ws.map kvP) (kP p) (dP p) (.bl true) = (ws ++ [(t, p)]).map kvP := by
  unfold putN
  rw [fnd_p, decide_eq_false h, if_neg Bool.false_ne_true, List.map_append]; rfl
def dW (w : Pr) (a : Addr × Addr) : D := .tup [dT w.1, .tup [.ref a.1, .ref a.2]]
structure WP (c : Cl) (xs ys : List (List Int)) (S0 S : Sto) (w k : Addr) (as : List (Addr × Addr)) (ws : List Pr) : Prop where
  ext : Ext S0 S
  new : S0 w = none ∧ S0 k = none ∧ w ≠ k
  atw : S w = some (.lst (List.zipWith dW ws as))
  atk : S k = some (.dN k (ws.map kvP))
  len : as.length = ws.length
  is : ∀ (i : Nat) a v, as[i]? = some a → ws[i]? = some v → (∃ m, S a.1 = some (stMO c ⟨xs, v.2.1, m, false⟩) ∧ m + (v.2.1.length : Int) = (v.1.length : Int)) ∧ (∃ m, S a.2 = some (stMO c ⟨ys, v.2.2, m, false⟩) ∧ m + (v.2.2.length : Int) = (v.1.length : Int))
theorem stMO_ne_lst {c : Cl} {s : Stp3} {S : Sto} {a w : Addr} {xs : List D} (h : S a = some (stMO c s)) (h2 : S w = some (.lst xs)) : a ≠ w := fun z => by
  rw [z, h2] at h; cases h
theorem stMO_ne_dN {c : Cl} {s : Stp3} {S : Sto} {a w k : Addr} {xs : List (D × D)} (h : S a = some (stMO c s)) (h2 : S w = some (.dN k xs)) : a ≠ w := fun z => by
  rw [z, h2] at h; cases h
theorem WP.mono {c : Cl} {xs ys : List (List Int)} {S0 S S2 : Sto} {w k : Addr} {as : List (Addr × Addr)} {ws : List Pr} (h : WP c xs ys S0 S w k as ws) (e : Ext S S2) : WP c xs ys S0 S2 w k as ws :=
  ⟨fun a m z => e _ _ (h.ext a m z), h.new, e _ _ h.atw, e _ _ h.atk, h.len, fun i a v h1 h2 => by
    obtain ⟨⟨m, e1, e2⟩, n, f1, f2⟩ := h.is i a v h1 h2
    exact ⟨⟨m, e _ _ e1, e2⟩, n, e _ _ f1, f2⟩⟩
theorem WP.add {c : Cl} {xs ys : List (List Int)} {S0 S : Sto} {w k : Addr} {as : List (Addr × Addr)} {ws : List Pr} (h : WP c xs ys S0 S w k as ws) {b : Addr × Addr} {v : Pr}
    (hb : (∃ m, S b.1 = some (stMO c ⟨xs, v.2.1, m, false⟩) ∧ m + (v.2.1.length : Int) = (v.1.length : Int)) ∧ (∃ m, S b.2 = some (stMO c ⟨ys, v.2.2, m, false⟩) ∧ m + (v.2.2.length : Int) = (v.1.length : Int))) :
    WP c xs ys S0 (put (put S k (.dN k ((ws ++ [v]).map kvP))) w (.lst (List.zipWith dW ws as ++ [dW v b]))) w k (as ++ [b]) (ws ++ [v]) := by
  have keep : ∀ a s, S a = some (stMO c s) → put (put S k (.dN k ((ws ++ [v]).map kvP))) w (.lst (List.zipWith dW ws as ++ [dW v b])) a = some (stMO c s) := fun a s e => by
    rw [put_ne (stMO_ne_lst e h.atw), put_ne (stMO_ne_dN e h.atk)]; exact e
  refine ⟨fun a n e => ?_, h.new, ?_, by rw [put_ne (Ne.symm h.new.2.2), put_same], by rw [List.length_append, List.length_append, h.len]; rfl, fun i a s h1 h2 => ?_⟩
  · rw [put_ne (fun z => by rw [z, h.new.1] at e; cases e), put_ne (fun z => by rw [z, h.new.2.1] at e; cases e)]; exact h.ext a n e
  · rw [put_same, List.zipWith_append h.len.symm]; rfl
  · have key : (∃ m, S a.1 = some (stMO c ⟨xs, s.2.1, m, false⟩) ∧ m + (s.2.1.length : Int) = (s.1.length : Int)) ∧ (∃ m, S a.2 = some (stMO c ⟨ys, s.2.2, m, false⟩) ∧ m + (s.2.2.length : Int) = (s.1.length : Int)) := by
      by_cases z : i < as.length
      · rw [List.getElem?_append_left z] at h1
        rw [List.getElem?_append_left (by rw [← h.len]; exact z)] at h2
        exact h.is i a s h1 h2
      · have l1 := lt_of_some h1
        rw [List.length_append] at l1
        have ei : i = as.length := by have : i < as.length + 1 := l1; omega
        subst ei
        rw [List.getElem?_append_right (Nat.le_refl _), Nat.sub_self] at h1
        rw [h.len, List.getElem?_append_right (Nat.le_refl _), Nat.sub_self] at h2
        cases h1; cases h2
        exact hb
    obtain ⟨⟨m, e1, e2⟩, n, f1, f2⟩ := key
    exact ⟨⟨m, keep _ _ e1, e2⟩, n, keep _ _ f1, f2⟩
/-! ### how long a text is -/
def TL (ws : List Pr) : Prop := ∀ (i : Nat) w, ws[i]? = some w → w.1.length ≤ i
theorem TL.step {xs ys : List (List Int)} {ws : List Pr} {w : Pr} (h : TL ws) (hw : w.1.length < ws.length) (l : Nat) : TL (stepP xs ys w (none, ws) l).2 ∧ ∀ t, (stepP xs ys w (none, ws) l).1 = some t → t.length ≤ ws.length := by
  rcases step_cases xs ys w ws l with ⟨t, e⟩ | e | ⟨a, b, e1, e2, e3, e⟩
  · unfold stepP at e ⊢
    rw [if_neg (by simp)] at e ⊢
    by_cases z : stopF xs (w.2.1 ++ [(l : Int)]) ≠ stopF ys (w.2.2 ++ [(l : Int)])
    · rw [if_pos z]
      refine ⟨h, fun t ht => ?_⟩
      cases ht
      rw [List.length_append]; exact hw
    · rw [if_neg z] at e ⊢
      split at e
      · split at e <;> cases e
      · cases e
  · rw [e]; exact ⟨h, fun t ht => by cases ht⟩
  · rw [e]
    refine ⟨fun i x hx => ?_, fun t ht => by cases ht⟩
    by_cases z : i < ws.length
    · have hx : (ws ++ _)[i]? = some x := hx
      rw [List.getElem?_append_left z] at hx; exact h i x hx
    · have hl := lt_of_some hx
      have hl : i < (ws ++ [_]).length := hl
      rw [List.length_append] at hl
      have hl : i < ws.length + 1 := hl
      have ei : i = ws.length := by omega
      subst ei
      have hx : (ws ++ _)[ws.length]? = some x := hx
      rw [List.getElem?_append_right (Nat.le_refl _), Nat.sub_self] at hx
      cases hx
      show (w.1 ++ [(l : Int)]).length ≤ _
      rw [List.length_append]; exact hw
theorem step_grow {xs ys : List (List Int)} {ws : List Pr} {w : Pr} {l : Nat} : ws.length ≤ (stepP xs ys w (none, ws) l).2.length := by
  rcases step_cases xs ys w ws l with ⟨t, e⟩ | e | ⟨a, b, e1, e2, e3, e⟩
  · rw [e]; exact Nat.le_refl _
  · rw [e]; exact Nat.le_refl _
  · rw [e]; show _ ≤ (ws ++ [_]).length; rw [List.length_append]; exact Nat.le_add_right _ _
theorem TL.row {xs ys : List (List Int)} {ws : List Pr} {w : Pr} (h : TL ws) (hw : w.1.length < ws.length) : ∀ n, TL (rowP xs ys w ws n).2 ∧ ws.length ≤ (rowP xs ys w ws n).2.length ∧ ∀ t, (rowP xs ys w ws n).1 = some t → t.length ≤ (rowP xs ys w ws n).2.length
  | 0 => ⟨h, Nat.le_refl _, fun t ht => by cases ht⟩
  | n + 1 => by
    obtain ⟨i1, i2, i3⟩ := TL.row h hw n
    rw [rowP_succ]
    cases e : (rowP xs ys w ws n).1 with
    | some t => rw [step_done (by rw [e]; rfl)]; exact ⟨i1, i2, i3⟩
    | none =>
      have e2 : rowP xs ys w ws n = (none, (rowP xs ys w ws n).2) := by rw [← e]
      rw [e2]
      obtain ⟨j1, j2⟩ := TL.step (xs := xs) (ys := ys) i1 (Nat.lt_of_lt_of_le hw i2) n
      exact ⟨j1, Nat.le_trans i2 step_grow, fun t ht => Nat.le_trans (j2 t ht) step_grow⟩
theorem bfsP_tl (xs ys : List (List Int)) : ∀ n, TL (bfsP xs ys n).2 ∧ ∀ t, (bfsP xs ys n).1 = some t → t.length ≤ (bfsP xs ys n).2.length
  | 0 => ⟨(fun i w h => by
      cases i with
      | zero => cases h; exact Nat.le_refl _
      | succ i => cases h), (fun t ht => by cases ht)⟩
  | n + 1 => by
    have ih := bfsP_tl xs ys n
    rw [bfsP_succ]
    split
    · exact ih
    · split
      · exact ih
      · rename_i w hw
        have := TL.row (xs := xs) (ys := ys) ih.1 (Nat.lt_of_le_of_lt (ih.1 n w hw) (lt_of_some hw)) 12
        exact ⟨this.1, this.2.2⟩
theorem part_len {xs ys : List (List Int)} (hx : EndsOk xs) (hy : EndsOk ys) {t : List Int} (h : partF xs ys = some t) : t.length ≤ 361 :=
  Nat.le_trans ((bfsP_tl xs ys 400).2 t h) (bfsP_len hx hy 400)
theorem rowP_stop {xs ys : List (List Int)} {w : Pr} {ws : List Pr} {n : Nat} (h : (rowP xs ys w ws n).1.isSome = true) : ∀ m, n ≤ m → rowP xs ys w ws m = rowP xs ys w ws n
  | 0, hm => by rw [show n = 0 by omega]
  | m + 1, hm => by
    by_cases e : n = m + 1
    · rw [e]
    · rw [rowP_succ, rowP_stop h m (by omega), step_done h]
theorem part_some {xs ys : List (List Int)} {n l : Nat} {w : Pr} {t : List Int} (h1 : (bfsP xs ys n).1 = none) (h2 : (bfsP xs ys n).2[n]? = some w) (h3 : (rowP xs ys w (bfsP xs ys n).2 l).1 = some t) (hl : l ≤ 12) (hn : n < 400) : partF xs ys = some t := by
  unfold partF
  have e : bfsP xs ys (n + 1) = rowP xs ys w (bfsP xs ys n).2 l := by
    rw [bfsP_succ, if_neg (by rw [h1]; simp), h2]
    exact rowP_stop (by rw [h3]; rfl) 12 hl
  rw [bfsP_stop (.inl (by rw [e, h3]; rfl)) 400 hn, e, h3]
theorem part_none {xs ys : List (List Int)} {n : Nat} (h1 : (bfsP xs ys n).1 = none) (h2 : (bfsP xs ys n).2.length ≤ n) (hn : n ≤ 400) : partF xs ys = none := by
  unfold partF
  rw [bfsP_stop (.inr h2) 400 hn, h1]
end K93
set_option Elab.async false
set_option linter.all false
set_option maxRecDepth 100000
set_option maxHeartbeats 1000000
namespace K93
open PySem PySem.Spec PyProof.Rows L2 DL
theorem len_parting_text (c : Cl) : ∀ ds S Q E, sp_parting_text c ds S Q E → ds.length = 2 := by
  rintro ds S Q E ⟨_, _, _, _, rfl, _⟩; rfl
theorem seqA_ext {S S' : Sto} (h : Ext S S') {y : D} {ys : List D} (hy : seqA S y = some ys) : seqA S' y = some ys := by
  rcases seqA_cases hy with ⟨p, rfl, hp⟩ | rfl | rfl | rfl
  · exact seqA_at (h _ _ hp)
  · rfl
  · rfl
  · rfl
theorem Rows.ext {S S' : Sto} {d : D} {xs : List (List Int)} (h : Rows S d xs) (e : Ext S S') : Rows S' d xs := by
  obtain ⟨es, e1, e2, e3⟩ := h
  exact ⟨es, seqA_ext e e1, e2, fun i e0 s h1 h2 => seqA_ext e (e3 i e0 s h1 h2)⟩
theorem ext_new {S : Sto} {a : Addr} {m : MO} (h : S a = none) : Ext S (put S a m) := fun x n e => by
  rw [put_ne (fun z => by rw [z, h] at e; cases e)]; exact e
theorem ext_tr {S S' S2 : Sto} (h : Ext S S') (h2 : Ext S' S2) : Ext S S2 := fun a m e => h2 _ _ (h _ _ e)
theorem two_at {S : Sto} {a b : D} {Q : Qd} : oIx S (.tup [a, b]) (.int 0) Q = Q a S ∧ oIx S (.tup [a, b]) (.int 1) Q = Q b S := ⟨oIx_eq (xs := [a, b]) rfl rfl Q, oIx_eq (xs := [a, b]) rfl rfl Q⟩
theorem rd_parting_text (c : Cl) : ∀ ds S Q X1, sp_parting_text c ds S Q X1 → w_parting_text c (startD N_parting_text_ ds) S (endQ Q X1) := by
  rintro ds S Q X1 ⟨d, d2, xs, ys, rfl, hd, hd2, hx, hy, h⟩
  have hx6 := hx.1
  have hy6 := hy.1
  have i0 : ∀ (a b : D) S Q, oIx S (.tup [a, b]) (.int 0) Q = Q a S := fun a b S Q => two_at.1
  have i1 : ∀ (a b : D) S Q, oIx S (.tup [a, b]) (.int 1) Q = Q b S := fun a b S Q => two_at.2
  show w_parting_text c [some d, some d2, none, none, none, none, none, none, none, none, none] S (endQ Q X1)
  unfold w_parting_text
  refine seq_k fun q1 n1 r1 _ _ x1 => ?_
  simp only [wSet, wTup, wMake, wCons, wNil, wVar, getV, setV, some!]
  refine fun f hf => ⟨f, d, xs, rfl, put_same, ⟨hd.ext (ext_new hf), by omega⟩, rfl, ?_⟩
  rw [put_put]
  have e1 : Ext S (put S f (stMO c ⟨xs, [], 0, false⟩)) := ext_new hf
  have hsf : put S f (stMO c ⟨xs, [], 0, false⟩) f = some (stMO c ⟨xs, [], 0, false⟩) := put_same
  generalize put S f (stMO c ⟨xs, [], 0, false⟩) = S1 at e1 hsf
  refine fun f2 hf2 => ⟨f2, d2, ys, rfl, put_same, ⟨(hd2.ext e1).ext (ext_new hf2), by omega⟩, rfl, by show 2 ≤ sizeLine; decide, n1 _ _ ?_⟩
  rw [put_put]
  have e2 : Ext S1 (put S1 f2 (stMO c ⟨ys, [], 0, false⟩)) := ext_new hf2
  have hsg : put S1 f2 (stMO c ⟨ys, [], 0, false⟩) f2 = some (stMO c ⟨ys, [], 0, false⟩) := put_same
  generalize put S1 f2 (stMO c ⟨ys, [], 0, false⟩) = S2 at e2 hsg
  have hsf := e2 _ _ hsf
  have e1 := ext_tr e1 e2
  clear e2 hf hf2
  have k0 : keyD (.tup [.tup [], .tup []]) = some (kP ([], [])) := key_dP ([], [])
  refine seq_k fun q1 n1 r1 _ _ x1 => ?_
  simp only [wSet, wDict1, wTup, wCons, wNil, wC, getV, setV, some!]
  refine ⟨Nat.zero_le _, Nat.zero_le _, by show 2 ≤ sizeLine; decide, ?_⟩
  simp only [k0]
  refine fun k hk => n1 _ _ ?_
  refine seq_k fun q1 n1 r1 _ _ x1 => ?_
  simp only [wSet, wLstM, wTup, wCons, wNil, wVar, getV, setV, some!]
  refine ⟨Nat.zero_le _, by show 2 ≤ sizeLine; decide, by show 1 ≤ sizeLine; decide, fun w hw => n1 _ _ ?_⟩
  have wk : w ≠ k := fun z => by rw [z, put_same] at hw; cases hw
  have W0 : WP c xs ys S (put (put S2 k (.dN k [(.tup [.tup [], .tup []], .bl true)])) w (.lst [.tup [.tup [], .tup [.ref f, .ref f2]]])) w k [(f, f2)] [([], [], [])] := by
    have hw' : S2 w = none := by rw [put_ne wk] at hw; exact hw
    have old : ∀ a, S2 a = none → S a = none := fun a ha => by
      cases e : S a with
      | none => rfl
      | some m => rw [e1 a m e] at ha; cases ha
    have E := ext_tr (ext_new (m := .dN k [(.tup [.tup [], .tup []], .bl true)]) hk) (ext_new (m := .lst [.tup [.tup [], .tup [.ref f, .ref f2]]]) hw)
    refine ⟨ext_tr e1 E, ⟨old w hw', old k hk, wk⟩, put_same, by rw [put_ne (Ne.symm wk), put_same]; rfl, rfl, fun i a st h1 h2 => ?_⟩
    cases i with
    | zero =>
      cases h1; cases h2
      exact ⟨⟨0, E _ _ hsf, rfl⟩, 0, E _ _ hsg, rfl⟩
    | succ i => cases h1
  generalize put (put S2 k (.dN k [(.tup [.tup [], .tup []], .bl true)])) w (.lst [.tup [.tup [], .tup [.ref f, .ref f2]]]) = S3 at W0
  clear hw hk wk hsf hsg e1 k0 hd hd2
  refine seq_k fun q1 n1 r1 _ _ x1 => ?_
  simp only [wSet, wC, setV]
  refine n1 _ _ ?_
  refine seq_k fun q1 n1 r1 _ _ x1 => ?_
  refine ⟨fun m e S' => ∃ (at_ : Nat) (ws : List Pr) (as : List (Addr × Addr)) (x6 x7 x8 x9 x10 : Option D), bfsP xs ys at_ = (none, ws) ∧ WP c xs ys S S' w k as ws ∧ at_ ≤ ws.length ∧ m + at_ = 400 ∧ e = [some d, some d2, some (.tup [.ref f, .ref f2]), some (.ref k), some (.ref w), some (.int (at_ : Int)), x6, x7, x8, x9, x10],
    ⟨400, 0, _, _, none, none, none, none, none, rfl, W0, Nat.zero_le _, rfl, rfl⟩, ?_⟩
  clear W0
  rintro m e S' ⟨at_, ws, as, x6, x7, x8, x9, x10, P, W, hat, hm, rfl⟩
  have hws := bfsP_len hx hy at_
  have P1 : (bfsP xs ys at_).1 = none := by rw [P]
  have P2 : (bfsP xs ys at_).2 = ws := by rw [P]
  rw [P2] at hws
  simp only [wTest, wBin, wCB, wCons, wNil, wVar, getV, some!]
  refine oLen_of (seqA_at W.atw) ?_
  rw [List.length_zipWith, W.len, Nat.min_self]
  simp only [oLt, oI0, decide_eq_true_eq]
  split
  · rename_i g
    have hlt : at_ < ws.length := by omega
    obtain ⟨v, hv⟩ : ∃ v, ws[at_]? = some v := ⟨_, List.getElem?_eq_getElem hlt⟩
    obtain ⟨a, ha⟩ : ∃ a, as[at_]? = some a := ⟨_, List.getElem?_eq_getElem (by rw [W.len]; exact hlt)⟩
    have met := bfsP_met xs ys at_
    rw [P2] at met
    have hreach := met.ok v (List.mem_of_getElem? hv)
    have h31 := pref_len (reach_pref hx hreach.1)
    have h32 := pref_len (reach_pref hy hreach.2)
    have tl := (bfsP_tl xs ys at_).1 at_ v (by rw [P2]; exact hv)
    refine seq_k fun q6 n6 r6 _ _ _ => ?_
    simp only [wAsgG, wBin, wVar, getV, some!]
    refine (oIx_eq (seqA_at W.atw) (at_k (x := dW v a) (by rw [List.getElem?_zipWith, hv, ha])) _).mpr ⟨rfl, ?_⟩
    show q6.nx [some d, some d2, some (.tup [.ref f, .ref f2]), some (.ref k), some (.ref w), some (.int (at_ : Int)), some (dT v.1), some (.tup [.ref a.1, .ref a.2]), x8, x9, x10] S'
    refine n6 _ _ ?_
    refine seq_k fun q6 n6 r6 _ _ _ => ?_
    simp only [wFor, wRg1, wC, asI]
    refine ⟨⟨by decide, by decide⟩, ?_⟩
    refine forI_invq (fun j e S' => ∃ (ws2 : List Pr) (as2 : List (Addr × Addr)) (x8 x9 x10 : Option D), rowP xs ys v ws j = (none, ws2) ∧ WP c xs ys S S' w k as2 ws2 ∧ as2[at_]? = some a ∧ e = [some d, some d2, some (.tup [.ref f, .ref f2]), some (.ref k), some (.ref w), some (.int (at_ : Int)), some (dT v.1), some (.tup [.ref a.1, .ref a.2]), x8, x9, x10])
      ⟨ws, as, _, _, _, rfl, W, ha, rfl⟩ (fun _ _ _ _ => trivial) ?_ ?_
    · clear W ha g
      rintro j e' e S' hj ⟨ws2, as2, x8, x9, x10, R, W, ha, rfl⟩ q7 hq7 hrt _ _ _
      obtain ⟨hlt, rfl⟩ := rngD_get hj
      have hj12 : j < 12 := hlt
      have met2 := (show PM xs ys ws ws from ⟨met.nd, met.ok, fun _ _ h => h⟩).row hreach j (by omega)
      have R2 : (rowP xs ys v ws j).2 = ws2 := by rw [R]
      rw [R2] at met2
      have hv2 := met2.at_ _ _ hv
      obtain ⟨⟨m1, s1, g1⟩, m2, s2, g2⟩ := W.is at_ a v ha hv2
      have met3 := met2.step hreach hj12
      have h361 : (stepP xs ys v (none, ws2) j).2.length ≤ 361 := by
        have h1 : ((stepP xs ys v (none, ws2) j).2.map Prod.snd).length ≤ (allPr xs ys).length := nodup_le met3.nd fun p hp => by
          obtain ⟨w, hw, rfl⟩ := List.mem_map.mp hp
          obtain ⟨a, b⟩ := met3.ok w hw
          exact List.mem_flatMap.mpr ⟨_, reach_pref hx a, List.mem_map.mpr ⟨_, reach_pref hy b, rfl⟩⟩
        rw [List.length_map, allPr_len, prefs_len, prefs_len] at h1
        have : (1 + 3 * xs.length) * (1 + 3 * ys.length) ≤ 19 * 19 := Nat.mul_le_mul (by omega) (by omega)
        omega
      have hstep : rowP xs ys v ws (j + 1) = stepP xs ys v (none, ws2) j := by rw [rowP_succ, R]
      rw [Int.zero_add]
      simp only [gN, setV]
      refine seq_k fun q8 n8 r8 _ _ _ => ?_
      simp only [wSet, wTup, wMeth, wBin, wCons, wNil, wVar, wC, getV, setV, some!, i0, i1]
      refine ⟨isIns_of s1, a.1, _, rfl, s1, by show xs.length ≤ 1000; omega, fun b hb => ?_⟩
      have E1 : Ext S' (put S' b (stMO c ⟨xs, v.2.1, m1, false⟩)) := ext_new hb
      refine ⟨isIns_of (E1 _ _ s2), a.2, _, rfl, E1 _ _ s2, by show ys.length ≤ 1000; omega, fun b2 hb2 => ⟨by show 2 ≤ sizeLine; decide, n8 _ _ ?_⟩⟩
      have bb : b2 ≠ b := fun z => by rw [z, put_same] at hb2; cases hb2
      refine seq_k fun q8 n8 _ _ _ _ => ?_
      simp only [wDrop, wMeth, wBin, wCons, wNil, wVar, wC, getV, some!, i0]
      have sb : put (put S' b (stMO c ⟨xs, v.2.1, m1, false⟩)) b2 (stMO c ⟨ys, v.2.2, m2, false⟩) b = some (stMO c ⟨xs, v.2.1, m1, false⟩) := by rw [put_ne (Ne.symm bb), put_same]
      refine ⟨isIns_of sb, b, _, _, rfl, sb, ⟨by show v.2.1.length ≤ 1000; omega, fun t ht => by have := (hx.2 t ht).2; omega⟩, n8 _ _ ?_⟩
      refine seq_k fun q8 n8 _ _ _ _ => ?_
      simp only [wDrop, wMeth, wBin, wCons, wNil, wVar, wC, getV, some!, i1]
      have sb2 : put (put (put S' b (stMO c ⟨xs, v.2.1, m1, false⟩)) b2 (stMO c ⟨ys, v.2.2, m2, false⟩)) b (stMO c (feedF ⟨xs, v.2.1, m1, false⟩ (j : Int)).2) b2 = some (stMO c ⟨ys, v.2.2, m2, false⟩) := by rw [put_ne bb, put_same]
      refine ⟨isIns_of sb2, b2, _, _, rfl, sb2, ⟨by show v.2.2.length ≤ 1000; omega, fun t ht => by have := (hy.2 t ht).2; omega⟩, n8 _ _ ?_⟩
      have hb2' : S' b2 = none := by rw [put_ne bb] at hb2; exact hb2
      have E : Ext S' (put (put (put (put S' b (stMO c ⟨xs, v.2.1, m1, false⟩)) b2 (stMO c ⟨ys, v.2.2, m2, false⟩)) b (stMO c (feedF ⟨xs, v.2.1, m1, false⟩ (j : Int)).2)) b2 (stMO c (feedF ⟨ys, v.2.2, m2, false⟩ (j : Int)).2)) := fun x n e => by
        rw [put_ne (fun z => by rw [z, hb2'] at e; cases e), put_ne (fun z => by rw [z, hb] at e; cases e), put_ne (fun z => by rw [z, hb2'] at e; cases e), put_ne (fun z => by rw [z, hb] at e; cases e)]; exact e
      have t1 : put (put (put (put S' b (stMO c ⟨xs, v.2.1, m1, false⟩)) b2 (stMO c ⟨ys, v.2.2, m2, false⟩)) b (stMO c (feedF ⟨xs, v.2.1, m1, false⟩ (j : Int)).2)) b2 (stMO c (feedF ⟨ys, v.2.2, m2, false⟩ (j : Int)).2) b = some (stMO c (feedF ⟨xs, v.2.1, m1, false⟩ (j : Int)).2) := by rw [put_ne (Ne.symm bb), put_same]
      have t2 : put (put (put (put S' b (stMO c ⟨xs, v.2.1, m1, false⟩)) b2 (stMO c ⟨ys, v.2.2, m2, false⟩)) b (stMO c (feedF ⟨xs, v.2.1, m1, false⟩ (j : Int)).2)) b2 (stMO c (feedF ⟨ys, v.2.2, m2, false⟩ (j : Int)).2) b2 = some (stMO c (feedF ⟨ys, v.2.2, m2, false⟩ (j : Int)).2) := put_same
      generalize put (put (put (put S' b (stMO c ⟨xs, v.2.1, m1, false⟩)) b2 (stMO c ⟨ys, v.2.2, m2, false⟩)) b (stMO c (feedF ⟨xs, v.2.1, m1, false⟩ (j : Int)).2)) b2 (stMO c (feedF ⟨ys, v.2.2, m2, false⟩ (j : Int)).2) = S4 at E t1 t2
      have W4 := W.mono E
      clear E sb sb2 hb hb2 hb2' bb E1 W s1 s2
      have un := feed_unlike (xs := xs) (ys := ys) (h := v.2.1) (k := v.2.2) (m := m1) (n := m2) (l := (j : Int)) (by omega)
      refine seq_k fun q8 n8 r8 _ _ _ => ?_
      simp only [wIf, wTest, wCall, wBin, wCons, wNil, wVar, wC, getV, some!, i0, i1]
      refine ⟨b, b2, _, _, rfl, t1, t2, ?_⟩
      rw [un]
      simp only [decide_eq_true_eq]
      split
      · rename_i hne
        simp only [wRet, wBin, wTup, wCons, wNil, wVar, getV, some!]
        refine ⟨by show 1 ≤ sizeLine; decide, add_letter (by omega) ?_⟩
        have es : (stepP xs ys v (none, ws2) j).1 = some (v.1 ++ [(j : Int)]) := by
          unfold stepP
          rw [if_neg (by simp), if_pos hne]
        rw [← hstep] at es
        have ep := part_some P1 (by rw [P2]; exact hv) (by rw [P2]; exact es) (show j + 1 ≤ 12 by omega) (by omega)
        rw [ep] at h
        have := h _ W4.ext
        rw [r8, hrt, r6]
        show q1.rt _ _
        rw [r1]
        exact this
      · rename_i hne
        have heq : stopF xs (v.2.1 ++ [(j : Int)]) = stopF ys (v.2.2 ++ [(j : Int)]) := by simpa using hne
        simp only [wNext]
        refine n8 _ _ ?_
        refine seq_k fun q8 n8 r8 _ _ _ => ?_
        simp only [wSet, wTup, wMeth, wBin, wCons, wNil, wVar, wC, getV, setV, some!, i0, i1]
        refine ⟨isIns_of t1, b, _, rfl, t1, isIns_of t2, b2, _, rfl, t2, by show 2 ≤ sizeLine; decide, n8 _ _ ?_⟩
        simp only [wIf, wAnd, wNot, wTest, wMeth, wBin, wCons, wNil, wVar, wC, getV, some!, i0]
        refine ⟨isIns_of t1, b, _, rfl, t1, ?_⟩
        obtain ⟨u1, u2⟩ := feed_run (xs := xs) (h := v.2.1) (m := m1) (l := (j : Int))
        obtain ⟨v1, v2⟩ := feed_run (xs := ys) (h := v.2.2) (m := m2) (l := (j : Int))
        by_cases z : 0 < stopF xs (v.2.1 ++ [(j : Int)])
        · obtain ⟨c1, c2⟩ := u1 z
          have es : stepP xs ys v (none, ws2) j = (none, ws2) := by
            unfold stepP
            rw [if_neg (by simp), if_neg hne, c2]
          rw [← hstep] at es
          rw [c1]
          simp only [Bool.not_true, Bool.false_eq_true, if_false, wNext]
          exact hq7 _ _ ⟨ws2, as2, _, _, _, es, W4, ha, rfl⟩
        · obtain ⟨h', c1, m1', c2, c3⟩ := u2 z
          obtain ⟨k', d1, m2', dd, d3⟩ := v2 (by rw [← heq]; exact z)
          rw [c2] at t1 ⊢
          rw [dd] at t2 ⊢
          simp only [Bool.not_false, if_true]
          have hk : keyD (.tup [dT h', dT k']) = some (kP (h', k')) := key_dP (h', k')
          have hfn := fnd_p (p := (h', k')) (ws := ws2)
          simp only [oInN, dnAt, W4.atk, some!, hk, hfn, if_true]
          refine ⟨trivial, ?_⟩
          split
          · rename_i g
            have hnot : (h', k') ∉ ws2.map Prod.snd := by simpa using g
            have es : stepP xs ys v (none, ws2) j = (none, ws2 ++ [(v.1 ++ [(j : Int)], h', k')]) := by
              unfold stepP
              rw [if_neg (by simp), if_neg hne, c1, d1]
              exact if_neg hnot
            have hl2 : ws2.length + 1 ≤ 361 := by
              rw [es] at h361
              have : (ws2 ++ [(v.1 ++ [(j : Int)], h', k')]).length ≤ 361 := h361
              rw [List.length_append] at this
              exact this
            rw [← hstep] at es
            have Wa := W4.add (b := (b, b2)) (v := (v.1 ++ [(j : Int)], h', k')) ⟨⟨m1', t1, by show m1' + (h'.length : Int) = ((v.1 ++ [(j : Int)]).length : Int); rw [List.length_append, c3]; show m1 + (v.2.1.length : Int) + 1 = ((v.1.length + 1 : Nat) : Int); omega⟩,
              m2', t2, by show m2' + (k'.length : Int) = ((v.1 ++ [(j : Int)]).length : Int); rw [List.length_append, d3]; show m2 + (v.2.2.length : Int) + 1 = ((v.1.length + 1 : Nat) : Int); omega⟩
            refine seq_k fun q9 n9 _ _ _ _ => ?_
            simp only [wSetN, wVar, wC, getV, some!, setN, dnAt, W4.atk, hk]
            refine ⟨trivial, by rw [List.length_map]; unfold sizeLine; omega, n9 _ _ ?_⟩
            have hpt := put_p (t := v.1 ++ [(j : Int)]) hnot
            rw [show (D.tup [dT h', dT k']) = dP (h', k') from rfl, hpt]
            have e1 : put S4 k (.dN k ((ws2 ++ [(v.1 ++ [(j : Int)], h', k')]).map kvP)) w = some (.lst (List.zipWith dW ws2 as2)) := by rw [put_ne W4.new.2.2]; exact W4.atw
            simp only [wDrop, wMt, wBin, wTup, wCons, wNil, wVar, getV, some!, mutL, e1]
            refine ⟨by show 1 ≤ sizeLine; decide, add_letter (by omega) ⟨by show 2 ≤ sizeLine; decide, ?_⟩⟩
            simp only [oAppend, mutL, one, some!, e1, List.length_zipWith]
            have := W4.len
            refine ⟨by unfold sizeLine; omega, hq7 _ _ ⟨ws2 ++ [(v.1 ++ [(j : Int)], h', k')], as2 ++ [(b, b2)], _, _, _, es, Wa, ?_, rfl⟩⟩
            rw [List.getElem?_append_left (lt_of_some ha)]; exact ha
          · rename_i g
            have hin : (h', k') ∈ ws2.map Prod.snd := by simpa using g
            have es : stepP xs ys v (none, ws2) j = (none, ws2) := by
              unfold stepP
              rw [if_neg (by simp), if_neg hne, c1, d1]
              exact if_pos hin
            rw [← hstep] at es
            simp only [wNext]
            exact hq7 _ _ ⟨ws2, as2, _, _, _, es, W4, ha, rfl⟩
    · rintro e S' ⟨ws2, as2, x8, x9, x10, R, W2, ha2, rfl⟩
      rw [rngD_length] at R
      refine n6 _ _ ?_
      simp only [wAug, wVar, wC, getV, setV, some!, oI0]
      have hb : bfsP xs ys (at_ + 1) = (none, ws2) := by
        rw [bfsP_succ, if_neg (by rw [P1]; simp), P2, hv]
        exact R
      have := lt_of_some ha2
      have := W2.len
      exact ⟨m - 1, by omega, at_ + 1, ws2, as2, _, _, _, _, _, hb, W2, by omega, by omega, by rw [show ((at_ + 1 : Nat) : Int) = (at_ : Int) + 1 by omega]⟩
  · rename_i g
    refine n1 _ _ ?_
    simp only [wRet, wC]
    have ep : partF xs ys = none := part_none (n := at_) P1 (by rw [P2]; omega) (by omega)
    rw [ep] at h
    exact h _ W.ext
end K93
set_option Elab.async false
set_option linter.all false
set_option maxRecDepth 100000
set_option maxHeartbeats 1000000
namespace K93
open PySem PySem.Spec PyProof.Rows L2 DL
/-! ### the other way round -/
def sw (w : Pr) : Pr := (w.1, w.2.2, w.2.1)
def swS (st : Option (List Int) × List Pr) : Option (List Int) × List Pr := (st.1, st.2.map sw)
theorem sw_snd {ws : List Pr} {h k : List Int} : (k, h) ∈ (ws.map sw).map Prod.snd ↔ (h, k) ∈ ws.map Prod.snd := by
  constructor
  · intro z
    obtain ⟨w, hw, e⟩ := List.mem_map.mp z
    obtain ⟨v, hv, rfl⟩ := List.mem_map.mp hw
    refine List.mem_map.mpr ⟨v, hv, ?_⟩
    have e : (v.2.2, v.2.1) = (k, h) := e
    injection e with e1 e2
    rw [← e1, ← e2]
  · intro z
    obtain ⟨w, hw, e⟩ := List.mem_map.mp z
    refine List.mem_map.mpr ⟨sw w, List.mem_map.mpr ⟨w, hw, rfl⟩, ?_⟩
    show (w.2.2, w.2.1) = (k, h)
    rw [e]
theorem step_sw {xs ys : List (List Int)} {w : Pr} {st : Option (List Int) × List Pr} {l : Nat} : stepP ys xs (sw w) (swS st) l = swS (stepP xs ys w st l) := by
  unfold stepP
  by_cases a : st.1.isSome = true
  · rw [if_pos (show (swS st).1.isSome = true from a), if_pos a]
  · rw [if_neg (show ¬ (swS st).1.isSome = true from a), if_neg a]
    show (if stopF ys (w.2.2 ++ [(l : Int)]) ≠ stopF xs (w.2.1 ++ [(l : Int)]) then _ else _) = _
    by_cases z : stopF xs (w.2.1 ++ [(l : Int)]) ≠ stopF ys (w.2.2 ++ [(l : Int)])
    · rw [if_pos z, if_pos (Ne.symm z)]; rfl
    · rw [if_neg z, if_neg (fun y => z (Ne.symm y))]
      show (match nextF ys w.2.2 (l : Int), nextF xs w.2.1 (l : Int) with
        | some h, some k => if (h, k) ∈ (swS st).2.map Prod.snd then swS st else (none, (swS st).2 ++ [((sw w).1 ++ [(l : Int)], h, k)])
        | _, _ => swS st) = _
      cases e1 : nextF xs w.2.1 (l : Int) with
      | none => cases e2 : nextF ys w.2.2 (l : Int) <;> rfl
      | some h =>
        cases e2 : nextF ys w.2.2 (l : Int) with
        | none => rfl
        | some k =>
          show (if (k, h) ∈ (st.2.map sw).map Prod.snd then swS st else (none, st.2.map sw ++ [((sw w).1 ++ [(l : Int)], k, h)])) = swS (if (h, k) ∈ st.2.map Prod.snd then st else (none, st.2 ++ [(w.1 ++ [(l : Int)], h, k)]))
          by_cases y : (h, k) ∈ st.2.map Prod.snd
          · rw [if_pos y, if_pos (sw_snd.mpr y)]
          · rw [if_neg y, if_neg (fun x => y (sw_snd.mp x))]
            unfold swS
            rw [List.map_append]; rfl
theorem row_sw {xs ys : List (List Int)} {w : Pr} {ws : List Pr} : ∀ n, rowP ys xs (sw w) (ws.map sw) n = swS (rowP xs ys w ws n)
  | 0 => rfl
  | n + 1 => by rw [rowP_succ, rowP_succ, row_sw n, step_sw]
theorem bfsP_sw {xs ys : List (List Int)} : ∀ n, bfsP ys xs n = swS (bfsP xs ys n)
  | 0 => rfl
  | n + 1 => by
    rw [bfsP_succ, bfsP_succ, bfsP_sw n]
    by_cases a : (bfsP xs ys n).1.isSome = true
    · rw [if_pos (show (swS (bfsP xs ys n)).1.isSome = true from a), if_pos a]
    · rw [if_neg (show ¬ (swS (bfsP xs ys n)).1.isSome = true from a), if_neg a]
      have e : (swS (bfsP xs ys n)).2[n]? = ((bfsP xs ys n).2[n]?).map sw := List.getElem?_map
      rw [e]
      cases h : (bfsP xs ys n).2[n]? with
      | none => rfl
      | some w => exact row_sw 12
theorem part_sw (xs ys : List (List Int)) : partF ys xs = partF xs ys := by
  unfold partF; rw [bfsP_sw]; rfl
theorem plain_part {xs ys : List (List Int)} (hx : EndsOk xs) (hy : EndsOk ys) : plain 7 (dPart (partF xs ys)) := by
  cases e : partF xs ys with
  | none => trivial
  | some t =>
    have := part_len hx hy e
    show (t.map D.int).length ≤ 1000 ∧ ∀ x, x ∈ t.map D.int → plain 6 x
    refine ⟨by rw [List.length_map]; omega, fun x hx => ?_⟩
    obtain ⟨i, _, rfl⟩ := List.mem_map.mp hx
    trivial
end K93
set_option Elab.async false
set_option linter.all false
set_option maxRecDepth 100000
set_option maxHeartbeats 1000000
namespace K93
open PySem PySem.Spec PyProof.Rows L2 DL
/-! ### the order of the texts: shorter ones first, then by letters -/
def code (t : List Int) : Int := t.foldl (fun c x => 12 * c + x + 1) 0
theorem code_snoc {t : List Int} {l : Int} : code (t ++ [l]) = 12 * code t + l + 1 := by
  unfold code; rw [List.foldl_append]; rfl
theorem code_nil : code [] = 0 := rfl
inductive Runs (xs ys : List (List Int)) : List Int → List Int → List Int → Prop
  | nil : Runs xs ys [] [] []
  | snoc {u h k h' k' : List Int} {l : Nat} : Runs xs ys u h k → l < 12 → stopF xs (h ++ [(l : Int)]) = stopF ys (k ++ [(l : Int)]) → nextF xs h (l : Int) = some h' → nextF ys k (l : Int) = some k' → Runs xs ys (u ++ [(l : Int)]) h' k'
def Good (xs ys : List (List Int)) (ws : List Pr) (w : Pr) (l : Nat) : Prop := stopF xs (w.2.1 ++ [(l : Int)]) = stopF ys (w.2.2 ++ [(l : Int)]) ∧
  ∀ h k, nextF xs w.2.1 (l : Int) = some h → nextF ys w.2.2 (l : Int) = some k → ∃ v, v ∈ ws ∧ v.2 = (h, k) ∧ code v.1 ≤ 12 * code w.1 + (l : Int) + 1
theorem Good.mono {xs ys : List (List Int)} {ws ws2 : List Pr} {w : Pr} {l : Nat} (g : Good xs ys ws w l) (h : ∀ v, v ∈ ws → v ∈ ws2) : Good xs ys ws2 w l :=
  ⟨g.1, fun a b e1 e2 => by obtain ⟨v, v1, v2⟩ := g.2 a b e1 e2; exact ⟨v, h v v1, v2⟩⟩
structure BI (xs ys : List (List Int)) (n j : Nat) (ws : List Pr) : Prop where
  root : ws[0]? = some ([], [], [])
  run : ∀ w, w ∈ ws → Runs xs ys w.1 w.2.1 w.2.2
  inc : ∀ (i i' : Nat) w w', i < i' → ws[i]? = some w → ws[i']? = some w' → code w.1 < code w'.1
  low : ∀ wn, ws[n]? = some wn → ∀ w, w ∈ ws → code w.1 < 12 * code wn.1 + (j : Int) + 1
  good : ∀ (i l : Nat) w, ws[i]? = some w → l < 12 → (i < n ∨ (i = n ∧ l < j)) → Good xs ys ws w l
theorem step_none {xs ys : List (List Int)} {ws ws' : List Pr} {w : Pr} {l : Nat} (h : stepP xs ys w (none, ws) l = (none, ws')) : stopF xs (w.2.1 ++ [(l : Int)]) = stopF ys (w.2.2 ++ [(l : Int)]) := by
  by_cases z : stopF xs (w.2.1 ++ [(l : Int)]) = stopF ys (w.2.2 ++ [(l : Int)])
  · exact z
  · unfold stepP at h
    rw [if_neg (by simp), if_pos z] at h
    cases h
theorem BI.step {xs ys : List (List Int)} {n j : Nat} {ws ws' : List Pr} {w : Pr} (b : BI xs ys n j ws) (hw : ws[n]? = some w) (hj : j < 12) (h : stepP xs ys w (none, ws) j = (none, ws')) : BI xs ys n (j + 1) ws' := by
  have hs := step_none h
  have hn := lt_of_some hw
  have lowj := b.low w hw
  -- the new letter's row is good
  have rest : ∀ ws2 : List Pr, (∀ v, v ∈ ws → v ∈ ws2) → (∀ (i : Nat) v, ws2[i]? = some v → (i ≤ n → ws[i]? = some v)) → Good xs ys ws2 w j → ∀ (i l : Nat) v, ws2[i]? = some v → l < 12 → (i < n ∨ (i = n ∧ l < j + 1)) → Good xs ys ws2 v l := by
    intro ws2 h1 h2 g i l v hv hl hc
    have hv1 := h2 i v hv (by omega)
    by_cases e : i = n ∧ l = j
    · obtain ⟨rfl, rfl⟩ := e
      rw [hw] at hv1
      cases hv1
      exact g
    · exact (b.good i l v hv1 hl (by omega)).mono h1
  have same : Good xs ys ws w j → BI xs ys n (j + 1) ws := fun g =>
    ⟨b.root, b.run, b.inc, fun wn hwn v hv => by have := b.low wn hwn v hv; omega, rest ws (fun _ z => z) (fun _ _ z _ => z) g⟩
  unfold stepP at h
  rw [if_neg (by simp), if_neg (by simpa using hs)] at h
  cases e1 : nextF xs w.2.1 (j : Int) with
  | none =>
    rw [e1] at h
    cases h
    exact same ⟨hs, fun a c z1 => by rw [e1] at z1; cases z1⟩
  | some a =>
    cases e2 : nextF ys w.2.2 (j : Int) with
    | none =>
      rw [e1, e2] at h
      cases h
      exact same ⟨hs, fun a c z1 z2 => by rw [e2] at z2; cases z2⟩
    | some c =>
      rw [e1, e2] at h
      by_cases y : (a, c) ∈ ws.map Prod.snd
      · have h : (if (a, c) ∈ ws.map Prod.snd then ((none : Option (List Int)), ws) else (none, ws ++ [(w.1 ++ [(j : Int)], a, c)])) = (none, ws') := h
        rw [if_pos y] at h
        cases h
        obtain ⟨v, v1, v2⟩ := List.mem_map.mp y
        refine same ⟨hs, fun a' c' z1 z2 => ⟨v, v1, ?_, ?_⟩⟩
        · rw [e1] at z1; rw [e2] at z2; cases z1; cases z2; exact v2
        · have := lowj v v1; omega
      · have h : (if (a, c) ∈ ws.map Prod.snd then ((none : Option (List Int)), ws) else (none, ws ++ [(w.1 ++ [(j : Int)], a, c)])) = (none, ws') := h
        rw [if_neg y] at h
        cases h
        have old : ∀ (i : Nat) v, (ws ++ [(w.1 ++ [(j : Int)], a, c)])[i]? = some v → ws[i]? = some v ∨ (i = ws.length ∧ v = (w.1 ++ [(j : Int)], a, c)) := fun i v hv => by
          by_cases z : i < ws.length
          · rw [List.getElem?_append_left z] at hv; exact .inl hv
          · have hl := lt_of_some hv
            rw [List.length_append] at hl
            have hl : i < ws.length + 1 := hl
            have ei : i = ws.length := by omega
            subst ei
            rw [List.getElem?_append_right (Nat.le_refl _), Nat.sub_self] at hv
            cases hv
            exact .inr ⟨rfl, rfl⟩
        refine ⟨?_, fun v hv => ?_, fun i i' v v' hi hv hv' => ?_, fun wn hwn v hv => ?_, rest _ (fun v z => List.mem_append_left _ z) (fun i v hv hin => ?_) ?_⟩
        · rw [List.getElem?_append_left (by omega)]; exact b.root
        · rcases List.mem_append.mp hv with hv | hv
          · exact b.run v hv
          · rw [List.mem_singleton.mp hv]
            exact .snoc (b.run w (List.mem_of_getElem? hw)) hj hs e1 e2
        · rcases old i v hv with o | ⟨o1, o2⟩
          · rcases old i' v' hv' with o' | ⟨o1', o2'⟩
            · exact b.inc i i' v v' hi o o'
            · rw [o2']
              show _ < code (w.1 ++ [(j : Int)])
              rw [code_snoc]
              have := lowj v (List.mem_of_getElem? o)
              omega
          · rcases old i' v' hv' with o' | ⟨o1', o2'⟩
            · have := lt_of_some o'; omega
            · omega
        · rcases old n wn hwn with o | ⟨o1, o2⟩
          · rw [hw] at o
            cases o
            rcases List.mem_append.mp hv with hv | hv
            · have := lowj v hv; omega
            · rw [List.mem_singleton.mp hv]
              show code (w.1 ++ [(j : Int)]) < _
              rw [code_snoc]
              omega
          · omega
        · rcases old i v hv with o | ⟨o1, o2⟩
          · exact o
          · omega
        · refine ⟨hs, fun a' c' z1 z2 => ⟨(w.1 ++ [(j : Int)], a, c), List.mem_append_right _ List.mem_cons_self, ?_, ?_⟩⟩
          · rw [e1] at z1; rw [e2] at z2; cases z1; cases z2; rfl
          · show code (w.1 ++ [(j : Int)]) ≤ _
            rw [code_snoc]
            omega
theorem step_at {xs ys : List (List Int)} {ws ws' : List Pr} {w v : Pr} {l i : Nat} (h : stepP xs ys w (none, ws) l = (none, ws')) (hv : ws[i]? = some v) : ws'[i]? = some v := by
  rcases step_cases xs ys w ws l with ⟨t, e⟩ | e | ⟨a, b, _, _, _, e⟩
  · rw [e] at h; cases h
  · rw [e] at h; cases h; exact hv
  · rw [e] at h; cases h
    rw [List.getElem?_append_left (lt_of_some hv)]; exact hv
theorem BI.row {xs ys : List (List Int)} {n : Nat} {ws : List Pr} {w : Pr} (b : BI xs ys n 0 ws) (hw : ws[n]? = some w) : ∀ (j : Nat) ws', j ≤ 12 → rowP xs ys w ws j = (none, ws') → BI xs ys n j ws' ∧ ws'[n]? = some w
  | 0, ws', _, h => by cases h; exact ⟨b, hw⟩
  | j + 1, ws', hj, h => by
    rw [rowP_succ] at h
    cases e : (rowP xs ys w ws j).1 with
    | some t =>
      rw [step_done (by rw [e]; rfl)] at h
      rw [h] at e
      cases e
    | none =>
      have e2 : rowP xs ys w ws j = (none, (rowP xs ys w ws j).2) := by rw [← e]
      obtain ⟨i1, i2⟩ := BI.row b hw j _ (by omega) e2
      rw [e2] at h
      exact ⟨i1.step i2 (by omega) h, step_at h i2⟩
theorem BI.next {xs ys : List (List Int)} {n : Nat} {ws : List Pr} (b : BI xs ys n 12 ws) (hn : n < ws.length) : BI xs ys (n + 1) 0 ws := by
  obtain ⟨w, hw⟩ : ∃ w, ws[n]? = some w := ⟨_, List.getElem?_eq_getElem hn⟩
  refine ⟨b.root, b.run, b.inc, fun wn hwn v hv => ?_, fun i l v hv hl hc => b.good i l v hv hl (by omega)⟩
  have h1 := b.low w hw v hv
  have h2 := b.inc n (n + 1) w wn (by omega) hw hwn
  omega
theorem bfsP_BI {xs ys : List (List Int)} : ∀ (n : Nat) ws, bfsP xs ys n = (none, ws) → BI xs ys n 0 ws
  | 0, ws, h => by
    cases h
    refine ⟨rfl, fun w hw => ?_, fun i i' w w' hi h1 h2 => ?_, fun wn h1 w hw => ?_, fun i l w hw hl hc => by omega⟩
    · rw [List.mem_singleton.mp hw]; exact .nil
    · cases i' with
      | zero => omega
      | succ i' => cases h2
    · cases h1
      rw [List.mem_singleton.mp hw]
      show code [] < 12 * code [] + 0 + 1
      rw [code_nil]; decide
  | n + 1, ws, h => by
    rw [bfsP_succ] at h
    cases e : (bfsP xs ys n).1 with
    | some t =>
      rw [if_pos (by rw [e]; rfl)] at h
      rw [h] at e
      cases e
    | none =>
      have e2 : bfsP xs ys n = (none, (bfsP xs ys n).2) := by rw [← e]
      have ih := bfsP_BI n _ e2
      rw [if_neg (by rw [e]; simp)] at h
      cases hw : (bfsP xs ys n).2[n]? with
      | none =>
        rw [hw] at h
        have h : bfsP xs ys n = (none, ws) := h
        rw [e2] at h
        cases h
        have hl : (bfsP xs ys n).2.length ≤ n := by
          rcases Nat.lt_or_ge n (bfsP xs ys n).2.length with z | z
          · rw [List.getElem?_eq_getElem z] at hw; cases hw
          · exact z
        exact ⟨ih.root, ih.run, ih.inc, (fun wn hwn => by have := lt_of_some hwn; omega), fun i l v hv hl2 hc => ih.good i l v hv hl2 (by have := lt_of_some hv; omega)⟩
      | some w =>
        rw [hw] at h
        have h : rowP xs ys w (bfsP xs ys n).2 12 = (none, ws) := h
        obtain ⟨i1, i2⟩ := ih.row hw 12 ws (Nat.le_refl _) h
        exact i1.next (lt_of_some i2)
theorem row_found {xs ys : List (List Int)} {w : Pr} {ws : List Pr} {t : List Int} : ∀ j, (rowP xs ys w ws j).1 = some t → ∃ j' ws', j' < j ∧ rowP xs ys w ws j' = (none, ws') ∧ t = w.1 ++ [(j' : Int)] ∧ stopF xs (w.2.1 ++ [(j' : Int)]) ≠ stopF ys (w.2.2 ++ [(j' : Int)])
  | 0, h => by cases h
  | j + 1, h => by
    rw [rowP_succ] at h
    cases e : (rowP xs ys w ws j).1 with
    | some t' =>
      rw [step_done (by rw [e]; rfl)] at h
      obtain ⟨j', ws', h1, h2⟩ := row_found j h
      exact ⟨j', ws', by omega, h2⟩
    | none =>
      have e2 : rowP xs ys w ws j = (none, (rowP xs ys w ws j).2) := by rw [← e]
      refine ⟨j, _, Nat.lt_succ_self _, e2, ?_⟩
      rw [e2] at h
      unfold stepP at h
      rw [if_neg (by simp)] at h
      by_cases z : stopF xs (w.2.1 ++ [(j : Int)]) ≠ stopF ys (w.2.2 ++ [(j : Int)])
      · rw [if_pos z] at h
        exact ⟨(Option.some.inj h).symm, z⟩
      · rw [if_neg z] at h
        split at h
        · split at h <;> cases h
        · cases h
theorem bfsP_found {xs ys : List (List Int)} {t : List Int} : ∀ m, (bfsP xs ys m).1 = some t → ∃ n j w ws, BI xs ys n j ws ∧ ws[n]? = some w ∧ j < 12 ∧ t = w.1 ++ [(j : Int)] ∧ stopF xs (w.2.1 ++ [(j : Int)]) ≠ stopF ys (w.2.2 ++ [(j : Int)])
  | 0, h => by cases h
  | m + 1, h => by
    rw [bfsP_succ] at h
    cases e : (bfsP xs ys m).1 with
    | some t' =>
      rw [if_pos (by rw [e]; rfl)] at h
      exact bfsP_found m h
    | none =>
      have e2 : bfsP xs ys m = (none, (bfsP xs ys m).2) := by rw [← e]
      have ih := bfsP_BI m _ e2
      rw [if_neg (by rw [e]; simp)] at h
      cases hw : (bfsP xs ys m).2[m]? with
      | none =>
        rw [hw] at h
        have h : (bfsP xs ys m).1 = some t := h
        rw [e] at h
        cases h
      | some w =>
        rw [hw] at h
        obtain ⟨j, ws', h1, h2, h3, h4⟩ := row_found 12 h
        obtain ⟨i1, i2⟩ := ih.row hw j ws' (by omega) h2
        exact ⟨m, j, w, ws', i1, i2, h1, h3, h4⟩
theorem BI.least {xs ys : List (List Int)} {n j : Nat} {ws : List Pr} {w : Pr} (b : BI xs ys n j ws) (hw : ws[n]? = some w) {u h k : List Int} (r : Runs xs ys u h k) : 0 ≤ code u ∧ (code u ≤ code w.1 → ∃ i v, i ≤ n ∧ ws[i]? = some v ∧ v.2 = (h, k) ∧ code v.1 ≤ code u) := by
  induction r with
  | nil => exact ⟨Int.le_refl _, fun _ => ⟨0, _, Nat.zero_le _, b.root, rfl, Int.le_refl _⟩⟩
  | @snoc u h k h' k' l r hl e1 e2 e3 ih =>
    obtain ⟨ih0, ih⟩ := ih
    rw [code_snoc]
    refine ⟨by omega, fun hle => ?_⟩
    obtain ⟨i, v, i1, i2, i3, i4⟩ := ih (by omega)
    have hin : i < n := by
      rcases Nat.lt_or_ge i n with z | z
      · exact z
      · have ei : i = n := by omega
        subst ei
        rw [hw] at i2
        cases i2
        omega
    have g := b.good i l v i2 hl (.inl hin)
    have v1 : v.2.1 = h := by rw [i3]
    have v2 : v.2.2 = k := by rw [i3]
    obtain ⟨y, y1, y2, y3⟩ := g.2 h' k' (by rw [v1]; exact e2) (by rw [v2]; exact e3)
    obtain ⟨i', hi'⟩ := List.mem_iff_getElem?.mp y1
    refine ⟨i', y, ?_, hi', y2, by omega⟩
    rcases Nat.lt_or_ge n i' with z | z
    · have := b.inc n i' w y z hw hi'
      omega
    · exact z
/-- the text found is the least of all that part -/
theorem part_found {xs ys : List (List Int)} {t : List Int} (h : partF xs ys = some t) : (∃ u h k, ∃ l : Nat, l < 12 ∧ t = u ++ [(l : Int)] ∧ Runs xs ys u h k ∧ stopF xs (h ++ [(l : Int)]) ≠ stopF ys (k ++ [(l : Int)])) ∧
    ∀ u h k (l : Nat), l < 12 → Runs xs ys u h k → stopF xs (h ++ [(l : Int)]) ≠ stopF ys (k ++ [(l : Int)]) → code t ≤ code (u ++ [(l : Int)]) := by
  obtain ⟨n, j, w, ws, b, hw, hj, rfl, hs⟩ := bfsP_found 400 h
  refine ⟨⟨_, _, _, j, hj, rfl, b.run w (List.mem_of_getElem? hw), hs⟩, fun u a c l hl r hp => ?_⟩
  rw [code_snoc, code_snoc]
  refine Int.not_lt.mp fun hlt => ?_
  obtain ⟨_, q⟩ := b.least hw r
  obtain ⟨i, v, i1, i2, i3, i4⟩ := q (by omega)
  have v1 : v.2.1 = a := by rw [i3]
  have v2 : v.2.2 = c := by rw [i3]
  have hc : i < n ∨ (i = n ∧ l < j) := by
    rcases Nat.lt_or_ge i n with z | z
    · exact .inl z
    · have ei : i = n := by omega
      subst ei
      rw [hw] at i2
      cases i2
      exact .inr ⟨rfl, by omega⟩
  have g := b.good i l v i2 hl hc
  apply hp
  have := g.1
  rw [v1, v2] at this
  exact this
theorem part_never {xs ys : List (List Int)} (hx : EndsOk xs) (hy : EndsOk ys) (h : partF xs ys = none) : ∀ u h k (l : Nat), l < 12 → Runs xs ys u h k → stopF xs (h ++ [(l : Int)]) = stopF ys (k ++ [(l : Int)]) := by
  have e2 : bfsP xs ys 400 = (none, (bfsP xs ys 400).2) := by rw [← h]; rfl
  have b := bfsP_BI 400 _ e2
  have hl := bfsP_len hx hy 400
  have all : ∀ u h k, Runs xs ys u h k → ∃ v, v ∈ (bfsP xs ys 400).2 ∧ v.2 = (h, k) := by
    intro u h k r
    induction r with
    | nil => exact ⟨_, List.mem_of_getElem? b.root, rfl⟩
    | @snoc u h k h' k' l r hl2 e1 e2 e3 ih =>
      obtain ⟨v, v1, v2⟩ := ih
      obtain ⟨i, hi⟩ := List.mem_iff_getElem?.mp v1
      have g := b.good i l v hi hl2 (.inl (by have := lt_of_some hi; omega))
      obtain ⟨y, y1, y2, _⟩ := g.2 h' k' (by rw [v2]; exact e2) (by rw [v2]; exact e3)
      exact ⟨y, y1, y2⟩
  intro u a c l hl2 r
  obtain ⟨v, v1, v2⟩ := all u a c r
  obtain ⟨i, hi⟩ := List.mem_iff_getElem?.mp v1
  have g := b.good i l v hi hl2 (.inl (by have := lt_of_some hi; omega))
  have := g.1
  rw [v2] at this
  exact this
end K93
set_option Elab.async false
set_option linter.all false
set_option maxRecDepth 100000
set_option maxHeartbeats 1000000
namespace K93
open PySem PySem.Spec PyProof.Rows L2 DL
/-! ### runs and plain texts -/
def Calm (xs : List (List Int)) (u : List Int) : Prop := ∀ j, j ≤ u.length → stopF xs (u.take j) = 0
theorem calm_snoc {xs : List (List Int)} {u : List Int} {l : Int} (h : Calm xs u) (hs : stopF xs (u ++ [l]) = 0) : Calm xs (u ++ [l]) := fun j hj => by
  rw [List.length_append] at hj
  have hj : j ≤ u.length + 1 := hj
  by_cases e : j ≤ u.length
  · rw [List.take_append_of_le_length e]; exact h j e
  · rw [List.take_of_length_le (by rw [List.length_append]; show u.length + 1 ≤ j; omega)]; exact hs
theorem calm_pre {xs : List (List Int)} {u v : List Int} (h : Calm xs (u ++ v)) : Calm xs u := fun j hj => by
  have := h j (by rw [List.length_append]; omega)
  rw [List.take_append_of_le_length hj] at this
  exact this
theorem held_next {xs : List (List Int)} {u h h' : List Int} {l : Int} (e : h = u.drop (u.length - heldF xs u)) (hn : nextF xs h l = some h') : stopF xs (u ++ [l]) = 0 ∧ h' = (u ++ [l]).drop ((u ++ [l]).length - heldF xs (u ++ [l])) := by
  have s1 : stopF xs (h ++ [l]) = stopF xs (u ++ [l]) := by rw [e]; exact stopF_feed ..
  have s2 : heldF xs (h ++ [l]) = heldF xs (u ++ [l]) := by rw [e]; exact heldF_feed ..
  have hl := heldF_le xs (h ++ [l])
  have ul := heldF_le xs u
  unfold nextF at hn
  rw [s1, s2] at hn
  rw [s2] at hl
  by_cases z : 0 < stopF xs (u ++ [l])
  · rw [if_pos z] at hn; cases hn
  · rw [if_neg z] at hn
    refine ⟨by omega, ?_⟩
    have hn := Option.some.inj hn
    rw [← hn]
    have eh : h ++ [l] = (u ++ [l]).drop (u.length - heldF xs u) := by
      rw [e, List.drop_append_of_le_length (by omega)]
    rw [eh] at hl ⊢
    rw [List.drop_drop]
    congr 1
    rw [List.length_drop, List.length_append] at hl ⊢
    have : ([l] : List Int).length = 1 := rfl
    omega
theorem held_go {xs : List (List Int)} {u h : List Int} {l : Int} (e : h = u.drop (u.length - heldF xs u)) : stopF xs (h ++ [l]) = stopF xs (u ++ [l]) := by
  rw [e]; exact stopF_feed ..
theorem stopF_nil (xs : List (List Int)) : stopF xs [] = 0 := Nat.le_zero.mp (stopF_le xs [])
theorem LO.snoc {u : List Int} {l : Nat} (h : LO u) (hl : l < 12) : LO (u ++ [(l : Int)]) := fun x hx => by
  rcases List.mem_append.mp hx with hx | hx
  · exact h x hx
  · rw [List.mem_singleton.mp hx]; omega
theorem runs_calm {xs ys : List (List Int)} {u h k : List Int} (r : Runs xs ys u h k) : Calm xs u ∧ Calm ys u ∧ LO u ∧ h = u.drop (u.length - heldF xs u) ∧ k = u.drop (u.length - heldF ys u) := by
  induction r with
  | nil =>
    refine ⟨fun j hj => ?_, fun j hj => ?_, (fun x hx => by cases hx), by simp, by simp⟩
    · rw [List.take_nil]; exact stopF_nil xs
    · rw [List.take_nil]; exact stopF_nil ys
  | @snoc u h k h' k' l r hl e1 e2 e3 ih =>
    obtain ⟨i1, i2, i3, i4, i5⟩ := ih
    obtain ⟨a1, a2⟩ := held_next i4 e2
    obtain ⟨b1, b2⟩ := held_next i5 e3
    exact ⟨calm_snoc i1 a1, calm_snoc i2 b1, i3.snoc hl, a2, b2⟩
theorem next_some {xs : List (List Int)} {h : List Int} {l : Int} (z : stopF xs (h ++ [l]) = 0) : ∃ h', nextF xs h l = some h' := by
  unfold nextF
  rw [if_neg (by omega)]
  exact ⟨_, rfl⟩
theorem calm_runs {xs ys : List (List Int)} : ∀ (n : Nat) (u : List Int), u.length = n → Calm xs u → Calm ys u → LO u → ∃ h k, Runs xs ys u h k
  | 0, u, hn, _, _, _ => by rw [List.length_eq_zero_iff.mp hn]; exact ⟨_, _, .nil⟩
  | n + 1, u, hn, c1, c2, lo => by
    have hne : u ≠ [] := fun z => by rw [z] at hn; cases hn
    have eu := (List.dropLast_concat_getLast hne).symm
    generalize u.dropLast = v at eu
    generalize u.getLast hne = l at eu
    subst eu
    rw [List.length_append] at hn
    have hn : v.length + 1 = n + 1 := hn
    obtain ⟨h, k, r⟩ := calm_runs n v (by omega) (calm_pre c1) (calm_pre c2) (fun x hx => lo x (List.mem_append_left _ hx))
    obtain ⟨_, _, _, e1, e2⟩ := runs_calm r
    obtain ⟨l0, l1⟩ := lo l (List.mem_append_right _ List.mem_cons_self)
    obtain ⟨m, rfl⟩ : ∃ m : Nat, l = m := ⟨l.toNat, by omega⟩
    have z1 := c1 (v.length + 1) (by rw [List.length_append]; exact Nat.le_refl _)
    have z2 := c2 (v.length + 1) (by rw [List.length_append]; exact Nat.le_refl _)
    rw [List.take_of_length_le (by rw [List.length_append]; exact Nat.le_refl _)] at z1 z2
    have y1 := held_go (l := (m : Int)) e1
    have y2 := held_go (l := (m : Int)) e2
    obtain ⟨h', n1⟩ := next_some (xs := xs) (h := h) (l := (m : Int)) (by rw [y1, z1])
    obtain ⟨k', n2⟩ := next_some (xs := ys) (h := k) (l := (m : Int)) (by rw [y2, z2])
    exact ⟨h', k', .snoc r (by omega) (by rw [y1, y2, z1, z2]) n1 n2⟩
/-- a text at whose end just one list stops, or both, but unlike -/
def P0 (xs ys : List (List Int)) (t : List Int) : Prop := ∃ u l, t = u ++ [l] ∧ Calm xs u ∧ Calm ys u ∧ stopF xs t ≠ stopF ys t
theorem P0.symm {xs ys : List (List Int)} {t : List Int} (h : P0 xs ys t) : P0 ys xs t := by
  obtain ⟨u, l, e, c1, c2, c3⟩ := h
  exact ⟨u, l, e, c2, c1, Ne.symm c3⟩
theorem part_P {xs ys : List (List Int)} {t : List Int} (h : partF xs ys = some t) : P0 xs ys t ∧ LO t ∧ ∀ t', P0 xs ys t' → LO t' → code t ≤ code t' := by
  obtain ⟨⟨u, a, c, l, hl, rfl, r, hp⟩, m⟩ := part_found h
  obtain ⟨c1, c2, lo, e1, e2⟩ := runs_calm r
  rw [held_go e1, held_go e2] at hp
  refine ⟨⟨u, _, rfl, c1, c2, hp⟩, lo.snoc hl, ?_⟩
  rintro t' ⟨v, l', rfl, d1, d2, d3⟩ lo'
  obtain ⟨l0, l1⟩ := lo' l' (List.mem_append_right _ List.mem_cons_self)
  obtain ⟨n, rfl⟩ : ∃ n : Nat, l' = n := ⟨l'.toNat, by omega⟩
  obtain ⟨h', k', r'⟩ := calm_runs _ v rfl d1 d2 (fun x hx => lo' x (List.mem_append_left _ hx))
  obtain ⟨_, _, _, f1, f2⟩ := runs_calm r'
  exact m v h' k' n (by omega) r' (by rw [held_go f1, held_go f2]; exact d3)
theorem part_no {xs ys : List (List Int)} (hx : EndsOk xs) (hy : EndsOk ys) (h : partF xs ys = none) {t : List Int} (lo : LO t) : ¬ P0 xs ys t := by
  rintro ⟨v, l', rfl, d1, d2, d3⟩
  obtain ⟨l0, l1⟩ := lo l' (List.mem_append_right _ List.mem_cons_self)
  obtain ⟨n, rfl⟩ : ∃ n : Nat, l' = n := ⟨l'.toNat, by omega⟩
  obtain ⟨h', k', r'⟩ := calm_runs _ v rfl d1 d2 (fun x hx => lo x (List.mem_append_left _ hx))
  obtain ⟨_, _, _, f1, f2⟩ := runs_calm r'
  have := part_never hx hy h v h' k' n (by omega) r'
  rw [held_go f1, held_go f2] at this
  exact d3 this
/-! ### needed stops -/
def Need (xs : List (List Int)) (s : List Int) : Prop := s ∈ xs ∧ ∀ o, o ∈ xs → standsB s o = false
def Dif (xs ys : List (List Int)) (s : List Int) : Prop := (Need xs s ∧ ¬ Need ys s) ∨ (Need ys s ∧ ¬ Need xs s)
theorem Dif.symm {xs ys : List (List Int)} {s : List Int} (h : Dif xs ys s) : Dif ys xs s := Or.symm h
theorem stands_iff {s o : List Int} : standsB s o = true ↔ ∃ k, k < s.length - o.length ∧ (s.drop k).take o.length = o := by
  unfold standsB
  rw [List.any_eq_true]
  constructor
  · rintro ⟨k, h1, h2⟩
    exact ⟨k, List.mem_range.mp h1, of_decide_eq_true h2⟩
  · rintro ⟨k, h1, h2⟩
    exact ⟨k, List.mem_range.mpr h1, decide_eq_true h2⟩
theorem ends_take {s o : List Int} {p : Nat} (hp : p < s.length) (h : endsAt o (s.take p)) : standsB s o = true := by
  obtain ⟨h1, h2⟩ := h
  have lp : (s.take p).length = p := by rw [List.length_take]; omega
  rw [lp] at h1 h2
  refine stands_iff.mpr ⟨p - o.length, by omega, ?_⟩
  rw [List.drop_take] at h2
  rw [show p - (p - o.length) = o.length by omega] at h2
  exact h2
theorem take_ends {s o : List Int} (h : standsB s o = true) : ∃ p, p < s.length ∧ endsAt o (s.take p) := by
  obtain ⟨k, h1, h2⟩ := stands_iff.mp h
  refine ⟨k + o.length, by omega, ?_, ?_⟩
  · rw [List.length_take]; omega
  · have lp : (s.take (k + o.length)).length = k + o.length := by rw [List.length_take]; omega
    rw [lp, List.drop_take, show k + o.length - o.length = k by omega, show k + o.length - k = o.length by omega]
    exact h2
theorem not_ends {xs : List (List Int)} (hx : EndsOk xs) {t : List Int} (h : stopF xs t = 0) {o : List Int} (ho : o ∈ xs) : ¬ endsAt o t := (stop_none hx).mp h o ho
theorem snoc_of {s : List Int} (h : s ≠ []) : ∃ u l, s = u ++ [l] ∧ u.length + 1 = s.length := by
  refine ⟨s.dropLast, s.getLast h, (List.dropLast_concat_getLast h).symm, ?_⟩
  have := List.length_pos_iff.mpr h
  rw [List.length_dropLast]; omega
theorem calm_need {xs : List (List Int)} (hx : EndsOk xs) {u : List Int} {l : Int} (hn : ∀ o, o ∈ xs → standsB (u ++ [l]) o = false) : Calm xs u := fun j hj => by
  refine (stop_none hx).mpr fun o ho he => ?_
  have : standsB (u ++ [l]) o = true := ends_take (p := j) (by rw [List.length_append]; show j < u.length + 1; omega) (by rw [List.take_append_of_le_length hj]; exact he)
  rw [hn o ho] at this
  cases this
theorem stop_whole {xs : List (List Int)} {s : List Int} (h : s ∈ xs) : stopF xs s = s.length := by
  have a := stopF_le xs s
  have b := (best_stopF xs s).2 s.length ⟨s, h, rfl, Nat.le_refl _, by rw [Nat.sub_self]; rfl⟩
  omega
theorem whole_stop {xs : List (List Int)} {s : List Int} (hs : s ≠ []) (h : stopF xs s = s.length) : s ∈ xs := by
  have hp := List.length_pos_iff.mpr hs
  rcases (best_stopF xs s).1 with b | ⟨o, o1, o2, o3, o4⟩
  · omega
  · have : o.length = s.length := by omega
    rw [this, Nat.sub_self, List.drop_zero] at o4
    rw [o4]; exact o1
/-- at a parting text one of the needed stops of just one list ends -/
theorem part_dif1 {xs ys : List (List Int)} (hx : EndsOk xs) (hy : EndsOk ys) {u : List Int} {l : Int} (c1 : Calm xs u) (c2 : Calm ys u) (hlt : stopF ys (u ++ [l]) < stopF xs (u ++ [l])) :
    ∃ s a, u ++ [l] = a ++ s ∧ Need xs s ∧ ¬ Need ys s ∧ P0 xs ys s ∧ LO s := by
  rcases (best_stopF xs (u ++ [l])).1 with b | ⟨s, s1, s2, s3, s4⟩
  · omega
  have hs0 : s ≠ [] := (hx.2 s s1).1
  have slo : LO s := (hx.2 s s1).2.2
  have hp := List.length_pos_iff.mpr hs0
  have lu : (u ++ [l]).length = u.length + 1 := by rw [List.length_append]; rfl
  rw [lu] at s3 s4
  have ea : u ++ [l] = (u ++ [l]).take (u.length + 1 - s.length) ++ s := by
    have := List.take_append_drop (u.length + 1 - s.length) (u ++ [l])
    rw [s4] at this
    exact this.symm
  -- what ends within s ends within u
  have within : ∀ p o, p < s.length → endsAt o (s.take p) → endsAt o (u.take (u.length + 1 - s.length + p)) := fun p o hp ⟨h1, h2⟩ => by
    have lp : (s.take p).length = p := by rw [List.length_take]; omega
    rw [lp] at h1 h2
    have lq : (u.take (u.length + 1 - s.length + p)).length = u.length + 1 - s.length + p := by rw [List.length_take]; omega
    refine ⟨by omega, ?_⟩
    rw [lq]
    have e : s.take p = (u.take (u.length + 1 - s.length + p)).drop (u.length + 1 - s.length) := by
      have : u.take (u.length + 1 - s.length + p) = (u ++ [l]).take (u.length + 1 - s.length + p) := (List.take_append_of_le_length (by omega)).symm
      rw [this, List.drop_take, s4, show u.length + 1 - s.length + p - (u.length + 1 - s.length) = p by omega]
    rw [e, List.drop_drop] at h2
    rw [show u.length + 1 - s.length + p - o.length = u.length + 1 - s.length + (p - o.length) by omega]
    exact h2
  have n1 : ∀ o, o ∈ xs → standsB s o = false := fun o ho => by
    cases e : standsB s o with
    | false => rfl
    | true =>
      obtain ⟨p, hp2, he⟩ := take_ends e
      exact absurd (within p o hp2 he) (not_ends hx (c1 _ (by omega)) ho)
  have n2 : s ∉ ys := fun hs => by
    have := (best_stopF ys (u ++ [l])).2 s.length ⟨s, hs, rfl, by rw [lu]; omega, by rw [lu]; exact s4⟩
    omega
  obtain ⟨v, m, es, lv⟩ := snoc_of hs0
  refine ⟨s, _, ea, ⟨s1, n1⟩, fun z => n2 z.1, ⟨v, m, es, ?_, ?_, ?_⟩, slo⟩
  · exact calm_need hx (by rw [← es]; exact n1)
  · intro j hj
    refine (stop_none hy).mpr fun o ho he => ?_
    have e2 : v.take j = s.take j := by rw [es, List.take_append_of_le_length hj]
    rw [e2] at he
    exact absurd (within j o (by omega) he) (not_ends hy (c2 _ (by omega)) ho)
  · rw [stop_whole s1]
    exact fun z => n2 (whole_stop hs0 z.symm)
theorem part_dif {xs ys : List (List Int)} (hx : EndsOk xs) (hy : EndsOk ys) {t : List Int} (h : P0 xs ys t) : ∃ s a, t = a ++ s ∧ Dif xs ys s ∧ P0 xs ys s ∧ LO s := by
  obtain ⟨u, l, rfl, c1, c2, c3⟩ := h
  rcases Nat.lt_or_gt_of_ne c3 with z | z
  · obtain ⟨s, a, e, n1, n2, p, lo⟩ := part_dif1 hy hx c2 c1 z
    exact ⟨s, a, e, .inr ⟨n1, n2⟩, p.symm, lo⟩
  · obtain ⟨s, a, e, n1, n2, p, lo⟩ := part_dif1 hx hy c1 c2 z
    exact ⟨s, a, e, .inl ⟨n1, n2⟩, p, lo⟩
end K93
set_option Elab.async false
set_option linter.all false
set_option maxRecDepth 100000
set_option maxHeartbeats 1000000
namespace K93
open PySem PySem.Spec PyProof.Rows L2 DL
/-! ### the least of the differing needed stops -/
theorem code_nn {t : List Int} : ∀ n, t.length = n → LO t → 0 ≤ code t ∧ (t ≠ [] → 0 < code t)
  | 0, hn, _ => by rw [List.length_eq_zero_iff.mp hn]; exact ⟨Int.le_refl _, fun h => absurd rfl h⟩
  | n + 1, hn, lo => by
    have hne : t ≠ [] := fun z => by rw [z] at hn; cases hn
    obtain ⟨u, l, e, hl⟩ := snoc_of hne
    rw [e] at lo ⊢
    obtain ⟨h1, _⟩ := code_nn (t := u) n (by omega) (fun x hx => lo x (List.mem_append_left _ hx))
    have := lo l (List.mem_append_right _ List.mem_cons_self)
    rw [code_snoc]
    exact ⟨by omega, fun _ => by omega⟩
theorem code_app {a : List Int} (lo : LO a) : ∀ (n : Nat) (s : List Int), s.length = n → code s ≤ code (a ++ s) ∧ (a ≠ [] → code s < code (a ++ s))
  | 0, s, hn => by
    rw [List.length_eq_zero_iff.mp hn, List.append_nil, code_nil]
    exact code_nn _ rfl lo
  | n + 1, s, hn => by
    have hne : s ≠ [] := fun z => by rw [z] at hn; cases hn
    obtain ⟨u, l, e, hl⟩ := snoc_of hne
    obtain ⟨h1, h2⟩ := code_app lo n u (by omega)
    rw [e, ← List.append_assoc, code_snoc, code_snoc]
    exact ⟨by omega, fun z => by have := h2 z; omega⟩
theorem code_pre {u : List Int} : ∀ (n : Nat) (s : List Int), s.length = n → LO (u ++ s) → code u ≤ code (u ++ s) ∧ (s ≠ [] → code u < code (u ++ s))
  | 0, s, hn, _ => by rw [List.length_eq_zero_iff.mp hn, List.append_nil]; exact ⟨Int.le_refl _, fun h => absurd rfl h⟩
  | n + 1, s, hn, lo => by
    have hne : s ≠ [] := fun z => by rw [z] at hn; cases hn
    obtain ⟨v, l, e, hl⟩ := snoc_of hne
    rw [e, ← List.append_assoc] at lo ⊢
    have lv : LO (u ++ v) := fun x hx => lo x (List.mem_append_left _ hx)
    obtain ⟨h1, _⟩ := code_pre n v (by omega) lv
    have h3 := (code_nn _ rfl lv).1
    have := lo l (List.mem_append_right _ List.mem_cons_self)
    rw [code_snoc]
    exact ⟨by omega, fun _ => by omega⟩
theorem dif_lo {xs ys : List (List Int)} (hx : EndsOk xs) (hy : EndsOk ys) {d : List Int} (h : Dif xs ys d) : LO d ∧ d ≠ [] := by
  rcases h with ⟨⟨h, _⟩, _⟩ | ⟨⟨h, _⟩, _⟩
  · exact ⟨(hx.2 d h).2.2, (hx.2 d h).1⟩
  · exact ⟨(hy.2 d h).2.2, (hy.2 d h).1⟩
theorem dif_least {xs ys : List (List Int)} (hx : EndsOk xs) (hy : EndsOk ys) : ∀ (n : Nat) d, (code d).toNat ≤ n → Dif xs ys d → ∃ d0, Dif xs ys d0 ∧ ∀ d', Dif xs ys d' → code d0 ≤ code d'
  | n, d, hn, hd => by
    by_cases e : ∃ d', Dif xs ys d' ∧ code d' < code d
    · obtain ⟨d', h1, h2⟩ := e
      have c := (code_nn _ rfl (dif_lo hx hy h1).1).1
      cases n with
      | zero => omega
      | succ n => exact dif_least hx hy n d' (by omega) h1
    · exact ⟨d, hd, fun d' h' => Int.not_lt.mp fun z => e ⟨d', h', z⟩⟩
theorem dif_P1 {xs ys : List (List Int)} (hx : EndsOk xs) (hy : EndsOk ys) {d : List Int} (h1 : Need xs d) (h2 : ¬ Need ys d) (m : ∀ d', Dif xs ys d' → code d ≤ code d') : P0 xs ys d := by
  obtain ⟨hd0, _, lo⟩ := hx.2 d h1.1
  obtain ⟨u, l, rfl, _⟩ := snoc_of hd0
  have c1 : Calm xs u := calm_need hx h1.2
  have c2 : ∀ p, p ≤ u.length → ∀ j, j ≤ p → stopF ys (u.take j) = 0 := by
    intro p
    induction p with
    | zero =>
      intro _ j hj
      rw [Nat.le_zero.mp hj, List.take_zero]; exact stopF_nil ys
    | succ p ih =>
      intro hp j hj
      by_cases e : j ≤ p
      · exact ih (by omega) j e
      have ej : j = p + 1 := by omega
      subst ej
      refine Classical.byContradiction fun hz => ?_
      have hat : u[p]? = some (u[p]'(by omega)) := List.getElem?_eq_getElem (by omega)
      have et : u.take (p + 1) = u.take p ++ [u[p]'(by omega)] := by rw [List.take_add_one, hat]; rfl
      have lp : (u.take p).length = p := by rw [List.length_take]; omega
      have hP : P0 xs ys (u.take (p + 1)) := by
        refine ⟨u.take p, _, et, fun i hi => ?_, fun i hi => ?_, ?_⟩
        · rw [lp] at hi
          rw [List.take_take, Nat.min_eq_left hi]; exact c1 i (by omega)
        · rw [lp] at hi
          rw [List.take_take, Nat.min_eq_left hi]; exact ih (by omega) i hi
        · rw [c1 (p + 1) hp]; exact fun z => hz z.symm
      obtain ⟨s, a, e1, e2, _, ls⟩ := part_dif hx hy hP
      have lot : LO (u.take (p + 1)) := fun x hx => lo x (List.mem_append_left _ (List.mem_of_mem_take hx))
      have la : LO a := fun x hx => lot x (by rw [e1]; exact List.mem_append_left _ hx)
      have g1 := (code_app la _ s rfl).1
      rw [← e1] at g1
      have ed : u.take (p + 1) ++ (u.drop (p + 1) ++ [l]) = u ++ [l] := by rw [← List.append_assoc, List.take_append_drop]
      have g2 := (code_pre (u := u.take (p + 1)) _ (u.drop (p + 1) ++ [l]) rfl (by rw [ed]; exact lo)).2 (by simp)
      rw [ed] at g2
      have := m s e2
      omega
  refine ⟨u, l, rfl, c1, c2 u.length (Nat.le_refl _), ?_⟩
  rw [stop_whole h1.1]
  refine fun z => h2 ⟨whole_stop hd0 z.symm, fun o ho => ?_⟩
  cases e : standsB (u ++ [l]) o with
  | false => rfl
  | true =>
    obtain ⟨p, hp, he⟩ := take_ends e
    rw [List.length_append] at hp
    have hp : p < u.length + 1 := hp
    rw [List.take_append_of_le_length (by omega)] at he
    exact absurd he (not_ends hy (c2 u.length (Nat.le_refl _) p (by omega)) ho)
theorem dif_P {xs ys : List (List Int)} (hx : EndsOk xs) (hy : EndsOk ys) {d : List Int} (h : Dif xs ys d) (m : ∀ d', Dif xs ys d' → code d ≤ code d') : P0 xs ys d := by
  rcases h with ⟨h1, h2⟩ | ⟨h1, h2⟩
  · exact dif_P1 hx hy h1 h2 m
  · exact (dif_P1 hy hx h1 h2 fun d' h' => m d' h'.symm).symm
/-- the parting text: the least needed stop of just one list -/
theorem part_is {xs ys : List (List Int)} (hx : EndsOk xs) (hy : EndsOk ys) {t : List Int} (h : partF xs ys = some t) : Dif xs ys t ∧ P0 xs ys t ∧ ∀ d, Dif xs ys d → code t ≤ code d := by
  obtain ⟨h1, lo, h2⟩ := part_P h
  obtain ⟨s, a, e, d, p, ls⟩ := part_dif hx hy h1
  have la : LO a := fun x hx => lo x (by rw [e]; exact List.mem_append_left _ hx)
  have g := h2 s p ls
  have ea : a = [] := Classical.byContradiction fun z => by
    have := (code_app la _ s rfl).2 z
    rw [← e] at this
    omega
  subst ea
  have e : t = s := e
  subst e
  refine ⟨d, h1, fun d' hd' => ?_⟩
  obtain ⟨d0, e1, e2⟩ := dif_least hx hy _ d' (Nat.le_refl _) hd'
  have p0 := dif_P hx hy e1 e2
  have := h2 d0 p0 (dif_lo hx hy e1).1
  have := e2 d' hd'
  omega
theorem part_not {xs ys : List (List Int)} (hx : EndsOk xs) (hy : EndsOk ys) (h : partF xs ys = none) (d : List Int) : ¬ Dif xs ys d := fun hd => by
  obtain ⟨d0, e1, e2⟩ := dif_least hx hy _ d (Nat.le_refl _) hd
  exact part_no hx hy h (dif_lo hx hy e1).1 (dif_P hx hy e1 e2)
/-! ### codes tell the texts -/
theorem code_inj : ∀ (n : Nat) (s t : List Int), s.length = n → LO s → LO t → code s = code t → s = t
  | 0, s, t, hn, _, lt, e => by
    rw [List.length_eq_zero_iff.mp hn] at e ⊢
    refine Classical.byContradiction fun z => ?_
    have := (code_nn _ rfl lt).2 (fun y => z y.symm)
    rw [code_nil] at e
    omega
  | n + 1, s, t, hn, ls, lt, e => by
    have hne : s ≠ [] := fun z => by rw [z] at hn; cases hn
    have ht : t ≠ [] := fun z => by
      have := (code_nn _ rfl ls).2 hne
      rw [z, code_nil] at e
      omega
    obtain ⟨u, l, rfl, hl⟩ := snoc_of hne
    obtain ⟨v, m, rfl, _⟩ := snoc_of ht
    rw [code_snoc, code_snoc] at e
    have a := ls l (List.mem_append_right _ List.mem_cons_self)
    have b := lt m (List.mem_append_right _ List.mem_cons_self)
    have e1 : l = m := by omega
    have e2 : code u = code v := by omega
    rw [code_inj n u v (by omega) (fun x hx => ls x (List.mem_append_left _ hx)) (fun x hx => lt x (List.mem_append_left _ hx)) e2, e1]
/-- least and greatest code of a length -/
def rep : Nat → Int
  | 0 => 0
  | n + 1 => 12 * rep n + 1
theorem code_between : ∀ (n : Nat) (s : List Int), s.length = n → LO s → rep n ≤ code s ∧ code s ≤ 12 * rep n
  | 0, s, hn, _ => by rw [List.length_eq_zero_iff.mp hn]; exact ⟨Int.le_refl _, Int.le_refl _⟩
  | n + 1, s, hn, ls => by
    have hne : s ≠ [] := fun z => by rw [z] at hn; cases hn
    obtain ⟨u, l, rfl, hl⟩ := snoc_of hne
    have a := ls l (List.mem_append_right _ List.mem_cons_self)
    obtain ⟨h1, h2⟩ := code_between n u (by omega) (fun x hx => ls x (List.mem_append_left _ hx))
    rw [code_snoc]
    show 12 * rep n + 1 ≤ _ ∧ _ ≤ 12 * (12 * rep n + 1)
    omega
theorem rep_mono : ∀ (m n : Nat), n ≤ m → rep n ≤ rep m ∧ 0 ≤ rep n
  | 0, n, h => by rw [Nat.le_zero.mp h]; exact ⟨Int.le_refl _, Int.le_refl _⟩
  | m + 1, n, h => by
    have h0 := rep_mono m m (Nat.le_refl _)
    by_cases e : n = m + 1
    · subst e
      show rep (m + 1) ≤ _ ∧ 0 ≤ 12 * rep m + 1
      exact ⟨Int.le_refl _, by omega⟩
    · obtain ⟨h1, h2⟩ := rep_mono m n (by omega)
      show _ ≤ 12 * rep m + 1 ∧ _
      omega
theorem code_short {s t : List Int} (ls : LO s) (lt : LO t) (h : s.length < t.length) : code s < code t := by
  have a := (code_between _ s rfl ls).2
  have b := (code_between _ t rfl lt).1
  have c := (rep_mono t.length (s.length + 1) h).1
  have : rep (s.length + 1) = 12 * rep s.length + 1 := rfl
  omega
end K93
set_option Elab.async false
set_option linter.all false
set_option maxRecDepth 100000
set_option maxHeartbeats 1000000
namespace K93
open PySem PySem.Spec PyProof.Rows L2 DL
/-! ### where a text stops -/
theorem stand_spec {xs : List (List Int)} {t : List Int} : ∀ (n i : Nat), i + n = t.length →
    (∃ p, i < p ∧ p ≤ t.length ∧ 0 < stopF xs (t.take p) ∧ (∀ q, i < q → q < p → stopF xs (t.take q) = 0) ∧ standG xs t n i = (true, (p : Int) - (stopF xs (t.take p) : Nat))) ∨
    ((∀ q, i < q → q ≤ t.length → stopF xs (t.take q) = 0) ∧ standG xs t n i = (false, 0))
  | 0, i, h => .inr ⟨fun q h1 h2 => by omega, rfl⟩
  | n + 1, i, h => by
    have e : standG xs t (n + 1) i = if 0 < stopF xs (t.take (i + 1)) then (true, ((i + 1 : Nat) : Int) - (stopF xs (t.take (i + 1)) : Nat)) else standG xs t n (i + 1) := rfl
    rw [e]
    by_cases z : 0 < stopF xs (t.take (i + 1))
    · rw [if_pos z]
      exact .inl ⟨i + 1, by omega, by omega, z, fun q h1 h2 => by omega, rfl⟩
    · rw [if_neg z]
      rcases stand_spec (xs := xs) (t := t) n (i + 1) (by omega) with ⟨p, p1, p2, p3, p4, p5⟩ | ⟨q1, q2⟩
      · refine .inl ⟨p, by omega, p2, p3, fun q h1 h2 => ?_, p5⟩
        by_cases y : q = i + 1
        · subst y; omega
        · exact p4 q (by omega) h2
      · refine .inr ⟨fun q h1 h2 => ?_, q2⟩
        by_cases y : q = i + 1
        · subst y; omega
        · exact q1 q (by omega) h2
theorem P0_of {xs ys : List (List Int)} {t : List Int} {p : Nat} (h0 : 0 < p) (hp : p ≤ t.length) (h : ∀ q, 0 < q → q < p → stopF xs (t.take q) = 0 ∧ stopF ys (t.take q) = 0) (hd : stopF xs (t.take p) ≠ stopF ys (t.take p)) : P0 xs ys (t.take p) := by
  obtain ⟨m, rfl⟩ : ∃ m, p = m + 1 := ⟨p - 1, by omega⟩
  have hat : t[m]? = some (t[m]'(by omega)) := List.getElem?_eq_getElem (by omega)
  have lp : (t.take m).length = m := by rw [List.length_take]; omega
  have z : ∀ (zs : List (List Int)), (∀ q, 0 < q → q < m + 1 → stopF zs (t.take q) = 0) → Calm zs (t.take m) := fun zs hz i hi => by
    rw [lp] at hi
    rw [List.take_take, Nat.min_eq_left hi]
    by_cases e : i = 0
    · rw [e, List.take_zero]; exact stopF_nil zs
    · exact hz i (by omega) (by omega)
  exact ⟨t.take m, t[m]'(by omega), by rw [List.take_add_one, hat]; rfl, z xs fun q a b => (h q a b).1, z ys fun q a b => (h q a b).2, hd⟩
/-- a text that parts two lists has a needed stop of just one of them in it -/
theorem parted_dif {xs ys : List (List Int)} (hx : EndsOk xs) (hy : EndsOk ys) {t : List Int} (h : standF xs t ≠ standF ys t) : ∃ s, Dif xs ys s ∧ s.length ≤ t.length := by
  have fin : ∀ p, p ≤ t.length → P0 xs ys (t.take p) → ∃ s, Dif xs ys s ∧ s.length ≤ t.length := fun p hp hP => by
    obtain ⟨s, a, e, d, _⟩ := part_dif hx hy hP
    have := congrArg List.length e
    rw [List.length_take, List.length_append] at this
    exact ⟨s, d, by omega⟩
  unfold standF at h
  rcases stand_spec (xs := xs) (t := t) t.length 0 (by omega) with ⟨p, p1, p2, p3, p4, p5⟩ | ⟨p4, p5⟩
  · rcases stand_spec (xs := ys) (t := t) t.length 0 (by omega) with ⟨r, r1, r2, r3, r4, r5⟩ | ⟨r4, r5⟩
    · rcases Nat.lt_trichotomy p r with z | z | z
      · exact fin p p2 (P0_of p1 p2 (fun q a b => ⟨p4 q a b, r4 q a (by omega)⟩) (by rw [r4 p p1 z]; omega))
      · subst z
        refine fin p p2 (P0_of p1 p2 (fun q a b => ⟨p4 q a b, r4 q a b⟩) fun z => h ?_)
        rw [p5, r5, z]
      · exact fin r r2 (P0_of r1 r2 (fun q a b => ⟨p4 q a (by omega), r4 q a b⟩) (by rw [p4 r r1 z]; omega))
    · exact fin p p2 (P0_of p1 p2 (fun q a b => ⟨p4 q a b, r4 q a (by omega)⟩) (by rw [r4 p p1 p2]; omega))
  · rcases stand_spec (xs := ys) (t := t) t.length 0 (by omega) with ⟨r, r1, r2, r3, r4, r5⟩ | ⟨r4, r5⟩
    · exact fin r r2 (P0_of r1 r2 (fun q a b => ⟨p4 q a (by omega), r4 q a b⟩) (by rw [p4 r r1 r2]; omega))
    · exact absurd (p5.trans r5.symm) h
theorem parted_part {xs ys : List (List Int)} {t : List Int} (h : P0 xs ys t) : standF xs t ≠ standF ys t := by
  obtain ⟨u, l, rfl, c1, c2, c3⟩ := h
  have lu : (u ++ [l]).length = u.length + 1 := by rw [List.length_append]; rfl
  have all : (u ++ [l]).take (u.length + 1) = u ++ [l] := List.take_of_length_le (by rw [lu]; exact Nat.le_refl _)
  have key : ∀ zs, Calm zs u → (0 < stopF zs (u ++ [l]) ∧ standF zs (u ++ [l]) = (true, ((u.length + 1 : Nat) : Int) - (stopF zs (u ++ [l]) : Nat))) ∨ (stopF zs (u ++ [l]) = 0 ∧ standF zs (u ++ [l]) = (false, 0)) := fun zs c => by
    unfold standF
    rcases stand_spec (xs := zs) (t := u ++ [l]) (u ++ [l]).length 0 (by omega) with ⟨p, p1, p2, p3, p4, p5⟩ | ⟨p4, p5⟩
    · have hp : p = u.length + 1 := by
        rcases Nat.lt_or_ge u.length p with z | z
        · omega
        · rw [List.take_append_of_le_length z, c p z] at p3; omega
      subst hp
      rw [all] at p3 p5
      exact .inl ⟨p3, p5⟩
    · have := p4 (u.length + 1) (by omega) (by omega)
      rw [all] at this
      exact .inr ⟨this, p5⟩
  rcases key xs c1 with ⟨a1, a2⟩ | ⟨a1, a2⟩ <;> rcases key ys c2 with ⟨b1, b2⟩ | ⟨b1, b2⟩
  · rw [a2, b2]
    intro z
    injection z with _ z
    omega
  · rw [a2, b2]; intro z; injection z with z _; cases z
  · rw [a2, b2]; intro z; injection z with z _; cases z
  · omega
/-! ### the lists without their needless ones -/
theorem need_left {xs : List (List Int)} {s : List Int} : s ∈ leftF xs ↔ Need xs s := by
  unfold leftF
  rw [List.mem_filterMap]
  constructor
  · rintro ⟨k, _, hk⟩
    by_cases z : needB xs k = true
    · rw [if_pos z] at hk; cases hk
    · rw [if_neg z] at hk
      unfold needB at z
      rw [hk] at z
      dsimp only at z
      rw [Bool.or_eq_true, decide_eq_true_eq, List.any_eq_true, not_or] at z
      refine ⟨List.mem_of_getElem? hk, fun o ho => ?_⟩
      cases e : standsB s o with
      | false => rfl
      | true => exact absurd ⟨o, ho, e⟩ z.2
  · rintro ⟨h1, h2⟩
    obtain ⟨k, k1, k2⟩ := first_at h1
    refine ⟨k, List.mem_range.mpr (lt_of_some k1), ?_⟩
    have z : ¬ needB xs k = true := by
      unfold needB
      rw [k1]
      dsimp only
      rw [Bool.or_eq_true, decide_eq_true_eq, List.any_eq_true, not_or]
      refine ⟨fun y => ?_, fun ⟨o, o1, o2⟩ => by rw [h2 o o1] at o2; cases o2⟩
      obtain ⟨m, hm⟩ := List.mem_iff_getElem?.mp y
      have lm := lt_of_some hm
      rw [List.length_take] at lm
      rw [List.getElem?_take, if_pos (by omega)] at hm
      exact k2 m (by omega) hm
    rw [if_neg z]; exact k1
theorem left_ok {xs : List (List Int)} (hx : EndsOk xs) : EndsOk (leftF xs) := by
  refine ⟨?_, fun s hs => hx.2 s (need_left.mp hs).1⟩
  have := hx.1
  have h2 : (leftF xs).length ≤ (List.range xs.length).length := List.length_filterMap_le ..
  rw [List.length_range] at h2
  omega
theorem need_twice {xs : List (List Int)} {s : List Int} : Need (leftF xs) s ↔ Need xs s := by
  constructor
  · exact fun h => need_left.mp h.1
  · exact fun h => ⟨need_left.mpr h, fun o ho => h.2 o (need_left.mp ho).1⟩
theorem part_left {xs : List (List Int)} (hx : EndsOk xs) : partF xs (leftF xs) = none ∧ partF (leftF xs) xs = none := by
  have key : partF xs (leftF xs) = none := by
    cases e : partF xs (leftF xs) with
    | none => rfl
    | some t =>
      rcases (part_is hx (left_ok hx) e).1 with ⟨h1, h2⟩ | ⟨h1, h2⟩
      · exact absurd (need_twice.mpr h1) h2
      · exact absurd (need_twice.mp h1) h2
  exact ⟨key, by rw [part_sw]; exact key⟩
theorem stand_left {xs : List (List Int)} (hx : EndsOk xs) (t : List Int) : standF xs t = standF (leftF xs) t := by
  refine Classical.byContradiction fun h => ?_
  obtain ⟨s, d, _⟩ := parted_dif hx (left_ok hx) h
  rcases d with ⟨h1, h2⟩ | ⟨h1, h2⟩
  · exact absurd (need_twice.mpr h1) h2
  · exact absurd (need_twice.mp h1) h2
/-! ### lists of ints, one less than the other -/
theorem code_one {l : Int} : code [l] = l + 1 := by
  show 12 * 0 + l + 1 = _
  omega
theorem code_split {a : List Int} : ∀ (n : Nat) (s : List Int), s.length = n → code (a ++ s) = 12 ^ n * code a + code s
  | 0, s, hn => by
    rw [List.length_eq_zero_iff.mp hn, List.append_nil, code_nil]; omega
  | n + 1, s, hn => by
    have hne : s ≠ [] := fun z => by rw [z] at hn; cases hn
    obtain ⟨u, l, rfl, hl⟩ := snoc_of hne
    rw [← List.append_assoc, code_snoc, code_snoc, code_split n u (by omega), Int.pow_succ, Int.mul_comm (12 ^ n) 12, Int.mul_assoc]
    omega
theorem rep_pow : ∀ n : Nat, 11 * rep n + 1 = 12 ^ n
  | 0 => rfl
  | n + 1 => by
    rw [Int.pow_succ, ← rep_pow n]
    show 11 * (12 * rep n + 1) + 1 = _
    omega
theorem code_lt_cons {x y : Int} {s t : List Int} (h : s.length = t.length) (ls : LO s) (lt : LO t) (hxy : x < y) : code (x :: s) < code (y :: t) := by
  have e1 : code (x :: s) = 12 ^ s.length * (x + 1) + code s := by rw [show x :: s = [x] ++ s from rfl, code_split _ s rfl, code_one]
  have e2 : code (y :: t) = 12 ^ s.length * (y + 1) + code t := by rw [show y :: t = [y] ++ t from rfl, code_split _ t rfl, code_one, h]
  have a := (code_between _ s rfl ls).2
  have b := (code_between _ t rfl lt).1
  rw [← h] at b
  have c := rep_pow s.length
  have d : (12 : Int) ^ s.length * (x + 1) + 12 ^ s.length ≤ 12 ^ s.length * (y + 1) := by
    have h0 : (0 : Int) ≤ 12 ^ s.length := by rw [← c]; have := (rep_mono s.length s.length (Nat.le_refl _)).2; omega
    have := Int.mul_le_mul_of_nonneg_left (show x + 1 + 1 ≤ y + 1 by omega) h0
    rw [Int.mul_add _ (x + 1) 1, Int.mul_one] at this
    exact this
  rw [e1, e2]
  omega
theorem alike_ints : ∀ (s t : List Int), PySem.W.alikeAll (s.map PyData.int) (t.map PyData.int) = true
  | [], _ => by simp [PySem.W.alikeAll]
  | _ :: _, [] => by simp [PySem.W.alikeAll]
  | x :: s, y :: t => by
    rw [List.map_cons, List.map_cons, PySem.W.alikeAll, alike_ints s t]
    rfl
theorem lt_ints : ∀ (s t : List Int), s.length = t.length → LO s → LO t → PyProof.Rows.lexLt PyProof.Rows.itemOrd (PySem.W.keyToksAll (s.map PyData.int)) (PySem.W.keyToksAll (t.map PyData.int)) = decide (code s < code t)
  | [], [], _, _, _ => by
    rw [decide_eq_false (Int.lt_irrefl _)]
    exact PyProof.Rows.lex_irrefl _
  | [], _ :: _, h, _, _ => by cases h
  | _ :: _, [], h, _, _ => by cases h
  | x :: s, y :: t, h0, ls, lt => by
    have h : s.length = t.length := Nat.succ.inj h0
    clear h0
    have ls' : LO s := fun z hz => ls z (List.mem_cons_of_mem _ hz)
    have lt' : LO t := fun z hz => lt z (List.mem_cons_of_mem _ hz)
    rw [List.map_cons, List.map_cons]
    by_cases e : x = y
    · subst e
      rw [PySem.W.dataLt_all_yes rfl (by show (x == x) = true; simp), lt_ints s t h ls' lt']
      have e1 : code (x :: s) = 12 ^ s.length * (x + 1) + code s := by rw [show x :: s = [x] ++ s from rfl, code_split _ s rfl, code_one]
      have e2 : code (x :: t) = 12 ^ s.length * (x + 1) + code t := by rw [show x :: t = [x] ++ t from rfl, code_split _ t rfl, code_one, h]
      rw [e1, e2, Bool.eq_iff_iff, decide_eq_true_iff, decide_eq_true_iff]
      omega
    · rw [PySem.W.dataLt_all_no rfl (by show (x == y) = false; simpa using e), PySem.W.dataLt_int, Bool.eq_iff_iff, decide_eq_true_iff, decide_eq_true_iff]
      rcases Int.lt_or_gt_of_ne e with z | z
      · exact ⟨fun _ => code_lt_cons h ls' lt' z, fun _ => z⟩
      · have := code_lt_cons h.symm lt' ls' z
        omega
theorem lt_go {S : Sto} {s t : List Int} {Q : Qd} (h : s.length = t.length) (ls : LO s) (lt : LO t) (q : Q (.bl (decide (code s < code t))) S) : oLtD S (dL s) (dL t) Q := by
  have e1 : toP (resD S (dL s)) = .list (s.map PyData.int) := toP_dL s
  have e2 : toP (resD S (dL t)) = .list (t.map PyData.int) := toP_dL t
  have dp : ∀ s : List Int, (PyData.list (s.map PyData.int)).depth ≤ 8 := fun s => by
    show PyData.depthAll (s.map PyData.int) + 1 ≤ 8
    rw [depth_ints]; decide
  refine ⟨⟨by rw [e1]; exact lay_ints s, by rw [e1]; exact dp s⟩, ⟨by rw [e2]; exact lay_ints t, by rw [e2]; exact dp t⟩, by rw [e1, e2]; exact alike_ints s t, (by rw [e1]; exact fun z => by cases z), ?_⟩
  rw [e1, e2, PySem.W.dataLt_list, lt_ints s t h ls lt]
  exact q
end K93
set_option Elab.async false
set_option linter.all false
set_option maxRecDepth 100000
set_option maxHeartbeats 1000000
namespace K93
open PySem PySem.Spec PyProof.Rows L2 DL
/-! ### comprehensions over a row of things -/
theorem compI_filt {α : Type} {t : WPg} {tt : WPt} {te : WPe} {g : Sto → Prop} {env : DE} {S : Sto} {Q : List D → Sto → Prop} (xs : List α) (f v : α → D) (p : α → Bool) (hg : g S)
    (h : ∀ a, a ∈ xs → ∀ R : Option D → Sto → Prop, R (if p a = true then some (v a) else none) S → t (f a) env fun e => tt e S (fun b S1 => if b = true then te e S1 (fun y S2 => R (some y) S2) X0 else R none S1) X0)
    (hq : Q ((xs.filter p).map v) S) : compI t tt te g env (xs.map f) S Q := by
  refine compI_inv (fun i acc S' => S' = S ∧ acc = ((xs.take i).filter p).map v) ⟨rfl, by simp⟩ (fun i acc S' hh => by rw [hh.1]; exact hg) ?_ ?_
  · rintro i d acc S' hi ⟨rfl, rfl⟩
    rw [List.getElem?_map] at hi
    obtain ⟨a, ha, rfl⟩ := Option.map_eq_some_iff.mp hi
    have et : xs.take (i + 1) = xs.take i ++ [a] := by rw [List.take_add_one, ha]; rfl
    refine h a (List.mem_of_getElem? ha) (fun o S2 => match o with | some y => S2 = S' ∧ ((xs.take i).filter p).map v ++ [y] = ((xs.take (i + 1)).filter p).map v | none => S2 = S' ∧ ((xs.take i).filter p).map v = ((xs.take (i + 1)).filter p).map v) ?_
    rw [et, List.filter_append, List.map_append]
    by_cases z : p a = true
    · rw [if_pos z]
      exact ⟨rfl, by rw [List.filter_cons_of_pos z]; rfl⟩
    · rw [if_neg z]
      exact ⟨rfl, by rw [List.filter_cons_of_neg z]; simp⟩
  · rintro acc S' ⟨rfl, rfl⟩
    rw [List.length_map, List.take_length]
    exact hq
theorem compI_vals {α : Type} {t : WPg} {te : WPe} {g : Sto → Prop} {env : DE} {S : Sto} {Q : List D → Sto → Prop} (xs : List α) (f v : α → D) (hg : g S)
    (h : ∀ a, a ∈ xs → ∀ R : D → Sto → Prop, R (v a) S → t (f a) env fun e => te e S R X0)
    (hq : Q (xs.map v) S) : compI t wYes te g env (xs.map f) S Q := by
  refine compI_filt xs f v (fun _ => true) hg (fun a ha R hR => ?_) (by rw [List.filter_eq_self.mpr fun _ _ => rfl]; exact hq)
  have := h a ha (fun y S2 => R (some y) S2) hR
  simpa [wYes] using this
theorem rng_eq {n : Nat} : rngD 0 n = (List.range n).map fun (i : Nat) => D.int (i : Int) := by
  unfold rngD
  exact List.map_congr_left fun i _ => by rw [Int.zero_add]
theorem any_bls {S : Sto} {α : Type} {xs : List α} {f : α → Bool} {Q : Qd} (q : Q (.bl (xs.any f)) S) : oAny S [.lst (xs.map fun a => D.bl (f a))] Q := by
  have e : (xs.map fun a => D.bl (f a)) = (xs.map f).map D.bl := by rw [List.map_map]; rfl
  rw [e]
  simp only [oAny, one, seqL, seqM, some!, toBls_map, List.any_map, Function.comp_def, id]
  exact q
theorem cutD_take {α : Type} {f : α → D} {xs : List α} {k : Nat} : cutD (xs.map f) none (some (k : Int)) = (xs.take k).map f := by
  unfold DL.cutD
  rw [List.length_map, HT.sIx_none, sIx_pos (by omega), List.drop_zero, Nat.sub_zero, Int.toNat_natCast, List.map_take]
  by_cases h : k ≤ xs.length
  · rw [Nat.min_eq_left h]
  · rw [Nat.min_eq_right (by omega), List.take_of_length_le (by simp), List.take_of_length_le (by simp; omega)]
theorem sl_rows {S : Sto} {i j : Bool} {xs : List (List Int)} {k : Nat} {Q : Qd} (q : Q (rows i j (xs.take k)) S) : oSl S (rows i j xs) none (some (k : Int)) Q := by
  cases i
  · simp only [rows, Bool.false_eq_true, if_false] at q ⊢
    simp only [oSl, seqL, seqM, some!, cutD_take]
    exact q
  · simp only [rows, if_true] at q ⊢
    simp only [oSl, cutD_take]
    exact q
theorem len_dR {S : Sto} {y : Bool} {t : List Int} {Q : Qd} (q : Q (.int (t.length : Nat)) S) : oLen S [dR y t] Q := oLen_of seqA_dR (by rw [List.length_map]; exact q)
theorem len_stands_ahead_of_end (c : Cl) : ∀ ds S Q E, sp_stands_ahead_of_end c ds S Q E → ds.length = 2 := by
  rintro ds S Q E ⟨_, _, _, _, rfl, _⟩; rfl
theorem rd_stands_ahead_of_end (c : Cl) : ∀ ds S Q X1, sp_stands_ahead_of_end c ds S Q X1 → w_stands_ahead_of_end c (startD N_stands_ahead_of_end_ ds) S (endQ Q X1) := by
  rintro ds S Q X1 ⟨i, j, s, o, rfl, hs, ho, h⟩
  show w_stands_ahead_of_end c [some (dR i s), some (dR j o), none, none] S (endQ Q X1)
  unfold w_stands_ahead_of_end
  refine seq_k fun q1 n1 r1 _ _ x1 => ?_
  simp only [wSet, wCB, wCons, wNil, wVar, getV, setV, some!]
  refine len_dR (n1 _ _ ?_)
  simp only [wRet, wCB, wLc, wRg1, wBin, wCons, wNil, wVar, getV, some!]
  refine len_dR ?_
  simp only [oSub, oI0, asI, delVs, delV]
  rw [rngD_length, show ((s.length : Int) - (o.length : Int)).toNat = s.length - o.length by omega, rng_eq]
  refine ⟨by omega, by unfold sizeLine; omega, compI_vals _ _ (fun k => .bl (decide ((s.drop k).take o.length = o))) trivial (fun k hk R hR => ?_) ?_⟩
  · have hk2 := List.mem_range.mp hk
    simp only [gN, setV, wBin, wCB, wSl, wP, wCons, wNil, wVar, getV, some!, oAdd]
    rw [← Int.natCast_add]
    refine sl_mid (by omega) (by omega) (tup_same (tup_same ?_))
    simp only [oEq, shD_dT, eqD_dT, true_and]
    rw [show k + o.length - k = o.length by omega]
    exact hR
  · refine any_bls ?_
    exact h
theorem len_needless_stops (c : Cl) : ∀ ds S Q E, sp_needless_stops c ds S Q E → ds.length = 1 := by
  rintro ds S Q E ⟨_, _, _, rfl, _⟩; rfl
/-- the needless places among the first n -/
def needT (xs : List (List Int)) (n : Nat) : List Int := ((List.range n).filter (needB xs)).map fun (k : Nat) => (k : Int)
theorem needT_succ {xs : List (List Int)} {n : Nat} : needT xs (n + 1) = if needB xs n = true then needT xs n ++ [(n : Int)] else needT xs n := by
  unfold needT
  rw [List.range_succ, List.filter_append, List.map_append]
  by_cases z : needB xs n = true
  · rw [if_pos z, List.filter_cons_of_pos z]; rfl
  · rw [if_neg z, List.filter_cons_of_neg z]; simp
theorem needT_len {xs : List (List Int)} {n : Nat} : (needT xs n).length ≤ n := by
  unfold needT
  rw [List.length_map]
  have := List.length_filter_le (needB xs) (List.range n)
  rw [List.length_range] at this
  exact this
theorem again_any {s : List Int} : ∀ {ys : List (List Int)}, (ys.any fun t => decide (s = t)) = decide (s ∈ ys)
  | [] => by simp
  | y :: r => by
    rw [List.any_cons, again_any, Bool.eq_iff_iff, Bool.or_eq_true, decide_eq_true_iff, decide_eq_true_iff, decide_eq_true_iff, List.mem_cons]
theorem rd_needless_stops (c : Cl) : ∀ ds S Q X1, sp_needless_stops c ds S Q X1 → w_needless_stops c (startD N_needless_stops_ ds) S (endQ Q X1) := by
  rintro ds S Q X1 ⟨i, j, xs, rfl, hl, hs, h⟩
  show w_needless_stops c [some (rows i j xs), none, none, none, none, none, none] S (endQ Q X1)
  unfold w_needless_stops
  refine seq_k fun q1 n1 r1 _ _ x1 => ?_
  simp only [wSet, wLstM, wNil, setV]
  refine ⟨Nat.zero_le _, fun p hp => n1 _ _ ?_⟩
  refine seq_k fun q1 n1 r1 _ _ x1 => ?_
  simp only [wFor, wEnum, wVar, getV, some!, seqA_rows]
  refine forI_invq (fun n e S' => S' = put S p (.lst ((needT xs n).map D.int)) ∧ ∃ x2 x3 x4 x5 x6, e = [some (rows i j xs), some (.ref p), x2, x3, x4, x5, x6]) ⟨rfl, none, none, none, none, none, rfl⟩ (fun _ _ _ _ => trivial) ?_ ?_
  · rintro n d e S' hn ⟨hS', x2, x3, x4, x5, x6, rfl⟩ q hq _ _ _ _
    obtain ⟨x, hx, rfl⟩ := enumD_get hn
    rw [List.getElem?_map] at hx
    obtain ⟨s, hat, rfl⟩ := Option.map_eq_some_iff.mp hx
    have hsl := hs s (List.mem_of_getElem? hat)
    have hnl := lt_of_some hat
    simp only [gT, gAll, gN, setV, Nat.zero_add]
    refine ⟨rfl, ?_⟩
    have hS : S' p = some (.lst ((needT xs n).map D.int)) := by rw [hS']; exact put_same
    have hnx : ∀ m, put S' p m = put S p m := fun m => by rw [hS']; exact put_put
    have hsucc := needT_succ (xs := xs) (n := n)
    have hlen := needT_len (xs := xs) (n := n)
    have eB : needB xs n = (decide (s ∈ xs.take n) || xs.any fun o => standsB s o) := by unfold needB; rw [hat]
    rw [eB] at hsucc
    refine seq_k fun q2 n2 _ _ _ _ => ?_
    simp only [wSet, wCB, wLc, wIt, wSl, wNoP, wP, wCons, wNil, wVar, getV, setV, some!, delVs, delV]
    refine sl_rows ?_
    simp only [seqA_rows]
    refine ⟨by rw [List.length_map, List.length_take]; unfold sizeLine; omega, compI_vals _ _ (fun t => .bl (decide (s = t))) trivial (fun t ht R hR => ?_) ?_⟩
    · simp only [gN, setV, wBin, wCB, wCons, wNil, wVar, getV, some!]
      refine tup_same (tup_same ?_)
      simp only [oEq, shD_dT, eqD_dT, true_and]
      exact hR
    refine any_bls ?_
    rw [again_any]
    refine n2 _ _ ?_
    have yes : (decide (s ∈ xs.take n) || xs.any fun o => standsB s o) = true → ∀ x4 x5 x6, wDrop (wMt oAppend (wVar 1) (wCons (wVar 2) wNil)) [some (rows i j xs), some (.ref p), some (.int (n : Int)), some (dR j s), x4, x5, x6] S' q := fun hb x4 x5 x6 => by
      rw [hb, if_pos rfl] at hsucc
      simp only [wDrop, wMt, wCons, wNil, wVar, getV, some!, oAppend, mutL, hS, one, List.length_map]
      exact ⟨by unfold sizeLine; omega, hq _ _ ⟨by rw [hnx, hsucc, List.map_append]; rfl, _, _, _, _, _, rfl⟩⟩
    simp only [wIf, wOr, wTest, wVar, getV, some!]
    cases hb : decide (s ∈ xs.take n) with
    | true =>
      simp only [if_true]
      exact yes (by rw [hb]; rfl) _ _ _
    | false =>
      simp only [Bool.false_eq_true, if_false, wCB, wLc, wIt, wCons, wNil, wVar, getV, some!, seqA_rows, delVs, delV]
      refine ⟨by rw [List.length_map]; unfold sizeLine; omega, compI_vals _ _ (fun o => .bl (standsB s o)) trivial (fun o ho R hR => ?_) ?_⟩
      · simp only [gN, setV, wCall, wCons, wNil, wVar, getV, some!]
        exact ⟨j, j, s, o, rfl, hsl, hs o ho, hR⟩
      refine any_bls ?_
      cases hc : xs.any fun o => standsB s o with
      | true =>
        simp only [if_true]
        exact yes (by rw [hb, hc]; rfl) _ _ _
      | false =>
        simp only [Bool.false_eq_true, if_false, wNext]
        rw [hb, hc] at hsucc
        exact hq _ _ ⟨by rw [hS', hsucc]; rfl, _, _, _, _, _, rfl⟩
  · rintro e S' ⟨rfl, x2, x3, x4, x5, x6, rfl⟩
    rw [enumD_length, List.length_map]
    refine n1 _ _ ?_
    have hA : seqA (put S p (.lst ((needT xs xs.length).map D.int))) (.ref p) = some ((needT xs xs.length).map D.int) := seqA_at put_same
    simp only [wRet, wCB, wCons, wNil, wVar, getV, some!, oTuple, one, hA]
    exact h _ (ext_new hp)
end K93
set_option Elab.async false
set_option linter.all false
set_option maxRecDepth 100000
set_option maxHeartbeats 1000000
namespace K93
open PySem PySem.Spec PyProof.Rows L2 DL
/-! ### the law's own tools -/
def toL (s : List Int) : PyData := .list (s.map PyData.int)
theorem eqv_toL {a b : List Int} : PyData.eqv (toL a) (toL b) = decide (a = b) := by
  show PyData.eqvAll (a.map PyData.int) (b.map PyData.int) = _
  exact eqv_ints
theorem hasD_rowL {h : List Int} {hs : List (List Int)} : hasD (toL h) (hs.map toL) = decide (h ∈ hs) := by
  unfold hasD
  induction hs with
  | nil => rfl
  | cons x r ih =>
    rw [List.map_cons, List.any_cons, ih, eqv_toL]
    by_cases e1 : x = h
    · subst e1; simp
    · by_cases e2 : h ∈ r <;> simp [e1, e2, Ne.symm e1]
theorem in_lists {S : Sto} {neg : Bool} {s : List Int} {ys : List (List Int)} {Q : Qd} (q : Q (.bl (if neg = true then !decide (s ∈ ys) else decide (s ∈ ys))) S) : oInD neg S (dL s) (.lst (ys.map dL)) Q := by
  have e1 : toP (resD S (dL s)) = toL s := toP_dL s
  have e2 : toP (resD S (.lst (ys.map dL))) = .list (ys.map toL) := by
    show PyData.list (toPs (ys.map dL)) = _
    rw [toPs_map (g := toL) toP_dL]
  refine ⟨⟨by rw [e1]; exact lay_ints s, ?_⟩, by rw [e2]; exact lay_all (g := toL) (fun s => lay_ints s) ys, ?_⟩
  · rw [e1]
    show PyData.depthAll (s.map PyData.int) + 1 ≤ 8
    rw [depth_ints]; decide
  · rw [e1, e2]
    show Q (.bl (if neg = true then !hasD (toL s) (ys.map toL) else hasD (toL s) (ys.map toL))) S
    rw [hasD_rowL]
    exact q
theorem in_intT {S : Sto} {l : Int} {s : List Int} {y : Bool} {Q : Qd} (q : Q (.bl (!decide (l ∈ s))) S) : oInD true S (.int l) (dR y s) Q := by
  cases y
  · have ep : toP (resD S (dR false s)) = toL s := toP_dL s
    refine ⟨⟨rfl, Nat.zero_le _⟩, by rw [ep]; exact lay_ints s, ?_⟩
    rw [ep]
    show Q (.bl (!hasD (.int l) (s.map PyData.int))) S
    rw [hasD_int]
    exact q
  · have ep : toP (resD S (dR true s)) = toInt s := toP_dT s
    refine ⟨⟨rfl, Nat.zero_le _⟩, by rw [ep]; exact lay_ints s, ?_⟩
    rw [ep]
    show Q (.bl (!hasD (.int l) (s.map PyData.int))) S
    rw [hasD_int]
    exact q
theorem len__law_needless (c : Cl) : ∀ ds S Q E, sp__law_needless c ds S Q E → ds.length = 1 := by
  rintro ds S Q E ⟨_, rfl, _⟩; rfl
theorem any_take {α : Type} {xs : List α} {f : α → Bool} {k : Nat} {x : α} (h : xs[k]? = some x) : (xs.take (k + 1)).any f = ((xs.take k).any f || f x) := by
  rw [List.take_add_one, h, List.any_append]
  simp
theorem rd__law_needless (c : Cl) : ∀ ds S Q X1, sp__law_needless c ds S Q X1 → w__law_needless c (startD N__law_needless_ ds) S (endQ Q X1) := by
  rintro ds S Q X1 ⟨xs, rfl, hx, h⟩
  have hx6 := hx.1
  show w__law_needless c [some (dRows xs), none, none, none, none, none] S (endQ Q X1)
  unfold w__law_needless
  refine seq_k fun q1 n1 r1 _ _ x1 => ?_
  simp only [wSet, wLstM, wNil, setV]
  refine ⟨Nat.zero_le _, fun p hp => n1 _ _ ?_⟩
  refine seq_k fun q1 n1 r1 _ _ x1 => ?_
  simp only [wFor, wRg1, wCB, wCons, wNil, wVar, getV, some!]
  refine oLen_of (d := dRows xs) rfl ?_
  rw [List.length_map]
  simp only [asI]
  refine ⟨by omega, ?_⟩
  refine forI_invq (fun i e S' => S' = put S p (.lst ((needT xs i).map D.int)) ∧ ∃ (x2 x3 x4 x5 : Option D), e = [some (dRows xs), some (.ref p), x2, x3, x4, x5]) ⟨rfl, none, none, none, none, rfl⟩ (fun _ _ _ _ => trivial) ?_ ?_
  · rintro i e' e S' hi ⟨hS', x2, x3, x4, x5, rfl⟩ q hq _ _ _ _
    obtain ⟨hlt, rfl⟩ := rngD_get hi
    have hil : i < xs.length := by omega
    have hat : xs[i]? = some xs[i] := List.getElem?_eq_getElem hil
    have hs := hx.2 _ (List.mem_of_getElem? hat)
    have eB : needB xs i = (decide (xs[i] ∈ xs.take i) || xs.any fun o => standsB xs[i] o) := by unfold needB; rw [hat]
    generalize xs[i] = s at hat hs eB
    have hsucc := needT_succ (xs := xs) (n := i)
    have hlen := needT_len (xs := xs) (n := i)
    rw [eB] at hsucc
    have ix := fun S Q => oIx_eq (S := S) (x := dRows xs) rfl (at_map hat) Q
    have hS : S' p = some (.lst ((needT xs i).map D.int)) := by rw [hS']; exact put_same
    have hnx : ∀ m, put S' p m = put S p m := fun m => by rw [hS']; exact put_put
    rw [Int.zero_add]
    simp only [gN, setV]
    refine seq_k fun q2 n2 _ _ _ _ => ?_
    simp only [wSet, wBin, wSl, wP, wNoP, wVar, getV, setV, some!, ix]
    have sl : ∀ S Q, oSl S (dRows xs) none (some (i : Int)) Q = Q (.lst ((xs.take i).map dL)) S := fun S Q => by
      simp only [oSl, dRows, seqL, seqM, some!, cutD_take]
    rw [sl]
    refine in_lists (n2 _ _ ?_)
    simp only [Bool.false_eq_true, if_false]
    refine seq_k fun q2 n2 _ _ _ _ => ?_
    simp only [wFor, wIt, wVar, getV, some!]
    have hA : ∀ S, seqA S (dRows xs) = some (xs.map dL) := fun S => rfl
    simp only [hA]
    refine forI_invq (fun j e S2 => S2 = S' ∧ ∃ (x4 x5 : Option D), e = [some (dRows xs), some (.ref p), some (.int (i : Int)), some (.bl (decide (s ∈ xs.take i) || (xs.take j).any fun o => standsB s o)), x4, x5]) ⟨rfl, x4, x5, by simp⟩ (fun _ _ _ z => trivial) ?_ ?_
    · rintro j d e S2 hj ⟨rfl, x4, x5, rfl⟩ q3 hq3 _ _ _ _
      rw [List.getElem?_map] at hj
      obtain ⟨t, ht, rfl⟩ := Option.map_eq_some_iff.mp hj
      have ht4 := hx.2 _ (List.mem_of_getElem? ht)
      rw [any_take ht, ← Bool.or_assoc] at hq3
      generalize (decide (s ∈ xs.take i) || (xs.take j).any fun o => standsB s o) = b0 at hq3 ⊢
      simp only [gN, setV, wFor, wRg1, wBin, wCB, wCons, wNil, wVar, getV, some!, ix]
      refine oLen_of (d := dL s) rfl ?_
      refine oLen_of (d := dL t) rfl ?_
      rw [List.length_map, List.length_map]
      simp only [oSub, oI0, asI]
      refine ⟨by omega, ?_⟩
      refine forI_invq (fun k e S3 => S3 = S2 ∧ ∃ (x5 : Option D), e = [some (dRows xs), some (.ref p), some (.int (i : Int)), some (.bl (b0 || ((List.range (s.length - t.length)).take k).any fun k => decide ((s.drop k).take t.length = t))), some (dL t), x5]) ⟨rfl, x5, by simp⟩ (fun _ _ _ _ => trivial) ?_ ?_
      · rintro k d e S3 hk ⟨rfl, x5, rfl⟩ q4 hq4 _ _ _ _
        obtain ⟨hlt, rfl⟩ := rngD_get hk
        have hkl : k < s.length - t.length := by omega
        rw [any_take (x := k) (by rw [List.getElem?_range hkl])] at hq4
        rw [← Bool.or_assoc] at hq4
        generalize (b0 || ((List.range (s.length - t.length)).take k).any fun k => decide ((s.drop k).take t.length = t)) = b1 at hq4 ⊢
        simp only [gN, setV, wSet, wOrV, wVar, getV, some!]
        cases b1 with
        | true =>
          simp only [if_true]
          exact hq4 _ _ ⟨rfl, _, rfl⟩
        | false =>
          simp only [Bool.false_eq_true, if_false, wBin, wSl, wP, wCB, wCons, wNil, wVar, getV, some!, ix]
          refine oLen_of (d := dL t) rfl ?_
          rw [List.length_map]
          have ad : ∀ i j S Q, oAdd S (.int i) (.int j) Q = Q (.int (i + j)) S := fun _ _ _ _ => rfl
          simp only [ad, Int.zero_add]
          rw [← Int.natCast_add]
          refine sl_mid (y := false) (by omega) (by omega) ?_
          rw [show k + t.length - k = t.length by omega]
          show oEq _ (dL _) (dL _) _
          simp only [oEq, shD_dL, eqD_dL, true_and]
          exact hq4 _ _ ⟨rfl, _, rfl⟩
      · rintro e S3 ⟨rfl, x5, rfl⟩
        refine hq3 _ _ ⟨rfl, some (dL t), x5, ?_⟩
        rw [rngD_length, List.take_of_length_le (by rw [List.length_range]; omega)]
        rfl
    · rintro e S2 ⟨rfl, x4, x5, rfl⟩
      refine n2 _ _ ?_
      rw [List.length_map, List.take_length]
      simp only [wIf, wTest, wVar, getV, some!]
      cases hb : (decide (s ∈ xs.take i) || xs.any fun o => standsB s o) with
      | true =>
        rw [hb, if_pos rfl] at hsucc
        simp only [if_true, wDrop, wMt, wCons, wNil, wVar, getV, some!, oAppend, mutL, hS, one, List.length_map]
        exact ⟨by unfold sizeLine; omega, hq _ _ ⟨by rw [hnx, hsucc, List.map_append]; rfl, _, _, _, _, rfl⟩⟩
      | false =>
        rw [hb] at hsucc
        simp only [Bool.false_eq_true, if_false, wNext]
        exact hq _ _ ⟨by rw [hS', hsucc]; rfl, _, _, _, _, rfl⟩
  · rintro e S' ⟨rfl, x2, x3, x4, x5, rfl⟩
    rw [rngD_length, Int.toNat_natCast]
    refine n1 _ _ ?_
    have hA : seqA (put S p (.lst ((needT xs xs.length).map D.int))) (.ref p) = some ((needT xs xs.length).map D.int) := seqA_at put_same
    simp only [wRet, wCB, wCons, wNil, wVar, getV, some!, oTuple, one, hA]
    exact h _ (ext_new hp)
theorem need_mem {xs : List (List Int)} {k : Nat} (hk : k < xs.length) : decide ((k : Int) ∈ needF xs) = needB xs k := by
  rw [Bool.eq_iff_iff, decide_eq_true_iff]
  unfold needF
  rw [List.mem_map]
  constructor
  · rintro ⟨m, hm, e⟩
    rw [← Int.ofNat.inj e]
    exact (List.mem_filter.mp hm).2
  · intro z
    exact ⟨k, List.mem_filter.mpr ⟨List.mem_range.mpr hk, z⟩, rfl⟩
theorem left_eq {xs : List (List Int)} : leftF xs = ((List.range xs.length).filter fun k => !needB xs k).map fun k => (xs[k]?).getD [] := by
  unfold leftF
  have : ∀ ns : List Nat, (∀ k, k ∈ ns → k < xs.length) → (ns.filterMap fun k => if needB xs k = true then none else xs[k]?) = (ns.filter fun k => !needB xs k).map fun k => (xs[k]?).getD [] := by
    intro ns
    induction ns with
    | nil => intro _; rfl
    | cons k r ih =>
      intro hk
      have h1 := hk k List.mem_cons_self
      have h2 := ih fun m hm => hk m (List.mem_cons_of_mem _ hm)
      rw [List.filterMap_cons]
      cases z : needB xs k with
      | true =>
        rw [if_pos rfl, List.filter_cons_of_neg (by rw [z]; simp)]
        exact h2
      | false =>
        rw [if_neg Bool.false_ne_true, List.filter_cons_of_pos (by rw [z]; rfl), List.map_cons, List.getElem?_eq_getElem h1]
        show xs[k] :: _ = _
        rw [h2]; rfl
  exact this _ fun k hk => List.mem_range.mp hk
theorem len__law_left (c : Cl) : ∀ ds S Q E, sp__law_left c ds S Q E → ds.length = 1 := by
  rintro ds S Q E ⟨_, rfl, _⟩; rfl
theorem rd__law_left (c : Cl) : ∀ ds S Q X1, sp__law_left c ds S Q X1 → w__law_left c (startD N__law_left_ ds) S (endQ Q X1) := by
  rintro ds S Q X1 ⟨xs, rfl, hx, h⟩
  have hx6 := hx.1
  show w__law_left c [some (dRows xs), none, none] S (endQ Q X1)
  unfold w__law_left
  refine seq_k fun q1 n1 r1 _ _ x1 => ?_
  simp only [wSet, wCall, wCons, wNil, wVar, getV, setV, some!]
  refine ⟨xs, rfl, hx, fun S1 e1 => n1 _ _ ?_⟩
  simp only [wRet, wLc, wRg1, wCB, wCons, wNil, wVar, getV, some!]
  refine oLen_of (d := dRows xs) rfl ?_
  rw [List.length_map]
  simp only [asI, delVs, delV]
  rw [rngD_length, Int.toNat_natCast, rng_eq]
  refine ⟨by omega, by unfold sizeLine; omega, compI_filt _ _ (fun k => dL ((xs[k]?).getD [])) (fun k => !needB xs k) trivial (fun k hk R hR => ?_) ?_⟩
  · have hkl := List.mem_range.mp hk
    have hat : xs[k]? = some xs[k] := List.getElem?_eq_getElem hkl
    simp only [gN, setV, wTest, wBin, wVar, getV, some!]
    refine in_intT (y := true) ?_
    rw [need_mem hkl]
    cases z : needB xs k with
    | true =>
      rw [z] at hR
      simp only [Bool.not_true, Bool.false_eq_true, if_false] at hR ⊢
      exact hR
    | false =>
      rw [z] at hR
      simp only [Bool.not_false, if_true] at hR ⊢
      rw [hat] at hR
      exact (oIx_eq (x := dRows xs) rfl (at_map hat) _).mpr hR
  · have e : (((List.range xs.length).filter fun k => !needB xs k).map fun k => dL ((xs[k]?).getD [])) = (leftF xs).map dL := by
      rw [left_eq, List.map_map]; rfl
    rw [e]
    exact h _ e1
theorem rows_ff {xs : List (List Int)} : rows false false xs = dRows xs := rfl
theorem rows_tf {xs : List (List Int)} : rows true false xs = .tup (xs.map dL) := rfl
theorem rows_tt {xs : List (List Int)} : rows true true xs = .tup (xs.map dT) := rfl
theorem need_call {c : Cl} {S : Sto} {Q : Qd} {E : XQ} {xs : List (List Int)} (i j : Bool) (hx : EndsOk xs) (q : ∀ S', Ext S S' → Q (dT (needF xs)) S') : sp_needless_stops c [rows i j xs] S Q E :=
  ⟨i, j, xs, rfl, by have := hx.1; omega, fun s hs => by have := (hx.2 s hs).2; omega, q⟩
theorem plain_need {xs : List (List Int)} (hx : EndsOk xs) : plain 7 (dT (needF xs)) := plain_dT (by
  have h1 : (needF xs).length ≤ xs.length := needT_len (xs := xs) (n := xs.length)
  have h2 := hx.1
  omega)
theorem len__law_told (c : Cl) : ∀ ds S Q E, sp__law_told c ds S Q E → ds.length = 1 := by
  rintro ds S Q E ⟨_, rfl, _⟩; rfl
theorem rd__law_told (c : Cl) : ∀ ds S Q X1, sp__law_told c ds S Q X1 → w__law_told c (startD N__law_told_ ds) S (endQ Q X1) := by
  rintro ds S Q X1 ⟨xs, rfl, hx, h⟩
  have hx6 := hx.1
  show w__law_told c [some (dRows xs), none, none, none, none] S (endQ Q X1)
  unfold w__law_told
  have goL : ∀ (xs : List (List Int)) (S : Sto), seqA S (dRows xs) = some (xs.map dL) := fun xs S => rfl
  refine seq_k fun q1 n1 r1 _ _ x1 => ?_
  simp only [wSet, wCall, wCons, wNil, wVar, getV, setV, some!]
  refine ⟨xs, rfl, hx, fun S1 e1 => n1 _ _ ?_⟩
  have pl := plain_need hx
  refine seq_k fun q1 n1 r1 _ _ x1 => ?_
  simp only [wSet, wLc, wIt, wVar, getV, some!, goL, delVs, delV, setV, List.length_map]
  refine ⟨by unfold sizeLine; omega, compI_vals _ _ dL trivial (fun s hs R hR => ?_) ?_⟩
  · simp only [gN, wYes, if_true, wCB, wCons, wNil, wVar, getV, setV, some!, oList, one, dL, seqA, seqL, seqM]
    exact hR
  refine n1 _ _ ?_
  refine seq_k fun q1 n1 r1 _ _ x1 => ?_
  simp only [wSet, wCall, wCons, wNil, wVar, getV, setV, some!]
  refine need_call false false hx fun S2 e2 => n1 _ _ ?_
  simp only [wRet, wAndV, wCall, wBin, wCB, wCons, wNil, wVar, getV, some!]
  refine same_go pl ?_
  simp only [if_true, oEq, shD_rows, dRows, eqD_rows, decide_true, true_and]
  simp only [oTuple, one, seqA, seqL, seqM, some!]
  refine need_call true false hx fun S3 e3 => ?_
  exact same_go pl (h _ (ext_tr (ext_tr e1 e2) e3))
end K93
set_option Elab.async false
set_option linter.all false
set_option maxRecDepth 100000
set_option maxHeartbeats 1000000
namespace K93
open PySem PySem.Spec PyProof.Rows L2 DL
theorem len__law_stands (c : Cl) : ∀ ds S Q E, sp__law_stands c ds S Q E → ds.length = 2 := by
  rintro ds S Q E ⟨_, _, _, rfl, _⟩; rfl
theorem rd__law_stands (c : Cl) : ∀ ds S Q X1, sp__law_stands c ds S Q X1 → w__law_stands c (startD N__law_stands_ ds) S (endQ Q X1) := by
  rintro ds S Q X1 ⟨y, xs, text, rfl, hx, ht, h⟩
  show w__law_stands c [some (dRows xs), some (dR y text), none, none] S (endQ Q X1)
  unfold w__law_stands
  have ad : ∀ i j S Q, oAdd S (.int i) (.int j) Q = Q (.int (i + j)) S := fun _ _ _ _ => rfl
  refine seq_k fun q1 n1 r1 _ _ x1 => ?_
  simp only [wFor, wRg2, wBin, wCB, wCons, wNil, wVar, wC, getV, some!, asI]
  refine len_dR ?_
  simp only [ad]
  refine ⟨⟨by decide, by decide, by omega, by omega⟩, ?_⟩
  rw [show ((text.length : Int) + 1 - 1).toNat = text.length by omega]
  refine forI_invq (fun i e S' => S' = S ∧ standF xs text = standG xs text (text.length - i) i ∧ ∃ (x2 x3 : Option D), e = [some (dRows xs), some (dR y text), x2, x3]) ⟨rfl, rfl, none, none, rfl⟩ (fun _ _ _ _ => trivial) ?_ ?_
  · rintro i e' e S' hi ⟨rfl, hg, x2, x3, rfl⟩ q hq hrt _ _ _
    obtain ⟨hlt, rfl⟩ := rngD_get hi
    obtain ⟨m, hm⟩ : ∃ m, text.length - i = m + 1 := ⟨text.length - i - 1, by omega⟩
    rw [hm] at hg
    have hg : standF xs text = if 0 < stopF xs (text.take (i + 1)) then (true, ((i + 1 : Nat) : Int) - (stopF xs (text.take (i + 1)) : Nat)) else standG xs text m (i + 1) := hg
    have hm2 : text.length - (i + 1) = m := by omega
    simp only [gN, setV]
    rw [show (1 : Int) + (i : Int) = ((i + 1 : Nat) : Int) by omega]
    refine seq_k fun q2 n2 r2 _ _ _ => ?_
    simp only [wSet, wCall, wSl, wNoP, wP, wCons, wNil, wVar, getV, setV, some!]
    refine sl_to (stopped_callR rfl (n2 _ _ ?_))
    simp only [wIf, wTest, wBin, wVar, wC, getV, some!, oGt, oI0, decide_eq_true_eq]
    split
    · rename_i g
      rw [if_pos (by omega)] at hg
      simp only [wRet, wTup, wBin, wCons, wNil, wVar, wC, getV, some!, oSub, oI0]
      refine ⟨by show 2 ≤ sizeLine; decide, ?_⟩
      rw [hg] at h
      first
        | (rw [hrt, r1]; exact h)
        | exact h
    · rename_i g
      rw [if_neg (by omega)] at hg
      simp only [wNext]
      exact hq _ _ ⟨rfl, by rw [hm2]; exact hg, _, _, rfl⟩
  · rintro e S' ⟨rfl, hg, x2, x3, rfl⟩
    rw [rngD_length, Nat.sub_self] at hg
    have hg : standF xs text = (false, 0) := hg
    rw [hg] at h
    refine n1 _ _ ?_
    simp only [wRet, wTup, wCons, wNil, wC]
    exact ⟨by show 2 ≤ sizeLine; decide, h⟩
theorem shD_stand {S : Sto} {a : Bool × Int} : shD S (dStand a) = true := by
  refine shaped_of (n := 1) (okP_tup fun x hx => ?_) (by decide)
  simp only [List.mem_cons, List.not_mem_nil, or_false] at hx
  rcases hx with rfl | rfl
  · exact okP_bool
  · exact okP_int
theorem eqD_stand {S : Sto} {a b : Bool × Int} : eqD S (dStand a) (dStand b) = decide (a = b) := by
  obtain ⟨a1, a2⟩ := a
  obtain ⟨b1, b2⟩ := b
  show PyData.eqv (.tuple [.bool a1, .int a2]) (.tuple [.bool b1, .int b2]) = _
  simp [PyData.eqv, PyData.eqvAll]
  cases a1 <;> cases b1 <;> simp <;> exact Bool.beq_eq_decide_eq _ _
theorem len__law_parted (c : Cl) : ∀ ds S Q E, sp__law_parted c ds S Q E → ds.length = 3 := by
  rintro ds S Q E ⟨_, _, _, _, rfl, _⟩; rfl
theorem ne_stand {S : Sto} {a b : Bool × Int} {Q : Qd} (q : Q (.bl (decide (a ≠ b))) S) : oNe S (dStand a) (dStand b) Q := by
  refine ⟨shD_stand, shD_stand, ?_⟩
  rw [eqD_stand]
  have : (!decide (a = b)) = decide (a ≠ b) := by by_cases e : a = b <;> simp [e]
  rw [this]
  exact q
theorem rd__law_parted (c : Cl) : ∀ ds S Q X1, sp__law_parted c ds S Q X1 → w__law_parted c (startD N__law_parted_ ds) S (endQ Q X1) := by
  rintro ds S Q X1 ⟨y, xs, ys, text, rfl, hx, hy, ht, h⟩
  show w__law_parted c [some (dRows xs), some (dRows ys), some (dR y text)] S (endQ Q X1)
  unfold w__law_parted
  simp only [wRet, wBin, wCall, wCons, wNil, wVar, getV, some!]
  exact ⟨y, xs, text, rfl, hx, ht, y, ys, text, rfl, hy, ht, ne_stand h⟩
theorem len__law_short_texts (c : Cl) : ∀ ds S Q E, sp__law_short_texts c ds S Q E → ds.length = 3 := by
  rintro ds S Q E ⟨_, _, _, rfl, _⟩; rfl
theorem rd__law_short_texts (c : Cl) : ∀ ds S Q X1, sp__law_short_texts c ds S Q X1 → w__law_short_texts c (startD N__law_short_texts_ ds) S (endQ Q X1) := by
  rintro ds S Q X1 ⟨al, o, m, rfl, hal, h⟩
  show w__law_short_texts c [some (dL al), some (.int o), some (.int m), none, none, none] S (endQ Q X1)
  unfold w__law_short_texts
  refine seq_k fun q1 n1 r1 _ _ x1 => ?_
  simp only [wSet, wLstM, wNil, setV]
  refine ⟨Nat.zero_le _, fun p hp => n1 _ _ ?_⟩
  have hL : ∀ S, seqA S (dL (al ++ [o])) = some ((al ++ [o]).map D.int) := fun _ => rfl
  have hlen : (al ++ [o]).length ≤ 1001 := by rw [List.length_append]; show al.length + 1 ≤ 1001; omega
  have app : ∀ {S' : Sto} {Q : Qd}, Q (dL (al ++ [o])) S' → oAdd S' (dL al) (.lst [.int o]) Q := fun {S' Q} q => oAdd_lst (xs := al.map D.int) rfl (by rw [List.length_map]; show al.length + 1 ≤ _; unfold sizeLine; omega) (by
    have : al.map D.int ++ [D.int o] = (al ++ [o]).map D.int := by rw [List.map_append]; rfl
    rw [this]; exact q)
  have st : ∀ (ts : List (List Int)), put S p (.lst (ts.map dT)) p = some (.lst (ts.map dT)) := fun _ => put_same
  refine seq_k fun q1 n1 r1 _ _ x1 => ?_
  have rest : ∀ ts : List (List Int), ts.length ≤ 1001 → (∀ t, t ∈ ts → (t.length : Int) < m ∧ t.length ≤ 2) → q1.nx [some (dL al), some (.int o), some (.int m), some (.ref p), none, none] (put S p (.lst (ts.map dT))) := by
    intro ts hts hm
    refine n1 _ _ ?_
    refine seq_k fun q2 n2 r2 _ _ _ => ?_
    have fin : ∀ (ts : List (List Int)) x4 x5, (∀ t, t ∈ ts → (t.length : Int) < m ∧ t.length ≤ 2) → q2.nx [some (dL al), some (.int o), some (.int m), some (.ref p), x4, x5] (put S p (.lst (ts.map dT))) := fun ts x4 x5 hm => by
      refine n2 _ _ ?_
      simp only [wRet, wFrz, wVar, getV, some!, frzD, st]
      exact h ts hm _ fun a n e => by rw [del_ne (fun z => by rw [z, hp] at e; cases e), put_ne (fun z => by rw [z, hp] at e; cases e)]; exact e
    simp only [wIf, wTest, wBin, wVar, wC, getV, some!, oGt, oI0, decide_eq_true_eq]
    split
    · rename_i g
      simp only [wFor, wIt, wBin, wLst, wCons, wNil, wVar, getV, some!]
      refine ⟨by show 1 ≤ sizeLine; decide, app ?_⟩
      simp only [hL]
      refine forI_invq (fun i e S' => ∃ (ts : List (List Int)) (x4 x5 : Option D), S' = put S p (.lst (ts.map dT)) ∧ ts.length ≤ 1001 + i * 1001 ∧ (∀ t, t ∈ ts → (t.length : Int) < m ∧ t.length ≤ 2) ∧ e = [some (dL al), some (.int o), some (.int m), some (.ref p), x4, x5])
        ⟨ts, none, none, rfl, by omega, hm, rfl⟩ (fun _ _ _ _ => trivial) ?_ ?_
      · rintro i d e S' hi ⟨ts, x4, x5, rfl, hts, hm, rfl⟩ q3 hq3 _ _ _ _
        have hil := lt_of_some hi
        rw [List.getElem?_map] at hi
        obtain ⟨l, hl, rfl⟩ := Option.map_eq_some_iff.mp hi
        rw [List.length_map] at hil
        simp only [gN, setV, wDrop, wMt, wLc, wIt, wBin, wLst, wCons, wNil, wVar, getV, some!, mutL, st, delVs, delV]
        refine ⟨by show 1 ≤ sizeLine; decide, app ?_⟩
        simp only [hL, List.length_map]
        refine ⟨by unfold sizeLine; omega, compI_vals _ _ (fun k => dT [l, k]) trivial (fun k hk R hR => ?_) ?_⟩
        · simp only [gN, setV, wTup, wCons, wNil, wVar, getV, some!]
          exact ⟨by show 2 ≤ sizeLine; decide, hR⟩
        · have e1 : ((al ++ [o]).map fun k => dT [l, k]) = ((al ++ [o]).map fun k => [l, k]).map dT := by rw [List.map_map]; rfl
          rw [e1]
          simp only [oExtend, mutL, st, one, seqM, some!, put_put, ← List.map_append]
          refine ⟨by rw [List.length_map, List.length_map, List.length_map]; unfold sizeLine; have : i * 1001 ≤ 1001 * 1001 := Nat.mul_le_mul_right _ (by omega); omega, hq3 _ _ ⟨ts ++ (al ++ [o]).map fun k => [l, k], _, _, rfl, ?_, fun t ht => ?_, rfl⟩⟩
          · rw [List.length_append, List.length_map]; omega
          · rcases List.mem_append.mp ht with ht | ht
            · exact hm t ht
            · obtain ⟨k, _, rfl⟩ := List.mem_map.mp ht
              exact ⟨by show (2 : Int) < m; omega, by show 2 ≤ 2; omega⟩
      · rintro e S' ⟨ts, x4, x5, rfl, _, hm, rfl⟩
        exact fin ts _ _ hm
    · simp only [wNext]
      exact fin ts _ _ hm
  simp only [wIf, wTest, wBin, wVar, wC, getV, some!, oGt, oI0, decide_eq_true_eq]
  split
  · rename_i g
    have st0 : put S p (.lst []) p = some (.lst []) := put_same
    simp only [wDrop, wMt, wLc, wIt, wBin, wLst, wCons, wNil, wVar, getV, some!, mutL, st0, delVs, delV]
    refine ⟨by show 1 ≤ sizeLine; decide, app ?_⟩
    simp only [hL, List.length_map]
    refine ⟨by unfold sizeLine; omega, compI_vals _ _ (fun k => dT [k]) trivial (fun k hk R hR => ?_) ?_⟩
    · simp only [gN, setV, wTup, wCons, wNil, wVar, getV, some!]
      exact ⟨by show 1 ≤ sizeLine; decide, hR⟩
    · have e1 : ((al ++ [o]).map fun k => dT [k]) = ((al ++ [o]).map fun k => [k]).map dT := by rw [List.map_map]; rfl
      rw [e1]
      simp only [oExtend, mutL, st0, one, seqM, some!, put_put, List.nil_append]
      refine ⟨by rw [List.length_map, List.length_map]; unfold sizeLine; show 0 + _ ≤ _; omega, rest ((al ++ [o]).map fun k => [k]) (by rw [List.length_map]; exact hlen) fun t ht => ?_⟩
      obtain ⟨k, _, rfl⟩ := List.mem_map.mp ht
      exact ⟨by show (1 : Int) < m; omega, by show 1 ≤ 2; omega⟩
  · simp only [wNext]
    exact rest [] (Nat.zero_le _) fun t ht => by cases ht
end K93
set_option Elab.async false
set_option linter.all false
set_option maxRecDepth 100000
set_option maxHeartbeats 1000000
namespace K93
open PySem PySem.Spec PyProof.Rows L2 DL
/-! ### two lists compared -/
theorem ite_R {α : Type} {b : Bool} {x y : α} {R : α → Sto → Prop} {S : Sto} (h : R (if b = true then x else y) S) : if b = true then R x S else R y S := by
  cases b <;> exact h
def unF (xs ys : List (List Int)) : List (List Int) := (leftF xs).filter (fun s => !decide (s ∈ leftF ys)) ++ (leftF ys).filter (fun s => !decide (s ∈ leftF xs))
theorem un_iff {xs ys : List (List Int)} {s : List Int} : s ∈ unF xs ys ↔ Dif xs ys s := by
  unfold unF Dif
  rw [List.mem_append, List.mem_filter, List.mem_filter]
  simp only [Bool.not_eq_true', decide_eq_false_iff_not, need_left]
theorem un_len {xs ys : List (List Int)} (hx : EndsOk xs) (hy : EndsOk ys) : (unF xs ys).length ≤ 12 := by
  unfold unF
  rw [List.length_append]
  have a := List.length_filter_le (fun s => !decide (s ∈ leftF ys)) (leftF xs)
  have b := List.length_filter_le (fun s => !decide (s ∈ leftF xs)) (leftF ys)
  have c := (left_ok hx).1
  have d := (left_ok hy).1
  omega
theorem cmp_none {xs ys : List (List Int)} (hx : EndsOk xs) (hy : EndsOk ys) (h : unF xs ys = []) : partF xs ys = none := by
  cases e : partF xs ys with
  | none => rfl
  | some t =>
    have := un_iff.mpr (part_is hx hy e).1
    rw [h] at this
    cases this
theorem cmp_some {xs ys : List (List Int)} (hx : EndsOk xs) (hy : EndsOk ys) {d : List Int} (h : d ∈ unF xs ys) (m : ∀ r, r ∈ unF xs ys → code d ≤ code r) : partF xs ys = some d := by
  have hd := un_iff.mp h
  cases e : partF xs ys with
  | none => exact absurd hd (part_not hx hy e d)
  | some t =>
    obtain ⟨h1, _, h2⟩ := part_is hx hy e
    have a := h2 d hd
    have b := m t (un_iff.mpr h1)
    rw [code_inj _ t d rfl (dif_lo hx hy h1).1 (dif_lo hx hy hd).1 (by omega)]
theorem parted_yes {xs ys : List (List Int)} (hx : EndsOk xs) (hy : EndsOk ys) {t : List Int} (h : partF xs ys = some t) : partedB xs ys t = true := decide_eq_true (parted_part (part_is hx hy h).2.1)
theorem parted_no {xs ys : List (List Int)} (hx : EndsOk xs) (hy : EndsOk ys) {t text : List Int} (h : partF xs ys = some t) (hl : text.length < t.length) : partedB xs ys text = false := by
  refine decide_eq_false fun z => ?_
  obtain ⟨s, d, sl⟩ := parted_dif hx hy z
  obtain ⟨h1, _, h2⟩ := part_is hx hy h
  have a := h2 s d
  have b := code_short (dif_lo hx hy d).1 (dif_lo hx hy h1).1 (show s.length < t.length by omega)
  omega
theorem rows_lst {S : Sto} {ys : List (List Int)} : Rows S (.lst (ys.map dT)) ys := ⟨_, rfl, List.length_map _, fun i e s h1 h2 => by
  rw [List.getElem?_map, h2] at h1
  cases h1; rfl⟩
theorem outside {al : List Int} (h : al.length ≤ 3) : 0 < ((List.range 12).filter fun (k : Nat) => !decide ((k : Int) ∈ al)).length := by
  refine Nat.pos_of_ne_zero fun z => ?_
  have e := List.length_eq_zero_iff.mp z
  have all : ∀ k, k < 12 → ((k : Nat) : Int) ∈ al := fun k hk => by
    refine Classical.byContradiction fun y => ?_
    have : k ∈ (List.range 12).filter fun (k : Nat) => !decide ((k : Int) ∈ al) := List.mem_filter.mpr ⟨List.mem_range.mpr hk, by rw [decide_eq_false y]; rfl⟩
    rw [e] at this
    cases this
  have hn : ((List.range 12).map fun (k : Nat) => (k : Int)).Nodup := by decide
  have := nodup_le hn fun x hx => by
    obtain ⟨k, hk, rfl⟩ := List.mem_map.mp hx
    exact all k (List.mem_range.mp hk)
  rw [List.length_map, List.length_range] at this
  omega
theorem len__law_compared (c : Cl) : ∀ ds S Q E, sp__law_compared c ds S Q E → ds.length = 3 := by
  rintro ds S Q E ⟨_, _, _, rfl, _⟩; rfl
theorem rd__law_compared (c : Cl) : ∀ ds S Q X1, sp__law_compared c ds S Q X1 → w__law_compared c (startD N__law_compared_ ds) S (endQ Q X1) := by
  rintro ds S Q X1 ⟨al, xs, ys, rfl, ⟨al0, al3⟩, hx, hy, h⟩
  have hx6 := hx.1
  have hy6 := hy.1
  have lx6 := (left_ok hx).1
  have ly6 := (left_ok hy).1
  show w__law_compared c [some (dL al), some (dRows xs), some (dRows ys), none, none, none, none, none, none, none, none, none, none, none, none] S (endQ Q X1)
  unfold w__law_compared
  have goL : ∀ (xs : List (List Int)) (S : Sto), seqA S (dRows xs) = some (xs.map dL) := fun xs S => rfl
  refine seq_k fun q1 n1 r1 _ _ x1 => ?_
  simp only [wSet, wCall, wCons, wNil, wVar, getV, setV, some!]
  refine ⟨xs, rfl, hx, fun S1 e1 => n1 _ _ ?_⟩
  refine seq_k fun q1 n1 r1 _ _ x1 => ?_
  simp only [wSet, wCall, wCons, wNil, wVar, getV, setV, some!]
  refine ⟨ys, rfl, hy, fun S2 e2 => n1 _ _ ?_⟩
  have e2 := ext_tr e1 e2
  clear e1
  have hunl := un_len hx hy
  have hun0 := cmp_none hx hy
  have hun1 := fun d => cmp_some hx hy (d := d)
  have hund : ∀ s, s ∈ unF xs ys → LO s ∧ s.length ≤ 4 := fun s hs => by
    rcases un_iff.mp hs with ⟨⟨g, _⟩, _⟩ | ⟨⟨g, _⟩, _⟩
    · exact ⟨(hx.2 s g).2.2, (hx.2 s g).2.1⟩
    · exact ⟨(hy.2 s g).2.2, (hy.2 s g).2.1⟩
  refine seq_k fun q1 n1 r1 _ _ x1 => ?_
  simp only [wSet, wBin, wLc, wIt, wVar, getV, some!, goL, delVs, delV, setV, List.length_map]
  refine ⟨by unfold sizeLine; omega, compI_filt _ _ dL (fun s => !decide (s ∈ leftF ys)) trivial (fun s hs R hR => ?_) ?_⟩
  · simp only [gN, setV, wTest, wBin, wVar, getV, some!]
    refine in_lists (S := S2) ?_
    simp only [if_true]
    exact ite_R hR
  refine ⟨by unfold sizeLine; omega, compI_filt _ _ dL (fun s => !decide (s ∈ leftF xs)) trivial (fun s hs R hR => ?_) ?_⟩
  · simp only [gN, setV, wTest, wBin, wVar, getV, some!]
    refine in_lists (S := S2) ?_
    simp only [if_true]
    exact ite_R hR
  refine add_rows (by unfold unF at hunl; rw [List.length_append] at hunl; omega) (n1 _ _ ?_)
  have eun : (leftF xs).filter (fun s => !decide (s ∈ leftF ys)) ++ (leftF ys).filter (fun s => !decide (s ∈ leftF xs)) = unF xs ys := rfl
  rw [eun]
  generalize dRows (leftF xs) = d3
  generalize dRows (leftF ys) = d4
  refine seq_k fun q1 n1 r1 _ _ x1 => ?_
  simp only [wSet, wLc, wIt, wVar, getV, some!, goL, delVs, delV, setV, List.length_map]
  refine ⟨by unfold sizeLine; omega, compI_vals _ _ dL trivial (fun s hs R hR => ?_) ?_⟩
  · simp only [gN, wYes, if_true, wCB, wCons, wNil, wVar, getV, setV, some!, oList, one, dL, seqA, seqL, seqM]
    exact hR
  refine n1 _ _ ?_
  refine seq_k fun q1 n1 r1 _ _ x1 => ?_
  simp only [wSet, wCall, wLc, wIt, wCons, wNil, wVar, getV, some!, goL, delVs, delV, setV, List.length_map]
  refine ⟨by unfold sizeLine; omega, compI_vals _ _ dT trivial (fun s hs R hR => ?_) ?_⟩
  · simp only [gN, wYes, if_true, wCB, wCons, wNil, wVar, getV, setV, some!, oTuple, one, dL, seqA, seqL, seqM]
    exact hR
  refine ⟨_, _, xs, ys, rfl, rows_of (d := dRows xs) rfl, rows_lst, hx, hy, fun S3 e3 => n1 _ _ ?_⟩
  have e3 := ext_tr e2 e3
  clear e2
  refine seq_k fun q1 n1 r1 _ _ x1 => ?_
  simp only [wIf, wTest, wBin, wVar, wC, getV, some!]
  refine ne_rows (xs := xs) (show RowsL S3 (dRows xs) xs from rfl) (show RowsL S3 (dRows xs) xs from rfl) (fun ys z => by cases z) (fun ys z => by cases z) ?_
  simp only [Bool.false_eq_true, if_false, wNext]
  refine n1 _ _ ?_
  have pyes := fun t => parted_yes hx hy (t := t)
  have pno := fun t text => parted_no hx hy (t := t) (text := text)
  refine seq_k fun q1 n1 r1 _ _ x1 => ?_
  simp only [wIf, wTest, wBin, wCB, wCons, wNil, wVar, wC, getV, some!]
  refine oLen_of (d := dRows (unF xs ys)) rfl ?_
  rw [List.length_map]
  simp only [oEq, shD_int, eqD_int, true_and, decide_eq_true_eq]
  split
  · rename_i g
    have eu : unF xs ys = [] := List.length_eq_zero_iff.mp (by omega)
    rw [hun0 eu]
    simp only [wRet, wBin, wVar, wC, getV, some!]
    rw [r1]
    exact h _ e3
  · rename_i g
    simp only [wNext]
    refine n1 _ _ ?_
    have hpos : 0 < (unF xs ys).length := by omega
    have hat0 : (unF xs ys)[0]? = some ((unF xs ys)[0]'hpos) := List.getElem?_eq_getElem hpos
    generalize unF xs ys = un at *
    clear eun hun0
    generalize hpt : partF xs ys = pt at *
    refine seq_k fun q1 n1 r1 _ _ x1 => ?_
    simp only [wSet, wBin, wVar, wC, getV, setV, some!]
    refine (oIx_eq (x := dRows un) rfl (at_map (k := 0) hat0) _).mpr (n1 _ _ ?_)
    have hm0 := List.mem_of_getElem? hat0
    generalize un[0] = u0 at hat0 hm0
    refine seq_k fun q1 n1 r1 _ _ x1 => ?_
    simp only [wFor, wIt, wVar, getV, some!, goL]
    refine forI_invq (fun i e S' => S' = S3 ∧ ∃ (due : List Int) (x9 : Option D), due ∈ un ∧ (∀ (j : Nat) r, j < i → un[j]? = some r → code due ≤ code r) ∧ e = [some (dL al), some (dRows xs), some (dRows ys), some d3, some d4, some (dRows un), some (.lst (xs.map dL)), some (dPart pt), some (dL due), x9, none, none, none, none, none])
      ⟨rfl, u0, none, hm0, fun j r hj => absurd hj (Nat.not_lt_zero _), rfl⟩ (fun _ _ _ _ => trivial) ?_ ?_
    · rintro i d e S' hi ⟨rfl, due, x9, hdue, hle, rfl⟩ q hq _ _ _ _
      rw [List.getElem?_map] at hi
      obtain ⟨r, hr, rfl⟩ := Option.map_eq_some_iff.mp hi
      have hrm := List.mem_of_getElem? hr
      obtain ⟨lr, lr4⟩ := hund r hrm
      obtain ⟨ld, ld4⟩ := hund due hdue
      have yes : code r ≤ code due → wSet 8 (wVar 9) [some (dL al), some (dRows xs), some (dRows ys), some d3, some d4, some (dRows un), some (.lst (xs.map dL)), some (dPart pt), some (dL due), some (dL r), none, none, none, none, none] S' q := fun hc => by
        simp only [wSet, wVar, getV, setV, some!]
        refine hq _ _ ⟨rfl, r, _, hrm, fun j r' hj hr' => ?_, rfl⟩
        by_cases ej : j = i
        · subst ej
          rw [hr] at hr'
          cases hr'
          exact Int.le_refl _
        · have := hle j r' (by omega) hr'
          omega
      have no : code due ≤ code r → wNext [some (dL al), some (dRows xs), some (dRows ys), some d3, some d4, some (dRows un), some (.lst (xs.map dL)), some (dPart pt), some (dL due), some (dL r), none, none, none, none, none] S' q := fun hc => by
        simp only [wNext]
        refine hq _ _ ⟨rfl, due, _, hdue, fun j r' hj hr' => ?_, rfl⟩
        by_cases ej : j = i
        · subst ej
          rw [hr] at hr'
          cases hr'
          exact hc
        · exact hle j r' (by omega) hr'
      simp only [gN, setV, wIf, wOr, wAnd, wTest, wBin, wCB, wCons, wNil, wVar, getV, some!]
      refine oLen_of (d := dL r) rfl (oLen_of (d := dL due) rfl ?_)
      rw [List.length_map, List.length_map]
      simp only [oLt, oI0]
      by_cases z : r.length < due.length
      · rw [decide_eq_true (show (r.length : Int) < (due.length : Int) by omega)]
        simp only [if_true]
        exact yes (by have := code_short lr ld z; omega)
      · rw [decide_eq_false (show ¬ (r.length : Int) < (due.length : Int) by omega)]
        simp only [Bool.false_eq_true, if_false]
        refine oLen_of (d := dL r) rfl (oLen_of (d := dL due) rfl ?_)
        rw [List.length_map, List.length_map]
        simp only [oEq, shD_int, eqD_int, true_and]
        by_cases y : r.length = due.length
        · rw [decide_eq_true (show (r.length : Int) = (due.length : Int) by omega)]
          simp only [if_true]
          refine lt_go y lr ld ?_
          by_cases x : code r < code due
          · simp only [decide_eq_true x, if_true]
            exact yes (by omega)
          · simp only [decide_eq_false x, Bool.false_eq_true, if_false]
            exact no (by omega)
        · rw [decide_eq_false (show ¬ (r.length : Int) = (due.length : Int) by omega)]
          simp only [Bool.false_eq_true, if_false]
          exact no (by have := code_short ld lr (by omega); omega)
    · rintro e S' ⟨rfl, due, x9, hdue, hle, rfl⟩
      rw [List.length_map] at hle
      have ept := hun1 due hdue fun r hr => by
        obtain ⟨j, hj⟩ := List.mem_iff_getElem?.mp hr
        exact hle j r (lt_of_some hj) hj
      subst ept
      obtain ⟨ldue, ldue4⟩ := hund due hdue
      have pl : plain 7 (dT due) := plain_dT (by omega)
      refine n1 _ _ ?_
      show (wSeq _ _) [some (dL al), some (dRows xs), some (dRows ys), some d3, some d4, some (dRows un), some (.lst (xs.map dL)), some (dT due), some (dL due), x9, none, none, none, none, none] S' _
      refine seq_k fun q1 n1 r1 _ _ x1 => ?_
      simp only [wIf, wOr, wNot, wTest, wCall, wCB, wCons, wNil, wVar, wC, getV, some!]
      refine tup_same (y := false) (same_go pl ?_)
      simp only [Bool.not_true, Bool.false_eq_true, if_false]
      refine ⟨true, xs, ys, due, rfl, hx, hy, by omega, ?_⟩
      rw [pyes due rfl]
      simp only [Bool.not_true, Bool.false_eq_true, if_false, wNext]
      refine n1 _ _ ?_
      refine seq_k fun q1 n1 r1 _ _ x1 => ?_
      simp only [wFor, wRg1, wCB, wCons, wNil, wVar, getV, some!]
      refine len_dR (y := true) ?_
      simp only [asI]
      refine ⟨by omega, ?_⟩
      refine forI_invq (fun i e S2 => S2 = S' ∧ ∃ (x10 : Option D), e = [some (dL al), some (dRows xs), some (dRows ys), some d3, some d4, some (dRows un), some (.lst (xs.map dL)), some (dT due), some (dL due), x9, x10, none, none, none, none])
        ⟨rfl, none, rfl⟩ (fun _ _ _ _ => trivial) ?_ ?_
      · rintro i d e S2 hi ⟨rfl, x10, rfl⟩ q hq _ _ _ _
        obtain ⟨hlt, rfl⟩ := rngD_get hi
        rw [Int.zero_add]
        simp only [gN, setV, wIf, wTest, wCall, wSl, wNoP, wP, wCons, wNil, wVar, getV, some!]
        refine sl_to (y := true) ⟨true, xs, ys, _, rfl, hx, hy, by rw [List.length_take]; omega, ?_⟩
        rw [pno due _ rfl (by rw [List.length_take]; omega)]
        simp only [Bool.false_eq_true, if_false, wNext]
        exact hq _ _ ⟨rfl, _, rfl⟩
      · rintro e S2 ⟨rfl, x10, rfl⟩
        refine n1 _ _ ?_
        refine seq_k fun q1 n1 r1 _ _ x1 => ?_
        simp only [wSet, wCB, wLc, wRg1, wC, wCons, wNil, asI, delVs, delV, setV]
        rw [rngD_length, show (12 : Int).toNat = 12 from rfl, rng_eq]
        refine ⟨⟨by decide, by decide⟩, by unfold sizeLine; decide, compI_filt _ _ (fun (k : Nat) => .int (k : Int)) (fun (k : Nat) => !decide ((k : Int) ∈ al)) trivial (fun k hk R hR => ?_) ?_⟩
        · simp only [gN, setV, wTest, wBin, wVar, getV, some!]
          refine in_intT (y := false) ?_
          exact ite_R hR
        · have hout := outside al3
          have ei : (((List.range 12).filter fun (k : Nat) => !decide ((k : Int) ∈ al)).map fun (k : Nat) => D.int (k : Int)) = (((List.range 12).filter fun (k : Nat) => !decide ((k : Int) ∈ al)).map fun (k : Nat) => (k : Int)).map D.int := by rw [List.map_map]; rfl
          rw [ei]
          simp only [oMinL, one, seqL, seqM, some!, toInts_map]
          refine ⟨by rw [List.length_map]; exact hout, fun o _ _ => n1 _ _ ?_⟩
          refine seq_k fun q1 n1 r1 _ _ x1 => ?_
          simp only [wFor, wIt, wCall, wCB, wCons, wNil, wVar, getV, some!]
          refine len_dR (y := true) ?_
          refine ⟨al, o, _, rfl, by omega, fun ts hts S4 e4 => ?_⟩
          have goT : ∀ S, seqA S (.lst (ts.map dT)) = some (ts.map dT) := fun S => rfl
          simp only [goT]
          refine forI_invq (fun i e S5 => S5 = S4 ∧ ∃ (x12 : Option D), e = [some (dL al), some (dRows xs), some (dRows ys), some d3, some d4, some (dRows un), some (.lst (xs.map dL)), some (dT due), some (dL due), x9, x10, some (.int o), x12, none, none])
            ⟨rfl, none, rfl⟩ (fun _ _ _ _ => trivial) ?_ ?_
          · rintro i d e S5 hi ⟨rfl, x12, rfl⟩ q hq _ _ _ _
            rw [List.getElem?_map] at hi
            obtain ⟨t, ht, rfl⟩ := Option.map_eq_some_iff.mp hi
            obtain ⟨t1, t2⟩ := hts t (List.mem_of_getElem? ht)
            simp only [gN, setV, wIf, wTest, wCall, wCons, wNil, wVar, getV, some!]
            refine ⟨true, xs, ys, t, rfl, hx, hy, by omega, ?_⟩
            rw [pno due _ rfl (by omega)]
            simp only [Bool.false_eq_true, if_false, wNext]
            exact hq _ _ ⟨rfl, _, rfl⟩
          · rintro e S5 ⟨rfl, x12, rfl⟩
            refine n1 _ _ ?_
            simp only [wRet, wC]
            exact h _ (ext_tr e3 e4)
end K93
set_option Elab.async false
set_option linter.all false
set_option maxRecDepth 100000
set_option maxHeartbeats 1000000
namespace K93
open PySem PySem.Spec PyProof.Rows L2 DL
theorem len__law_left_out (c : Cl) : ∀ ds S Q E, sp__law_left_out c ds S Q E → ds.length = 3 := by
  rintro ds S Q E ⟨_, _, _, rfl, _⟩; rfl
theorem ends_filter {xs : List (List Int)} (hx : EndsOk xs) (p : List Int → Bool) : EndsOk (xs.filter p) :=
  ⟨Nat.le_trans (List.length_filter_le p xs) hx.1, fun s hs => hx.2 s (List.mem_filter.mp hs).1⟩
theorem rd__law_left_out (c : Cl) : ∀ ds S Q X1, sp__law_left_out c ds S Q X1 → w__law_left_out c (startD N__law_left_out_ ds) S (endQ Q X1) := by
  rintro ds S Q X1 ⟨p, al, xs, rfl, hp, ⟨al0, al3, all⟩, hx, h⟩
  have hx6 := hx.1
  have hr := left_ok hx
  have hr6 := hr.1
  show w__law_left_out c [some (.ref p), some (dL al), some (dRows xs), none, none, none, none, none, none] S (endQ Q X1)
  unfold w__law_left_out
  have goL : ∀ (xs : List (List Int)) (S : Sto), seqA S (dRows xs) = some (xs.map dL) := fun xs S => rfl
  obtain ⟨pn1, pn2⟩ := part_left hx
  have hst := stand_left hx
  refine seq_k fun q1 n1 r1 _ _ x1 => ?_
  simp only [wSet, wCall, wCons, wNil, wVar, getV, setV, some!]
  refine ⟨xs, rfl, hx, fun S1 e1 => n1 _ _ ?_⟩
  have hp := isHand_ext hp e1
  clear e1
  refine seq_k fun q1 n1 r1 _ _ x1 => ?_
  simp only [wSet, wCall, wCons, wNil, wVar, getV, setV, some!]
  refine ⟨xs, rfl, hx, fun S2 e2 => n1 _ _ ?_⟩
  have hp := isHand_ext hp e2
  clear e2
  generalize hrs : leftF xs = rs at *
  refine seq_k fun q1 n1 r1 _ _ x1 => ?_
  simp only [wIf, wTest, wBin, wCall, wLc, wIt, wCons, wNil, wVar, wC, getV, some!, goL, delVs, delV, setV, List.length_map]
  refine ⟨by unfold sizeLine; omega, compI_vals _ _ dL trivial (fun s hs R hR => ?_) ?_⟩
  · simp only [gN, wYes, if_true, wCB, wCons, wNil, wVar, getV, setV, some!, oList, one, dL, seqA, seqL, seqM]
    exact hR
  refine ⟨by unfold sizeLine; omega, compI_vals _ _ dL trivial (fun s hs R hR => ?_) ?_⟩
  · simp only [gN, wYes, if_true, wCB, wCons, wNil, wVar, getV, setV, some!, oList, one, dL, seqA, seqL, seqM]
    exact hR
  refine ⟨_, _, xs, rs, rfl, rows_of (d := dRows xs) rfl, rows_of (d := dRows rs) rfl, hx, hr, fun S3 e3 => ?_⟩
  have hp := isHand_ext hp e3
  clear e3
  rw [pn1]
  have nn : ∀ S Q, oNotN S (dPart none) .non Q = Q (.bl false) S := fun _ _ => rfl
  simp only [nn, Bool.false_eq_true, if_false, wNext]
  refine n1 _ _ ?_
  refine seq_k fun q1 n1 r1 _ _ x1 => ?_
  simp only [wIf, wTest, wBin, wCall, wLc, wIt, wCons, wNil, wVar, wC, getV, some!, goL, delVs, delV, setV, List.length_map]
  refine ⟨by unfold sizeLine; omega, compI_vals _ _ dL trivial (fun s hs R hR => ?_) ?_⟩
  · simp only [gN, wYes, if_true, wCB, wCons, wNil, wVar, getV, setV, some!, oList, one, dL, seqA, seqL, seqM]
    exact hR
  refine ⟨by unfold sizeLine; omega, compI_vals _ _ dL trivial (fun s hs R hR => ?_) ?_⟩
  · simp only [gN, wYes, if_true, wCB, wCons, wNil, wVar, getV, setV, some!, oList, one, dL, seqA, seqL, seqM]
    exact hR
  refine ⟨_, _, rs, xs, rfl, rows_of (d := dRows rs) rfl, rows_of (d := dRows xs) rfl, hr, hx, fun S4 e4 => ?_⟩
  have hp := isHand_ext hp e4
  clear e4
  rw [pn2]
  simp only [nn, Bool.false_eq_true, if_false, wNext]
  refine n1 _ _ ?_
  refine seq_k fun q1 n1 r1 _ _ x1 => ?_
  simp only [wSet, wCall, wCons, wNil, wVar, wC, getV, setV, some!]
  refine ⟨p, al, 0, 20, rfl, hp, ⟨al0, by omega, all⟩, ⟨by decide, by decide, by decide, by decide⟩, fun t _ ⟨ht, _⟩ k hk => n1 _ _ ?_⟩
  have hp := isHand_put (S := S4) (p := p) hk
  generalize put S4 p (handMO k) = S5 at hp
  have ht2 : t.length ≤ 1000 := by omega
  refine seq_k fun q1 n1 r1 _ _ x1 => ?_
  simp only [wIf, wNot, wTest, wCall, wCons, wNil, wVar, wC, getV, some!]
  refine ⟨false, xs, t, rfl, hx, ht2, fun S6 e6 => ⟨false, xs, t, rfl, hx, ht2, fun S7 e7 => ?_⟩⟩
  have hp := isHand_ext (isHand_ext hp e6) e7
  clear e6 e7
  refine same_go (plain_fed ht2) ?_
  simp only [Bool.not_true, Bool.false_eq_true, if_false, wNext]
  refine n1 _ _ ?_
  refine seq_k fun q1 n1 r1 _ _ x1 => ?_
  simp only [wIf, wNot, wTest, wCall, wCons, wNil, wVar, wC, getV, some!]
  refine ⟨false, rs, t, rfl, hr, ht2, fun S8 e8 => ⟨false, rs, t, rfl, hr, ht2, fun S9 e9 => ?_⟩⟩
  have hp := isHand_ext (isHand_ext hp e8) e9
  clear e8 e9
  refine same_go (plain_fed ht2) ?_
  simp only [Bool.not_true, Bool.false_eq_true, if_false, wNext]
  refine n1 _ _ ?_
  refine seq_k fun q1 n1 r1 _ _ x1 => ?_
  simp only [wIf, wTest, wBin, wCall, wCons, wNil, wVar, wC, getV, some!]
  refine ⟨false, xs, t, rfl, hx, ht2, false, rs, t, rfl, hr, ht2, ne_stand ?_⟩
  rw [decide_eq_false (fun z => z (hst t))]
  simp only [Bool.false_eq_true, if_false, wNext]
  refine n1 _ _ ?_
  clear hst pn1 pn2
  refine seq_k fun q1 n1 r1 _ _ x1 => ?_
  simp only [wFor, wRg1, wCB, wCons, wNil, wVar, getV, some!]
  refine oLen_of (d := dRows xs) rfl ?_
  rw [List.length_map]
  simp only [asI]
  refine ⟨by omega, ?_⟩
  refine forI_invq (fun i e S' => IsHand S' p ∧ ∃ (x6 x7 x8 : Option D), e = [some (.ref p), some (dL al), some (dRows xs), some (dT (needF xs)), some (dRows rs), some (dL t), x6, x7, x8]) ⟨hp, none, none, none, rfl⟩ (fun _ _ _ _ => trivial) ?_ ?_
  · clear hp
    rintro i e' e S' hi ⟨hp, x6, x7, x8, rfl⟩ q hq _ _ _ _
    obtain ⟨hlt, rfl⟩ := rngD_get hi
    have hil : i < xs.length := by omega
    have hat : xs[i]? = some xs[i] := List.getElem?_eq_getElem hil
    generalize xs[i] = u at hat
    rw [Int.zero_add]
    simp only [gN, setV, wIf, wAnd, wTest, wBin, wVar, getV, some!]
    refine in_intT (y := true) ?_
    cases hn : !decide ((i : Int) ∈ needF xs) with
    | false =>
      simp only [Bool.false_eq_true, if_false, wNext]
      exact hq _ _ ⟨hp, _, _, _, rfl⟩
    | true =>
      simp only [if_true, wCall, wCons, wNil, wVar, wC, getV, some!]
      refine hand_go hp ⟨by decide, by decide⟩ fun r S6 r0 r1' hp => ?_
      simp only [oEq, shD_int, eqD_int, true_and, decide_eq_true_eq]
      split
      · refine seq_k fun q2 n2 _ _ _ _ => ?_
        simp only [wSet, wLc, wIt, wVar, getV, some!, goL, delVs, delV, setV, List.length_map]
        refine ⟨by unfold sizeLine; omega, compI_filt _ _ dL (fun s => !decide (s = u)) trivial (fun s hs R hR => ?_) ?_⟩
        · simp only [gN, setV, wTest, wBin, wVar, getV, some!]
          refine (oIx_eq (x := dRows xs) rfl (at_map hat) _).mpr ?_
          simp only [oNe, shD_dL, eqD_dL, true_and]
          exact ite_R hR
        · refine n2 _ _ ?_
          simp only [wIf, wNot, wTest, wCall, wCons, wNil, wVar, wC, getV, some!]
          refine ⟨al, xs, xs.filter fun s => !decide (s = u), rfl, ⟨al0, al3⟩, hx, ends_filter hx _, fun S7 e7 => ?_⟩
          simp only [Bool.not_true, Bool.false_eq_true, if_false, wNext]
          exact hq _ _ ⟨isHand_ext hp e7, _, _, _, rfl⟩
      · simp only [wNext]
        exact hq _ _ ⟨hp, _, _, _, rfl⟩
  · rintro e S' ⟨hp, x6, x7, x8, rfl⟩
    refine n1 _ _ ?_
    simp only [wRet, wC]
    exact h _ hp
theorem len_law (c : Cl) : ∀ ds S Q E, sp_law c ds S Q E → ds.length = 1 := by
  rintro ds S Q E ⟨_, rfl, _⟩; rfl
theorem sl_two {S : Sto} {xs : List (List Int)} {Q : Qd} (q : Q (dRows (xs.take 2)) S) : oSl S (dRows xs) none (some (2 : Int)) Q := by
  simp only [oSl, dRows, seqL, seqM, some!]
  have : cutD (xs.map dL) none (some (((2 : Nat) : Int))) = (xs.take 2).map dL := cutD_take
  rw [show (2 : Int) = ((2 : Nat) : Int) from rfl, this]
  exact q
theorem ends_take2 {xs : List (List Int)} (hx : EndsOk xs) : EndsOk (xs.take 2) ∧ (xs.take 2).length ≤ 2 :=
  ⟨⟨by rw [List.length_take]; have := hx.1; omega, fun s hs => hx.2 s (List.mem_of_mem_take hs)⟩, by rw [List.length_take]; omega⟩
theorem rd_law (c : Cl) : ∀ ds S Q X1, sp_law c ds S Q X1 → w_law c (startD N_law_ ds) S (endQ Q X1) := by
  rintro ds S Q X1 ⟨cells, rfl, hc, h⟩
  show w_law c [some (.fro (cells.map D.int)), none, none, none, none] S (endQ Q X1)
  unfold w_law
  refine seq_k fun q1 n1 r1 _ _ x1 => ?_
  simp only [wSet, wCall, wCons, wNil, wVar, getV, setV, some!]
  refine ⟨cells, rfl, hc, fun p hp => n1 _ _ ?_⟩
  generalize D.fro (cells.map D.int) = d0
  have H : IsHand (put S p (handMO ⟨cells, 0, 0, 1311768467⟩)) p := isHand_put ⟨hc, Int.le_refl _, Int.le_refl _, (by show (0 : Int) ≤ 1311768467; decide), (by show (1311768467 : Int) < 2305843009213693951; decide)⟩
  generalize put S p (handMO ⟨cells, 0, 0, 1311768467⟩) = S at H
  refine seq_k fun q1 n1 r1 _ _ x1 => ?_
  simp only [wSet, wCall, wCons, wNil, wVar, getV, setV, some!]
  refine ⟨p, rfl, H, fun al al1 al2 k hk => n1 _ _ ?_⟩
  obtain ⟨al2, al3⟩ := al2
  have H := isHand_put (S := S) (p := p) hk
  generalize put S p (handMO k) = S at H
  refine seq_k fun q1 n1 r1 _ _ x1 => ?_
  simp only [wSet, wCall, wCons, wNil, wVar, wC, getV, setV, some!]
  refine ⟨p, al, 6, rfl, H, ⟨al1, by omega, al3⟩, ⟨by decide, by decide⟩, fun xs hx k hk => n1 _ _ ?_⟩
  have H := isHand_put (S := S) (p := p) hk
  generalize put S p (handMO k) = S at H
  refine seq_k fun q1 n1 r1 _ _ x1 => ?_
  simp only [wSet, wCall, wCons, wNil, wVar, getV, setV, some!]
  refine ⟨p, xs, al, rfl, H, hx, ⟨al1, by omega, al3⟩, fun ys S hy H => n1 _ _ ?_⟩
  refine seq_k fun q1 n1 r1 _ _ x1 => ?_
  simp only [wIf, wOr, wNot, wTest, wCall, wCons, wNil, wVar, wC, getV, some!]
  refine ⟨xs, rfl, hx, fun S e => ?_⟩
  have H := isHand_ext H e
  clear e
  simp only [Bool.not_true, Bool.false_eq_true, if_false]
  refine ⟨ys, rfl, hy, fun S e => ?_⟩
  have H := isHand_ext H e
  clear e
  simp only [Bool.not_true, Bool.false_eq_true, if_false, wNext]
  refine n1 _ _ ?_
  obtain ⟨h2, h2l⟩ := ends_take2 hx
  refine seq_k fun q1 n1 r1 _ _ x1 => ?_
  simp only [wIf, wNot, wTest, wCall, wBin, wSl, wNoP, wP, wCons, wNil, wVar, wC, getV, some!]
  refine sl_two (sl_two ?_)
  refine ⟨p, xs.take 2, rfl, H, h2, fun zs S hz hzl H => ?_⟩
  refine add_rows (by omega) (sl_two (add_rows (by rw [List.length_append]; omega) ?_))
  refine ⟨_, rfl, ⟨by rw [List.length_append, List.length_append]; omega, fun s hs => ?_⟩, fun S e => ?_⟩
  · rcases List.mem_append.mp hs with hs | hs
    · rcases List.mem_append.mp hs with hs | hs
      · exact h2.2 s hs
      · exact hz.2 s hs
    · exact h2.2 s hs
  have H := isHand_ext H e
  clear e
  simp only [Bool.not_true, Bool.false_eq_true, if_false, wNext]
  refine n1 _ _ ?_
  refine seq_k fun q1 n1 r1 _ _ x1 => ?_
  simp only [wIf, wOr, wNot, wTest, wCall, wCons, wNil, wVar, wC, getV, some!]
  refine ⟨al, xs, ys, rfl, ⟨al1, al2⟩, hx, hy, fun S e => ?_⟩
  have H := isHand_ext H e
  clear e
  simp only [Bool.not_true, Bool.false_eq_true, if_false]
  refine ⟨p, xs, rfl, H, hx, fun zs S hz hzl H => ?_⟩
  refine ⟨al, ys, zs, rfl, ⟨al1, al2⟩, hy, hz, fun S e => ?_⟩
  have H := isHand_ext H e
  clear e
  simp only [Bool.not_true, Bool.false_eq_true, if_false, wNext]
  refine n1 _ _ ?_
  refine seq_k fun q1 n1 r1 _ _ x1 => ?_
  simp only [wIf, wNot, wTest, wCall, wCons, wNil, wVar, wC, getV, some!]
  refine ⟨p, xs, rfl, H, hx, fun zs S hz hzl H => ?_⟩
  refine ⟨al, xs, zs, rfl, ⟨al1, al2⟩, hx, hz, fun S e => ?_⟩
  have H := isHand_ext H e
  clear e
  simp only [Bool.not_true, Bool.false_eq_true, if_false, wNext]
  refine n1 _ _ ?_
  refine seq_k fun q1 n1 r1 _ _ x1 => ?_
  simp only [wIf, wOr, wNot, wTest, wCall, wCons, wNil, wVar, wC, getV, some!]
  refine ⟨p, al, xs, rfl, H, ⟨al1, al2, al3⟩, hx, fun S H => ?_⟩
  simp only [Bool.not_true, Bool.false_eq_true, if_false]
  refine ⟨p, al, ys, rfl, H, ⟨al1, al2, al3⟩, hy, fun S H => ?_⟩
  simp only [Bool.not_true, Bool.false_eq_true, if_false, wNext]
  refine n1 _ _ ?_
  simp only [wRet, wAndV, wCall, wCons, wNil, wVar, getV, some!]
  refine ⟨xs, rfl, hx, fun S e => ?_⟩
  simp only [if_true]
  exact ⟨rfl, fun S => h S⟩
end K93
set_option Elab.async false
set_option linter.all false
set_option maxRecDepth 100000
set_option maxHeartbeats 1000000
namespace K93
open PySem PySem.Spec PyProof.Rows L2 DL
instance (s : List Int) : Decidable (LO s) := by unfold LO; infer_instance
theorem need_callT {c : Cl} {S : Sto} {Q : Qd} {E : XQ} (xs : List (List Int)) (ns : List Int) (hx : EndsOk xs) (hn : needF xs = ns) (q : ∀ S', Ext S S' → Q (dT ns) S') : sp_needless_stops c [.tup (xs.map dT)] S Q E := by
  have := need_call (c := c) (S := S) (Q := Q) (E := E) true true hx (by rw [hn]; exact q)
  exact this
theorem part_call {c : Cl} {S : Sto} {Q : Qd} {E : XQ} (xs ys : List (List Int)) (t : Option (List Int)) (hx : EndsOk xs) (hy : EndsOk ys) (hn : partF xs ys = t) (q : ∀ S', Ext S S' → Q (dPart t) S') : sp_parting_text c [.tup (xs.map dT), .tup (ys.map dT)] S Q E :=
  ⟨_, _, xs, ys, rfl, rows_tup, rows_tup, hx, hy, fun S' e => by rw [hn]; exact q S' e⟩
theorem len__law_closing (c : Cl) : ∀ ds S Q E, sp__law_closing c ds S Q E → ds.length = 0 := by
  rintro ds S Q E ⟨rfl, _⟩; rfl
def E7 : List (List Int) := [[1, 2], [3, 1, 2], [1, 2, 3], [0, 1, 2, 0], [1, 2], [2, 1, 1, 2], [2]]
def F6 : List (List Int) := [[1, 2], [3, 1, 2], [1, 2, 3], [0, 1, 2, 0], [1, 2], [2, 1, 1, 2]]
theorem f6_ok : EndsOk F6 := ⟨by decide, by decide⟩
theorem rd__law_closing (c : Cl) : ∀ ds S Q X1, sp__law_closing c ds S Q X1 → w__law_closing c (startD N__law_closing_ ds) S (endQ Q X1) := by
  rintro ds S Q X1 ⟨rfl, h⟩
  show w__law_closing c [none, none, none, none] S (endQ Q X1)
  unfold w__law_closing
  have s6 : ∀ S Q, oSl S (.tup (E7.map dT)) none (some (6 : Int)) Q = Q (.tup (F6.map dT)) S := fun _ _ => rfl
  have s1 : ∀ S Q, oSl S (.tup (E7.map dT)) (some (1 : Int)) none Q = Q (.tup ((E7.drop 1).map dT)) S := fun _ _ => rfl
  have s01 : ∀ S Q, oSl S (.tup (F6.map dT)) none (some (1 : Int)) Q = Q (.tup ((F6.take 1).map dT)) S := fun _ _ => rfl
  have s14 : ∀ S Q, oSl S (.tup (F6.map dT)) (some (1 : Int)) (some (4 : Int)) Q = Q (.tup (((F6.drop 1).take 3).map dT)) S := fun _ _ => rfl
  have x0 : ∀ S Q, oIx S (.tup (F6.map dT)) (.int 0) Q = Q (dT [1, 2]) S := fun S Q => oIx_eq rfl rfl Q
  have x1 : ∀ S Q, oIx S (.tup (F6.map dT)) (.int 1) Q = Q (dT [3, 1, 2]) S := fun S Q => oIx_eq rfl rfl Q
  have x5 : ∀ S Q, oIx S (.tup (F6.map dT)) (.int 5) Q = Q (dT [2, 1, 1, 2]) S := fun S Q => oIx_eq rfl rfl Q
  refine seq_k fun q1 n1 r1 _ _ _ => ?_
  simp only [wSet, wTup, wCons, wNil, wC, setV]
  refine ⟨by show 2 ≤ sizeLine; decide, by show 3 ≤ sizeLine; decide, by show 3 ≤ sizeLine; decide, by show 4 ≤ sizeLine; decide, by show 2 ≤ sizeLine; decide, by show 4 ≤ sizeLine; decide, by show 1 ≤ sizeLine; decide, by show 7 ≤ sizeLine; decide, ?_⟩
  show q1.nx [some (.tup (E7.map dT)), none, none, none] S
  refine n1 _ _ ?_
  refine seq_k fun q1 n1 r1 _ _ _ => ?_
  simp only [wSet, wSl, wNoP, wP, wVar, wC, getV, setV, some!, s6]
  refine n1 _ _ ?_
  refine seq_k fun q1 n1 r1 _ _ _ => ?_
  simp only [wSet, wLstM, wCall, wSl, wNoP, wP, wTup, wCons, wNil, wVar, wC, getV, setV, some!, s1]
  refine need_callT F6 [2, 3, 4] f6_ok (by decide +kernel) fun S1 e1 => ?_
  refine need_callT (E7.drop 1) [1, 2, 4] ⟨by decide, by decide⟩ (by decide +kernel) fun S2 e2 => ?_
  refine ⟨by show 1 ≤ sizeLine; decide, by show 1 ≤ sizeLine; decide, by show 2 ≤ sizeLine; decide, ?_⟩
  refine need_callT [[7], [7]] [1] ⟨by decide, by decide⟩ (by decide +kernel) fun S3 e3 => ?_
  refine ⟨Nat.zero_le _, ?_⟩
  refine need_callT [] [] ⟨by decide, by decide⟩ (by decide +kernel) fun S4 e4 => ?_
  refine ⟨by show 4 ≤ sizeLine; decide, fun p hp => n1 _ _ ?_⟩
  have hat : put S4 p (.lst [dT [2, 3, 4], dT [1, 2, 4], dT [1], dT []]) p = some (.lst [dT [2, 3, 4], dT [1, 2, 4], dT [1], dT []]) := put_same
  generalize put S4 p (.lst [dT [2, 3, 4], dT [1, 2, 4], dT [1], dT []]) = S at hat
  clear e1 e2 e3 e4
  refine seq_k fun q1 n1 r1 _ _ _ => ?_
  simp only [wDrop, wMt, wCall, wTup, wCons, wNil, wVar, wC, getV, some!, mutL, hat]
  refine ⟨by show 2 ≤ sizeLine; decide, by show 2 ≤ sizeLine; decide, by show 1 ≤ sizeLine; decide, by show 2 ≤ sizeLine; decide, by show 4 ≤ sizeLine; decide, ?_⟩
  refine need_callT [[5, 5], [5, 5], [1], [5, 5]] [1, 3] ⟨by decide, by decide⟩ (by decide +kernel) fun S1 e1 => ?_
  have hat2 := e1 _ _ hat
  simp only [oAppend, mutL, one, hat2]
  refine ⟨by show 5 ≤ sizeLine; decide, n1 _ _ ?_⟩
  have hat3 : put S1 p (.lst ([dT [2, 3, 4], dT [1, 2, 4], dT [1], dT []] ++ [dT [1, 3]])) p = some (.lst [dT [2, 3, 4], dT [1, 2, 4], dT [1], dT [], dT [1, 3]]) := put_same
  generalize put S1 p (.lst ([dT [2, 3, 4], dT [1, 2, 4], dT [1], dT []] ++ [dT [1, 3]])) = S2 at hat3
  clear e1 hat hat2
  refine seq_k fun q1 n1 r1 _ _ _ => ?_
  simp only [wDrop, wMt, wLst, wCall, wTup, wSl, wNoP, wP, wBin, wCons, wNil, wVar, wC, getV, some!, mutL, hat3, x0, x1, x5, s01]
  refine ⟨by show 3 ≤ sizeLine; decide, ?_⟩
  refine part_call F6 [[1, 2], [3, 1, 2], [2, 1, 1, 2]] none f6_ok ⟨by decide, by decide⟩ (by decide +kernel) fun S3 e3 => ?_
  refine part_call F6 (F6.take 1) (some [3, 1, 2]) f6_ok ⟨by decide, by decide⟩ (by decide +kernel) fun S4 e4 => ?_
  have hat4 := e4 _ _ (e3 _ _ hat3)
  refine ⟨by show 2 ≤ sizeLine; decide, ?_⟩
  simp only [oExtend, mutL, hat4, one, seqM, some!]
  refine ⟨by show 7 ≤ sizeLine; decide, n1 _ _ ?_⟩
  have hat5 : put S4 p (.lst ([dT [2, 3, 4], dT [1, 2, 4], dT [1], dT [], dT [1, 3]] ++ [dPart none, dPart (some [3, 1, 2])])) p = some (.lst [dT [2, 3, 4], dT [1, 2, 4], dT [1], dT [], dT [1, 3], .non, dT [3, 1, 2]]) := put_same
  generalize put S4 p (.lst ([dT [2, 3, 4], dT [1, 2, 4], dT [1], dT [], dT [1, 3]] ++ [dPart none, dPart (some [3, 1, 2])])) = S5 at hat5
  clear e3 e4 hat3 hat4
  refine seq_k fun q1 n1 r1 _ _ _ => ?_
  simp only [wDrop, wMt, wLst, wCall, wTup, wSl, wNoP, wP, wBin, wCons, wNil, wVar, wC, getV, some!, mutL, hat5, s14]
  refine part_call F6 ((F6.drop 1).take 3) (some [1, 2]) f6_ok ⟨by decide, by decide⟩ (by decide +kernel) fun S3 e3 => ?_
  refine ⟨by show 1 ≤ sizeLine; decide, by show 1 ≤ sizeLine; decide, by show 1 ≤ sizeLine; decide, by show 2 ≤ sizeLine; decide, by show 2 ≤ sizeLine; decide, ?_⟩
  refine part_call [[4]] [[4], [4, 4]] none ⟨by decide, by decide⟩ ⟨by decide, by decide⟩ (by decide +kernel) fun S4 e4 => ?_
  refine ⟨Nat.zero_le _, by show 1 ≤ sizeLine; decide, by show 1 ≤ sizeLine; decide, ?_⟩
  refine part_call [] [[11]] (some [11]) ⟨by decide, by decide⟩ ⟨by decide, by decide⟩ (by decide +kernel) fun S6 e6 => ?_
  have hat6 := e6 _ _ (e4 _ _ (e3 _ _ hat5))
  refine ⟨by show 3 ≤ sizeLine; decide, ?_⟩
  simp only [oExtend, mutL, hat6, one, seqM, some!]
  refine ⟨by show 10 ≤ sizeLine; decide, n1 _ _ ?_⟩
  have hs : seqA (put S6 p (.lst ([dT [2, 3, 4], dT [1, 2, 4], dT [1], dT [], dT [1, 3], .non, dT [3, 1, 2]] ++ [dPart (some [1, 2]), dPart none, dPart (some [11])]))) (.ref p) = some [dT [2, 3, 4], dT [1, 2, 4], dT [1], dT [], dT [1, 3], .non, dT [3, 1, 2], dT [1, 2], .non, dT [11]] := seqA_at put_same
  generalize put S6 p (.lst ([dT [2, 3, 4], dT [1, 2, 4], dT [1], dT [], dT [1, 3], .non, dT [3, 1, 2]] ++ [dPart (some [1, 2]), dPart none, dPart (some [11])])) = S7 at hs
  refine seq_k fun q1 n1 r1 _ _ _ => ?_
  simp only [wSet, wLst, wTup, wCons, wNil, wC, setV]
  refine ⟨by show 3 ≤ sizeLine; decide, by show 3 ≤ sizeLine; decide, by show 1 ≤ sizeLine; decide, Nat.zero_le _, by show 2 ≤ sizeLine; decide, by show 3 ≤ sizeLine; decide, by show 2 ≤ sizeLine; decide, by show 1 ≤ sizeLine; decide, by show 10 ≤ sizeLine; decide, n1 _ _ ?_⟩
  simp only [wRet, wCall, wCB, wCons, wNil, wVar, wC, getV, some!, oTuple, one, hs]
  refine same_go ?_ (h _)
  refine ⟨by show 10 ≤ 1000; decide, fun x hx => ?_⟩
  simp only [List.mem_cons, List.not_mem_nil, or_false] at hx
  rcases hx with rfl | rfl | rfl | rfl | rfl | rfl | rfl | rfl | rfl | rfl
  all_goals first | trivial | exact plain_dT (by decide)
end K93
set_option Elab.async false
set_option linter.all false
set_option maxRecDepth 100000
set_option maxHeartbeats 4000000
namespace K93
open PySem PySem.Spec PyProof.Rows L2 DL
def topS (i : Nat) : Stmt := PySem.Challenge.pw_everyasked_k93_whole_needless_stops.main.body.getD i (.Pass ⟨0, 0, 0, 0⟩)
abbrev s_stop_length : Stmt := topS 1
abbrev s_held_back : Stmt := topS 3
abbrev s_Stopper_init : Stmt := inClass (topS 6) 0
abbrev s_Stopper_has_stopped : Stmt := inClass (topS 6) 1
abbrev s_Stopper_letters_held : Stmt := inClass (topS 6) 2
abbrev s_Stopper_feed : Stmt := inClass (topS 6) 3
abbrev s_Stopper_sent_in_all : Stmt := inClass (topS 6) 4
abbrev s_Stopper_twin : Stmt := inClass (topS 6) 5
abbrev s_are_unlike : Stmt := topS 7
abbrev s_parting_text : Stmt := topS 8
abbrev s_stands_ahead_of_end : Stmt := topS 9
abbrev s_needless_stops : Stmt := topS 10
abbrev s__law_hand : Stmt := topS 12
abbrev s__law_draw : Stmt := topS 13
abbrev s__law_same : Stmt := topS 14
abbrev s__law_stopped : Stmt := topS 15
abbrev s__law_held : Stmt := topS 16
abbrev s__law_alphabet : Stmt := topS 17
abbrev s__law_row : Stmt := topS 18
abbrev s__law_ends : Stmt := topS 19
abbrev s__law_changed : Stmt := topS 20
abbrev s__law_mixed_up : Stmt := topS 21
abbrev s__law_needless : Stmt := topS 22
abbrev s__law_fed : Stmt := topS 23
abbrev s__law_due : Stmt := topS 24
abbrev s__law_stands : Stmt := topS 25
abbrev s__law_parted : Stmt := topS 26
abbrev s__law_left : Stmt := topS 27
abbrev s__law_told : Stmt := topS 28
abbrev s__law_short_texts : Stmt := topS 29
abbrev s__law_compared : Stmt := topS 30
abbrev s__law_left_out : Stmt := topS 31
abbrev s__law_closing : Stmt := topS 32
abbrev s_law : Stmt := topS 33
theorem sc_stop_length : FnScope N_stop_length_ ["stops", "text"] (defScope s_stop_length) := ⟨rfl, rfl, rfl, by decide +kernel, rfl, by decide +kernel, by decide +kernel⟩
theorem sc_held_back : FnScope N_held_back_ ["stops", "text"] (defScope s_held_back) := ⟨rfl, rfl, rfl, by decide +kernel, rfl, by decide +kernel, by decide +kernel⟩
theorem sc_Stopper_init : FnScope N_Stopper_init_ ["self", "stops"] (defScope s_Stopper_init) := ⟨rfl, rfl, rfl, by decide +kernel, rfl, by decide +kernel, by decide +kernel⟩
theorem sc_Stopper_has_stopped : FnScope N_Stopper_has_stopped_ ["self"] (defScope s_Stopper_has_stopped) := ⟨rfl, rfl, rfl, by decide +kernel, rfl, by decide +kernel, by decide +kernel⟩
theorem sc_Stopper_letters_held : FnScope N_Stopper_letters_held_ ["self"] (defScope s_Stopper_letters_held) := ⟨rfl, rfl, rfl, by decide +kernel, rfl, by decide +kernel, by decide +kernel⟩
theorem sc_Stopper_feed : FnScope N_Stopper_feed_ ["self", "letter"] (defScope s_Stopper_feed) := ⟨rfl, rfl, rfl, by decide +kernel, rfl, by decide +kernel, by decide +kernel⟩
theorem sc_Stopper_sent_in_all : FnScope N_Stopper_sent_in_all_ ["self"] (defScope s_Stopper_sent_in_all) := ⟨rfl, rfl, rfl, by decide +kernel, rfl, by decide +kernel, by decide +kernel⟩
theorem sc_Stopper_twin : FnScope N_Stopper_twin_ ["self"] (defScope s_Stopper_twin) := ⟨rfl, rfl, rfl, by decide +kernel, rfl, by decide +kernel, by decide +kernel⟩
theorem sc_are_unlike : FnScope N_are_unlike_ ["one", "other"] (defScope s_are_unlike) := ⟨rfl, rfl, rfl, by decide +kernel, rfl, by decide +kernel, by decide +kernel⟩
theorem sc_parting_text : FnScope N_parting_text_ ["stops", "other"] (defScope s_parting_text) := ⟨rfl, rfl, rfl, by decide +kernel, rfl, by decide +kernel, by decide +kernel⟩
theorem sc_stands_ahead_of_end : FnScope N_stands_ahead_of_end_ ["stop", "other"] (defScope s_stands_ahead_of_end) := ⟨rfl, rfl, rfl, by decide +kernel, rfl, by decide +kernel, by decide +kernel⟩
theorem sc_needless_stops : FnScope N_needless_stops_ ["stops"] (defScope s_needless_stops) := ⟨rfl, rfl, rfl, by decide +kernel, rfl, by decide +kernel, by decide +kernel⟩
theorem sc__law_hand : FnScope N__law_hand_ ["script"] (defScope s__law_hand) := ⟨rfl, rfl, rfl, by decide +kernel, rfl, by decide +kernel, by decide +kernel⟩
theorem sc__law_draw : FnScope N__law_draw_ ["hand", "many"] (defScope s__law_draw) := ⟨rfl, rfl, rfl, by decide +kernel, rfl, by decide +kernel, by decide +kernel⟩
theorem sc__law_same : FnScope N__law_same_ ["told", "due"] (defScope s__law_same) := ⟨rfl, rfl, rfl, by decide +kernel, rfl, by decide +kernel, by decide +kernel⟩
theorem sc__law_stopped : FnScope N__law_stopped_ ["ends", "text"] (defScope s__law_stopped) := ⟨rfl, rfl, rfl, by decide +kernel, rfl, by decide +kernel, by decide +kernel⟩
theorem sc__law_held : FnScope N__law_held_ ["ends", "text"] (defScope s__law_held) := ⟨rfl, rfl, rfl, by decide +kernel, rfl, by decide +kernel, by decide +kernel⟩
theorem sc__law_alphabet : FnScope N__law_alphabet_ ["hand"] (defScope s__law_alphabet) := ⟨rfl, rfl, rfl, by decide +kernel, rfl, by decide +kernel, by decide +kernel⟩
theorem sc__law_row : FnScope N__law_row_ ["hand", "alphabet", "least", "more"] (defScope s__law_row) := ⟨rfl, rfl, rfl, by decide +kernel, rfl, by decide +kernel, by decide +kernel⟩
theorem sc__law_ends : FnScope N__law_ends_ ["hand", "alphabet", "most"] (defScope s__law_ends) := ⟨rfl, rfl, rfl, by decide +kernel, rfl, by decide +kernel, by decide +kernel⟩
theorem sc__law_changed : FnScope N__law_changed_ ["hand", "ends", "alphabet"] (defScope s__law_changed) := ⟨rfl, rfl, rfl, by decide +kernel, rfl, by decide +kernel, by decide +kernel⟩
theorem sc__law_mixed_up : FnScope N__law_mixed_up_ ["hand", "ends"] (defScope s__law_mixed_up) := ⟨rfl, rfl, rfl, by decide +kernel, rfl, by decide +kernel, by decide +kernel⟩
theorem sc__law_needless : FnScope N__law_needless_ ["ends"] (defScope s__law_needless) := ⟨rfl, rfl, rfl, by decide +kernel, rfl, by decide +kernel, by decide +kernel⟩
theorem sc__law_fed : FnScope N__law_fed_ ["ends", "text"] (defScope s__law_fed) := ⟨rfl, rfl, rfl, by decide +kernel, rfl, by decide +kernel, by decide +kernel⟩
theorem sc__law_due : FnScope N__law_due_ ["ends", "text"] (defScope s__law_due) := ⟨rfl, rfl, rfl, by decide +kernel, rfl, by decide +kernel, by decide +kernel⟩
theorem sc__law_stands : FnScope N__law_stands_ ["ends", "text"] (defScope s__law_stands) := ⟨rfl, rfl, rfl, by decide +kernel, rfl, by decide +kernel, by decide +kernel⟩
theorem sc__law_parted : FnScope N__law_parted_ ["ends", "others", "text"] (defScope s__law_parted) := ⟨rfl, rfl, rfl, by decide +kernel, rfl, by decide +kernel, by decide +kernel⟩
theorem sc__law_left : FnScope N__law_left_ ["ends"] (defScope s__law_left) := ⟨rfl, rfl, rfl, by decide +kernel, rfl, by decide +kernel, by decide +kernel⟩
theorem sc__law_told : FnScope N__law_told_ ["ends"] (defScope s__law_told) := ⟨rfl, rfl, rfl, by decide +kernel, rfl, by decide +kernel, by decide +kernel⟩
theorem sc__law_short_texts : FnScope N__law_short_texts_ ["alphabet", "outside", "many"] (defScope s__law_short_texts) := ⟨rfl, rfl, rfl, by decide +kernel, rfl, by decide +kernel, by decide +kernel⟩
theorem sc__law_compared : FnScope N__law_compared_ ["alphabet", "ends", "others"] (defScope s__law_compared) := ⟨rfl, rfl, rfl, by decide +kernel, rfl, by decide +kernel, by decide +kernel⟩
theorem sc__law_left_out : FnScope N__law_left_out_ ["hand", "alphabet", "ends"] (defScope s__law_left_out) := ⟨rfl, rfl, rfl, by decide +kernel, rfl, by decide +kernel, by decide +kernel⟩
theorem sc__law_closing : FnScope N__law_closing_ [] (defScope s__law_closing) := ⟨rfl, rfl, rfl, by decide +kernel, rfl, by decide +kernel, by decide +kernel⟩
theorem sc_law : FnScope N_law_ ["script"] (defScope s_law) := ⟨rfl, rfl, rfl, by decide +kernel, rfl, by decide +kernel, by decide +kernel⟩
structure Txt (K : PySem.W.Frag) (mg : Str → Option Value) (c : Cl) : Prop where
  b_all : mg "all" = none
  b_any : mg "any" = none
  b_bool : mg "bool" = none
  b_enumerate : mg "enumerate" = none
  b_int : mg "int" = none
  b_isinstance : mg "isinstance" = none
  b_len : mg "len" = none
  b_list : mg "list" = none
  b_max : mg "max" = none
  b_min : mg "min" = none
  b_range : mg "range" = none
  b_str : mg "str" = none
  b_tuple : mg "tuple" = none
  d_stop_length : DefAt K mg "stop_length" "stop_length" s_stop_length ["stops", "text"]
  d_held_back : DefAt K mg "held_back" "held_back" s_held_back ["stops", "text"]
  i_Stopper_init : MkAt K c.Stopper "Stopper.__init__" s_Stopper_init ["self", "stops"]
  m_Stopper_has_stopped : MetAt K c.Stopper "has_stopped" "Stopper.has_stopped" s_Stopper_has_stopped ["self"]
  m_Stopper_letters_held : MetAt K c.Stopper "letters_held" "Stopper.letters_held" s_Stopper_letters_held ["self"]
  m_Stopper_feed : MetAt K c.Stopper "feed" "Stopper.feed" s_Stopper_feed ["self", "letter"]
  m_Stopper_sent_in_all : MetAt K c.Stopper "sent_in_all" "Stopper.sent_in_all" s_Stopper_sent_in_all ["self"]
  m_Stopper_twin : MetAt K c.Stopper "twin" "Stopper.twin" s_Stopper_twin ["self"]
  d_are_unlike : DefAt K mg "are_unlike" "are_unlike" s_are_unlike ["one", "other"]
  d_parting_text : DefAt K mg "parting_text" "parting_text" s_parting_text ["stops", "other"]
  d_stands_ahead_of_end : DefAt K mg "stands_ahead_of_end" "stands_ahead_of_end" s_stands_ahead_of_end ["stop", "other"]
  d_needless_stops : DefAt K mg "needless_stops" "needless_stops" s_needless_stops ["stops"]
  d__law_hand : DefAt K mg "_law_hand" "_law_hand" s__law_hand ["script"]
  d__law_draw : DefAt K mg "_law_draw" "_law_draw" s__law_draw ["hand", "many"]
  d__law_same : DefAt K mg "_law_same" "_law_same" s__law_same ["told", "due"]
  d__law_stopped : DefAt K mg "_law_stopped" "_law_stopped" s__law_stopped ["ends", "text"]
  d__law_held : DefAt K mg "_law_held" "_law_held" s__law_held ["ends", "text"]
  d__law_alphabet : DefAt K mg "_law_alphabet" "_law_alphabet" s__law_alphabet ["hand"]
  d__law_row : DefAt K mg "_law_row" "_law_row" s__law_row ["hand", "alphabet", "least", "more"]
  d__law_ends : DefAt K mg "_law_ends" "_law_ends" s__law_ends ["hand", "alphabet", "most"]
  d__law_changed : DefAt K mg "_law_changed" "_law_changed" s__law_changed ["hand", "ends", "alphabet"]
  d__law_mixed_up : DefAt K mg "_law_mixed_up" "_law_mixed_up" s__law_mixed_up ["hand", "ends"]
  d__law_needless : DefAt K mg "_law_needless" "_law_needless" s__law_needless ["ends"]
  d__law_fed : DefAt K mg "_law_fed" "_law_fed" s__law_fed ["ends", "text"]
  d__law_due : DefAt K mg "_law_due" "_law_due" s__law_due ["ends", "text"]
  d__law_stands : DefAt K mg "_law_stands" "_law_stands" s__law_stands ["ends", "text"]
  d__law_parted : DefAt K mg "_law_parted" "_law_parted" s__law_parted ["ends", "others", "text"]
  d__law_left : DefAt K mg "_law_left" "_law_left" s__law_left ["ends"]
  d__law_told : DefAt K mg "_law_told" "_law_told" s__law_told ["ends"]
  d__law_short_texts : DefAt K mg "_law_short_texts" "_law_short_texts" s__law_short_texts ["alphabet", "outside", "many"]
  d__law_compared : DefAt K mg "_law_compared" "_law_compared" s__law_compared ["alphabet", "ends", "others"]
  d__law_left_out : DefAt K mg "_law_left_out" "_law_left_out" s__law_left_out ["hand", "alphabet", "ends"]
  d__law_closing : DefAt K mg "_law_closing" "_law_closing" s__law_closing []
  d_law : DefAt K mg "law" "law" s_law ["script"]
  c_LETTERS : ∃ u, mg "LETTERS" = some u ∧ RelV (.int (12)) u
  cl_Stopper : Cls K c.Stopper
  mk_Stopper : mg "Stopper" = some (.ref c.Stopper)
  na_Stopper_stops : NoAttr K c.Stopper "stops"
  na_Stopper_held : NoAttr K c.Stopper "held"
  na_Stopper_many : NoAttr K c.Stopper "many"
  na_Stopper_is_stopped : NoAttr K c.Stopper "is_stopped"
section
variable {P : Program} {w : World} {K : PySem.W.Frag} {mg : Str → Option Value} {base : Heap} {c : Cl}
theorem ok_stop_length (T : Txt K mg c) : FnC P w K mg base 1 "stop_length" ["stops", "text"] (sp_stop_length c) :=
  FnC.mk T.d_stop_length sc_stop_length (by decide) (len_stop_length c) (fun f cdv A outer s H E hr => (pss_consD (pds_set (i := 2) sc_stop_length.nd rfl (by first | exact Or.inl rfl | exact Or.inr rfl) pd_int)
  (pss_consD (pds_for (vs := (List.range 4)) rfl (passes_of rfl) (pdi_seq (pd_var 0)) (pdg_name (i := 3) sc_stop_length.nd rfl (by first | exact Or.inl rfl | exact Or.inr rfl) (by decide)) (pss_oneD (pds_if (PDw.pt (pdw_and (pdt_chain opd_lt opd_le (pd_var 2) (pd_callB cd_len T.b_len (by decide +kernel) (pda_cons (pd_var 3) pda_nil)) (pd_callB cd_len T.b_len (by decide +kernel) (pda_cons (pd_var 1) pda_nil))) (pdw_and1 (pdt_cmp (opd_eq hr.units) (pd_slice (pd_var 1) (pdo_some (pd_op opd_sub (pd_callB cd_len T.b_len (by decide +kernel) (pda_cons (pd_var 1) pda_nil)) (pd_callB cd_len T.b_len (by decide +kernel) (pda_cons (pd_var 3) pda_nil)))) pdo_none) (pd_var 3) (nomark _))))) (pss_oneD (pds_set (i := 2) sc_stop_length.nd rfl (by first | exact Or.inl rfl | exact Or.inr rfl) (pd_callB cd_len T.b_len (by decide +kernel) (pda_cons (pd_var 3) pda_nil)))) pss_nilD)))
  (pss_oneD (pds_ret (pd_var 2)))))) (rd_stop_length c)
theorem ok_held_back (T : Txt K mg c) : FnC P w K mg base 1 "held_back" ["stops", "text"] (sp_held_back c) :=
  FnC.mk T.d_held_back sc_held_back (by decide) (len_held_back c) (fun f cdv A outer s H E hr => (pss_consD (pds_set (i := 1) sc_held_back.nd rfl (by first | exact Or.inl rfl | exact Or.inr rfl) (pd_callTy cd_tuple T.b_tuple (by decide +kernel) (pda_cons (pd_var 1) pda_nil)))
  (pss_consD (pds_set (i := 2) sc_held_back.nd rfl (by first | exact Or.inl rfl | exact Or.inr rfl) pd_int)
  (pss_consD (pds_for (vs := (List.range 5)) rfl (passes_of rfl) (pdi_seq (pd_var 0)) (pdg_name (i := 3) sc_held_back.nd rfl (by first | exact Or.inl rfl | exact Or.inr rfl) (by decide)) (pss_oneD (pds_for (vs := (List.range 5)) rfl (passes_of rfl) (pdi_rg2 T.b_range pd_int (pd_callB (cd_min2 rfl) T.b_min (by decide +kernel) (pda_cons (pd_callB cd_len T.b_len (by decide +kernel) (pda_cons (pd_var 3) pda_nil)) (pda_cons (pd_op opd_add (pd_callB cd_len T.b_len (by decide +kernel) (pda_cons (pd_var 1) pda_nil)) pd_int) pda_nil)))) (pdg_name (i := 4) sc_held_back.nd rfl (by first | exact Or.inl rfl | exact Or.inr rfl) (by decide)) (pss_oneD (pds_if (PDw.pt (pdw_and (pdt_cmp opd_gt (pd_var 4) (pd_var 2) (nomark _)) (pdw_and1 (pdt_cmp (opd_eq hr.units) (pd_slice (pd_var 1) (pdo_some (pd_op opd_sub (pd_callB cd_len T.b_len (by decide +kernel) (pda_cons (pd_var 1) pda_nil)) (pd_var 4))) pdo_none) (pd_callTy cd_tuple T.b_tuple (by decide +kernel) (pda_cons (pd_slice (pd_var 3) pdo_none (pdo_some (pd_var 4))) pda_nil)) (nomark _))))) (pss_oneD (pds_set (i := 2) sc_held_back.nd rfl (by first | exact Or.inl rfl | exact Or.inr rfl) (pd_var 4))) pss_nilD)))))
  (pss_oneD (pds_ret (pd_var 2))))))) (rd_held_back c)
theorem ok_Stopper_init (T : Txt K mg c) : MkC P w K mg base c.Stopper 1 ["self", "stops"] (sp_Stopper_init c) :=
  MkC.mk T.i_Stopper_init sc_Stopper_init (by decide) (len_Stopper_init c) (fun f cdv A outer s H E hr => (pss_consD (pds_setF (N := N_Stopper) (i := 0) T.cl_Stopper T.na_Stopper_stops rfl (pd_var 0) (pd_callTy cd_tuple T.b_tuple (by decide +kernel) (pda_cons (pd_lc (own := [("stop", 2)]) rfl sc_Stopper_init.nd (pdi_seq (pd_var 1)) (blkOk_by (N := N_Stopper_init_) (sc := defScope s_Stopper_init) (by decide +kernel)) (fun _ _ _ _ _ => (pdg_name (i := 2) sc_Stopper_init.nd rfl (by first | exact Or.inl rfl | exact Or.inr rfl) (by decide))) (fun _ _ _ _ _ => pdts_nil) (fun _ _ _ _ _ => (pd_callTy cd_tuple T.b_tuple (by decide +kernel) (pda_cons (pd_var 2) pda_nil)))) pda_nil)))
  (pss_consD (pds_setF (N := N_Stopper) (i := 1) T.cl_Stopper T.na_Stopper_held rfl (pd_var 0) (pd_tup pda_nil))
  (pss_consD (pds_setF (N := N_Stopper) (i := 2) T.cl_Stopper T.na_Stopper_many rfl (pd_var 0) pd_int)
  (pss_oneD (pds_setF (N := N_Stopper) (i := 3) T.cl_Stopper T.na_Stopper_is_stopped rfl (pd_var 0) pd_bl)))))) (rd_Stopper_init c)
theorem ok_Stopper_has_stopped (T : Txt K mg c) : MtC P w K mg base c.Stopper 1 "has_stopped" ["self"] (sp_Stopper_has_stopped c) :=
  MtC.mk T.m_Stopper_has_stopped sc_Stopper_has_stopped (by decide) (len_Stopper_has_stopped c) (fun f cdv A outer s H E hr => (pss_oneD (pds_ret (pd_fld (N := N_Stopper) (i := 3) T.cl_Stopper T.na_Stopper_is_stopped rfl (pd_var 0))))) (rd_Stopper_has_stopped c)
theorem ok_Stopper_letters_held (T : Txt K mg c) : MtC P w K mg base c.Stopper 1 "letters_held" ["self"] (sp_Stopper_letters_held c) :=
  MtC.mk T.m_Stopper_letters_held sc_Stopper_letters_held (by decide) (len_Stopper_letters_held c) (fun f cdv A outer s H E hr => (pss_oneD (pds_ret (pd_fld (N := N_Stopper) (i := 1) T.cl_Stopper T.na_Stopper_held rfl (pd_var 0))))) (rd_Stopper_letters_held c)
theorem ok_Stopper_feed (T : Txt K mg c) : MtC P w K mg base c.Stopper 2 "feed" ["self", "letter"] (sp_Stopper_feed c) :=
  MtC.mk T.m_Stopper_feed sc_Stopper_feed (by decide) (len_Stopper_feed c) (fun f cdv A outer s H E hr => (pss_consD (pds_if (pdt_val (pd_fld (N := N_Stopper) (i := 3) T.cl_Stopper T.na_Stopper_is_stopped rfl (pd_var 0))) (pss_oneD (pds_ret (pd_tup pda_nil))) pss_nilD)
  (pss_consD (pds_set (i := 2) sc_Stopper_feed.nd rfl (by first | exact Or.inl rfl | exact Or.inr rfl) (pd_op opd_add (pd_fld (N := N_Stopper) (i := 1) T.cl_Stopper T.na_Stopper_held rfl (pd_var 0)) (pd_tup (pda_cons (pd_var 1) pda_nil))))
  (pss_consD (pds_set (i := 3) sc_Stopper_feed.nd rfl (by first | exact Or.inl rfl | exact Or.inr rfl) (pd_fn (ok_stop_length T) (hr.mono (by decide)) (pda_cons (pd_fld (N := N_Stopper) (i := 0) T.cl_Stopper T.na_Stopper_stops rfl (pd_var 0)) (pda_cons (pd_var 2) pda_nil))))
  (pss_consD (pds_if (pdt_cmp opd_gt (pd_var 3) pd_int (nomark _)) (pss_consD (pds_setF (N := N_Stopper) (i := 3) T.cl_Stopper T.na_Stopper_is_stopped rfl (pd_var 0) pd_bl)
  (pss_consD (pds_setF (N := N_Stopper) (i := 1) T.cl_Stopper T.na_Stopper_held rfl (pd_var 0) (pd_tup pda_nil))
  (pss_consD (pds_augF (N := N_Stopper) (i := 2) T.cl_Stopper T.na_Stopper_many rfl (pd_var 0) (pd_op opd_sub (pd_callB cd_len T.b_len (by decide +kernel) (pda_cons (pd_var 2) pda_nil)) (pd_var 3)) iopd_add)
  (pss_oneD (pds_ret (pd_slice (pd_var 2) pdo_none (pdo_some (pd_op opd_sub (pd_callB cd_len T.b_len (by decide +kernel) (pda_cons (pd_var 2) pda_nil)) (pd_var 3))))))))) pss_nilD)
  (pss_consD (pds_set (i := 4) sc_Stopper_feed.nd rfl (by first | exact Or.inl rfl | exact Or.inr rfl) (pd_fn (ok_held_back T) (hr.mono (by decide)) (pda_cons (pd_fld (N := N_Stopper) (i := 0) T.cl_Stopper T.na_Stopper_stops rfl (pd_var 0)) (pda_cons (pd_var 2) pda_nil))))
  (pss_consD (pds_setF (N := N_Stopper) (i := 1) T.cl_Stopper T.na_Stopper_held rfl (pd_var 0) (pd_slice (pd_var 2) (pdo_some (pd_op opd_sub (pd_callB cd_len T.b_len (by decide +kernel) (pda_cons (pd_var 2) pda_nil)) (pd_var 4))) pdo_none))
  (pss_consD (pds_augF (N := N_Stopper) (i := 2) T.cl_Stopper T.na_Stopper_many rfl (pd_var 0) (pd_op opd_sub (pd_callB cd_len T.b_len (by decide +kernel) (pda_cons (pd_var 2) pda_nil)) (pd_var 4)) iopd_add)
  (pss_oneD (pds_ret (pd_slice (pd_var 2) pdo_none (pdo_some (pd_op opd_sub (pd_callB cd_len T.b_len (by decide +kernel) (pda_cons (pd_var 2) pda_nil)) (pd_var 4)))))))))))))) (rd_Stopper_feed c)
theorem ok_Stopper_sent_in_all (T : Txt K mg c) : MtC P w K mg base c.Stopper 1 "sent_in_all" ["self"] (sp_Stopper_sent_in_all c) :=
  MtC.mk T.m_Stopper_sent_in_all sc_Stopper_sent_in_all (by decide) (len_Stopper_sent_in_all c) (fun f cdv A outer s H E hr => (pss_oneD (pds_ret (pd_fld (N := N_Stopper) (i := 2) T.cl_Stopper T.na_Stopper_many rfl (pd_var 0))))) (rd_Stopper_sent_in_all c)
theorem ok_Stopper_twin (T : Txt K mg c) : MtC P w K mg base c.Stopper 3 "twin" ["self"] (sp_Stopper_twin c) :=
  MtC.mk T.m_Stopper_twin sc_Stopper_twin (by decide) (len_Stopper_twin c) (fun f cdv A outer s H E hr => (pss_consD (pds_set (i := 1) sc_Stopper_twin.nd rfl (by first | exact Or.inl rfl | exact Or.inr rfl) (pd_mk (N := N_Stopper) (ok_Stopper_init T) T.mk_Stopper (by decide +kernel) (by decide) (hr.mono (by decide)) (pda_cons (pd_fld (N := N_Stopper) (i := 0) T.cl_Stopper T.na_Stopper_stops rfl (pd_var 0)) pda_nil)))
  (pss_consD (pds_setF (N := N_Stopper) (i := 1) T.cl_Stopper T.na_Stopper_held rfl (pd_var 1) (pd_fld (N := N_Stopper) (i := 1) T.cl_Stopper T.na_Stopper_held rfl (pd_var 0)))
  (pss_consD (pds_setF (N := N_Stopper) (i := 2) T.cl_Stopper T.na_Stopper_many rfl (pd_var 1) (pd_fld (N := N_Stopper) (i := 2) T.cl_Stopper T.na_Stopper_many rfl (pd_var 0)))
  (pss_consD (pds_setF (N := N_Stopper) (i := 3) T.cl_Stopper T.na_Stopper_is_stopped rfl (pd_var 1) (pd_fld (N := N_Stopper) (i := 3) T.cl_Stopper T.na_Stopper_is_stopped rfl (pd_var 0)))
  (pss_oneD (pds_ret (pd_var 1)))))))) (rd_Stopper_twin c)
theorem ok_are_unlike (T : Txt K mg c) : FnC P w K mg base 2 "are_unlike" ["one", "other"] (sp_are_unlike c) :=
  FnC.mk T.d_are_unlike sc_are_unlike (by decide) (len_are_unlike c) (fun f cdv A outer s H E hr => (pss_consD (pds_if (pdt_cmp (opd_ne hr.units) (pd_mt0 (N := N_Stopper) T.cl_Stopper (ok_Stopper_has_stopped T) (by decide +kernel) (hr.mono (by decide)) (pd_var 0)) (pd_mt0 (N := N_Stopper) T.cl_Stopper (ok_Stopper_has_stopped T) (by decide +kernel) (hr.mono (by decide)) (pd_var 1)) (nomark _)) (pss_oneD (pds_ret pd_bl)) pss_nilD)
  (pss_oneD (pds_ret (pd_and (pd_mt0 (N := N_Stopper) T.cl_Stopper (ok_Stopper_has_stopped T) (by decide +kernel) (hr.mono (by decide)) (pd_var 0)) (pd_one (pd_cmp (opd_ne hr.units) (pd_mt0 (N := N_Stopper) T.cl_Stopper (ok_Stopper_sent_in_all T) (by decide +kernel) (hr.mono (by decide)) (pd_var 0)) (pd_mt0 (N := N_Stopper) T.cl_Stopper (ok_Stopper_sent_in_all T) (by decide +kernel) (hr.mono (by decide)) (pd_var 1)) (nomark _)))))))) (rd_are_unlike c)
theorem ok_parting_text (T : Txt K mg c) : FnC P w K mg base 4 "parting_text" ["stops", "other"] (sp_parting_text c) :=
  FnC.mk T.d_parting_text sc_parting_text (by decide) (len_parting_text c) (fun f cdv A outer s H E hr => (pss_consD (pds_set (i := 2) sc_parting_text.nd rfl (by first | exact Or.inl rfl | exact Or.inr rfl) (pd_tup (pda_cons (pd_mk (N := N_Stopper) (ok_Stopper_init T) T.mk_Stopper (by decide +kernel) (by decide) (hr.mono (by decide)) (pda_cons (pd_var 0) pda_nil)) (pda_cons (pd_mk (N := N_Stopper) (ok_Stopper_init T) T.mk_Stopper (by decide +kernel) (by decide) (hr.mono (by decide)) (pda_cons (pd_var 1) pda_nil)) pda_nil))))
  (pss_consD (pds_set (i := 3) sc_parting_text.nd rfl (by first | exact Or.inl rfl | exact Or.inr rfl) (pd_dict1 hr.units (pd_tup (pda_cons (pd_tup pda_nil) (pda_cons (pd_tup pda_nil) pda_nil))) pd_bl))
  (pss_consD (pds_set (i := 4) sc_parting_text.nd rfl (by first | exact Or.inl rfl | exact Or.inr rfl) (pd_lstM (pda_cons (pd_tup (pda_cons (pd_tup pda_nil) (pda_cons (pd_var 2) pda_nil))) pda_nil)))
  (pss_consD (pds_set (i := 5) sc_parting_text.nd rfl (by first | exact Or.inl rfl | exact Or.inr rfl) pd_int)
  (pss_consD (pds_while (passes_of rfl) (pdt_cmp opd_lt (pd_var 5) (pd_callB cd_len T.b_len (by decide +kernel) (pda_cons (pd_var 4) pda_nil)) (nomark _)) (pss_consD (pds_asgG (vs := (List.range 11)) (pd_ix ixd (pd_var 4) (pd_var 5)) (pdg_tup rfl (pdgs_cons (pdg_name (i := 6) sc_parting_text.nd rfl (by first | exact Or.inl rfl | exact Or.inr rfl) (by decide)) (pdgs_cons (pdg_name (i := 7) sc_parting_text.nd rfl (by first | exact Or.inl rfl | exact Or.inr rfl) (by decide)) pdgs_nil))))
  (pss_consD (pds_for (vs := (List.range 11)) rfl (passes_of rfl) (pdi_rg1 T.b_range (pd_glob T.c_LETTERS)) (pdg_name (i := 8) sc_parting_text.nd rfl (by first | exact Or.inl rfl | exact Or.inr rfl) (by decide)) (pss_consD (pds_set (i := 9) sc_parting_text.nd rfl (by first | exact Or.inl rfl | exact Or.inr rfl) (pd_tup (pda_cons (pd_mt0 (N := N_Stopper) T.cl_Stopper (ok_Stopper_twin T) (by decide +kernel) (hr.mono (by decide)) (pd_ix ixd (pd_var 7) pd_int)) (pda_cons (pd_mt0 (N := N_Stopper) T.cl_Stopper (ok_Stopper_twin T) (by decide +kernel) (hr.mono (by decide)) (pd_ix ixd (pd_var 7) pd_int)) pda_nil))))
  (pss_consD (pds_drop (pd_mt (N := N_Stopper) T.cl_Stopper (ok_Stopper_feed T) (by decide +kernel) (hr.mono (by decide)) (pd_ix ixd (pd_var 9) pd_int) (pda_cons (pd_var 8) pda_nil)))
  (pss_consD (pds_drop (pd_mt (N := N_Stopper) T.cl_Stopper (ok_Stopper_feed T) (by decide +kernel) (hr.mono (by decide)) (pd_ix ixd (pd_var 9) pd_int) (pda_cons (pd_var 8) pda_nil)))
  (pss_consD (pds_if (pdt_val (pd_fn (ok_are_unlike T) (hr.mono (by decide)) (pda_cons (pd_ix ixd (pd_var 9) pd_int) (pda_cons (pd_ix ixd (pd_var 9) pd_int) pda_nil)))) (pss_oneD (pds_ret (pd_op opd_add (pd_var 6) (pd_tup (pda_cons (pd_var 8) pda_nil))))) pss_nilD)
  (pss_consD (pds_set (i := 10) sc_parting_text.nd rfl (by first | exact Or.inl rfl | exact Or.inr rfl) (pd_tup (pda_cons (pd_mt0 (N := N_Stopper) T.cl_Stopper (ok_Stopper_letters_held T) (by decide +kernel) (hr.mono (by decide)) (pd_ix ixd (pd_var 9) pd_int)) (pda_cons (pd_mt0 (N := N_Stopper) T.cl_Stopper (ok_Stopper_letters_held T) (by decide +kernel) (hr.mono (by decide)) (pd_ix ixd (pd_var 9) pd_int)) pda_nil))))
  (pss_oneD (pds_if (PDw.pt (pdw_and (pdt_not (pdt_val (pd_mt0 (N := N_Stopper) T.cl_Stopper (ok_Stopper_has_stopped T) (by decide +kernel) (hr.mono (by decide)) (pd_ix ixd (pd_var 9) pd_int)))) (pdw_and1 (pdt_cmp (opd_notInN hr.units) (pd_var 10) (pd_var 3) (by rfl))))) (pss_consD (pds_setN hr.units (pd_var 3) (pd_var 10) pd_bl)
  (pss_oneD (pds_drop (pd_lm PySem.F.slot_list_append PySem.F.type_list_append md_append (pd_var 4) (pda_cons (pd_tup (pda_cons (pd_op opd_add (pd_var 6) (pd_tup (pda_cons (pd_var 8) pda_nil))) (pda_cons (pd_var 9) pda_nil))) pda_nil))))) pss_nilD))))))))
  (pss_oneD (pds_aug (i := 5) sc_parting_text.nd rfl (by first | exact Or.inl rfl | exact Or.inr rfl) pd_int iopd_add)))))
  (pss_oneD (pds_ret pd_non)))))))) (rd_parting_text c)
theorem ok_stands_ahead_of_end (T : Txt K mg c) : FnC P w K mg base 1 "stands_ahead_of_end" ["stop", "other"] (sp_stands_ahead_of_end c) :=
  FnC.mk T.d_stands_ahead_of_end sc_stands_ahead_of_end (by decide) (len_stands_ahead_of_end c) (fun f cdv A outer s H E hr => (pss_consD (pds_set (i := 2) sc_stands_ahead_of_end.nd rfl (by first | exact Or.inl rfl | exact Or.inr rfl) (pd_callB cd_len T.b_len (by decide +kernel) (pda_cons (pd_var 1) pda_nil)))
  (pss_oneD (pds_ret (pd_callB (cd_any rfl) T.b_any (by decide +kernel) (pda_cons (pd_lc (own := [("at", 3)]) rfl sc_stands_ahead_of_end.nd (pdi_rg1 T.b_range (pd_op opd_sub (pd_callB cd_len T.b_len (by decide +kernel) (pda_cons (pd_var 0) pda_nil)) (pd_var 2))) (blkOk_by (N := N_stands_ahead_of_end_) (sc := defScope s_stands_ahead_of_end) (by decide +kernel)) (fun _ _ _ _ _ => (pdg_name (i := 3) sc_stands_ahead_of_end.nd rfl (by first | exact Or.inl rfl | exact Or.inr rfl) (by decide))) (fun _ _ _ _ _ => pdts_nil) (fun _ _ _ _ _ => (pd_cmp (opd_eq hr.units) (pd_callTy cd_tuple T.b_tuple (by decide +kernel) (pda_cons (pd_slice (pd_var 0) (pdo_some (pd_var 3)) (pdo_some (pd_op opd_add (pd_var 3) (pd_var 2)))) pda_nil)) (pd_callTy cd_tuple T.b_tuple (by decide +kernel) (pda_cons (pd_var 1) pda_nil)) (nomark _)))) pda_nil)))))) (rd_stands_ahead_of_end c)
theorem ok_needless_stops (T : Txt K mg c) : FnC P w K mg base 2 "needless_stops" ["stops"] (sp_needless_stops c) :=
  FnC.mk T.d_needless_stops sc_needless_stops (by decide) (len_needless_stops c) (fun f cdv A outer s H E hr => (pss_consD (pds_set (i := 1) sc_needless_stops.nd rfl (by first | exact Or.inl rfl | exact Or.inr rfl) (pd_lstM pda_nil))
  (pss_consD (pds_for (vs := (List.range 7)) rfl (passes_of rfl) (pdi_enum T.b_enumerate (pd_var 0)) (pdg_tup rfl (pdgs_cons (pdg_name (i := 2) sc_needless_stops.nd rfl (by first | exact Or.inl rfl | exact Or.inr rfl) (by decide)) (pdgs_cons (pdg_name (i := 3) sc_needless_stops.nd rfl (by first | exact Or.inl rfl | exact Or.inr rfl) (by decide)) pdgs_nil))) (pss_consD (pds_set (i := 4) sc_needless_stops.nd rfl (by first | exact Or.inl rfl | exact Or.inr rfl) (pd_callB (cd_any rfl) T.b_any (by decide +kernel) (pda_cons (pd_lc (own := [("ahead", 5)]) rfl sc_needless_stops.nd (pdi_seq (pd_slice (pd_var 0) pdo_none (pdo_some (pd_var 2)))) (blkOk_by (N := N_needless_stops_) (sc := defScope s_needless_stops) (by decide +kernel)) (fun _ _ _ _ _ => (pdg_name (i := 5) sc_needless_stops.nd rfl (by first | exact Or.inl rfl | exact Or.inr rfl) (by decide))) (fun _ _ _ _ _ => pdts_nil) (fun _ _ _ _ _ => (pd_cmp (opd_eq hr.units) (pd_callTy cd_tuple T.b_tuple (by decide +kernel) (pda_cons (pd_var 3) pda_nil)) (pd_callTy cd_tuple T.b_tuple (by decide +kernel) (pda_cons (pd_var 5) pda_nil)) (nomark _)))) pda_nil)))
  (pss_oneD (pds_if (PDw.pt (pdw_or (pdt_val (pd_var 4)) (pdw_or1 (pdt_val (pd_callB (cd_any rfl) T.b_any (by decide +kernel) (pda_cons (pd_lc (own := [("other", 6)]) rfl sc_needless_stops.nd (pdi_seq (pd_var 0)) (blkOk_by (N := N_needless_stops_) (sc := defScope s_needless_stops) (by decide +kernel)) (fun _ _ _ _ _ => (pdg_name (i := 6) sc_needless_stops.nd rfl (by first | exact Or.inl rfl | exact Or.inr rfl) (by decide))) (fun _ _ _ _ _ => pdts_nil) (fun _ _ _ _ _ => (pd_fn (ok_stands_ahead_of_end T) (hr.mono (by decide)) (pda_cons (pd_var 3) (pda_cons (pd_var 6) pda_nil))))) pda_nil)))))) (pss_oneD (pds_drop (pd_lm PySem.F.slot_list_append PySem.F.type_list_append md_append (pd_var 1) (pda_cons (pd_var 2) pda_nil)))) pss_nilD))))
  (pss_oneD (pds_ret (pd_callTy cd_tuple T.b_tuple (by decide +kernel) (pda_cons (pd_var 1) pda_nil))))))) (rd_needless_stops c)
theorem ok__law_hand (T : Txt K mg c) : FnC P w K mg base 1 "_law_hand" ["script"] (sp__law_hand c) :=
  FnC.mk T.d__law_hand sc__law_hand (by decide) (len__law_hand c) (fun f cdv A outer s H E hr => (pss_oneD (pds_ret (pd_lstM (pda_cons (pd_lc (own := [("cell", 1)]) rfl sc__law_hand.nd (pdi_seq (pd_slice (pd_var 0) pdo_none (pdo_some pd_int))) (blkOk_by (N := N__law_hand_) (sc := defScope s__law_hand) (by decide +kernel)) (fun _ _ _ _ _ => (pdg_name (i := 1) sc__law_hand.nd rfl (by first | exact Or.inl rfl | exact Or.inr rfl) (by decide))) (fun _ _ _ _ _ => pdts_nil) (fun _ _ _ _ _ => (pd_callTy cd_int T.b_int (by decide +kernel) (pda_cons (pd_var 1) pda_nil)))) (pda_cons pd_int (pda_cons pd_int (pda_cons pd_int pda_nil)))))))) (rd__law_hand c)
theorem ok__law_draw (T : Txt K mg c) : FnC P w K mg base 1 "_law_draw" ["hand", "many"] (sp__law_draw c) :=
  FnC.mk T.d__law_draw sc__law_draw (by decide) (len__law_draw c) (fun f cdv A outer s H E hr => (pss_consD (pds_if (PDw.pt (pdw_and (pdt_cmp (opd_eq hr.units) (pd_ix ixd (pd_var 0) pd_int) pd_int (nomark _)) (pdw_and1 (pdt_cmp opd_lt (pd_ix ixd (pd_var 0) pd_int) (pd_callB cd_len T.b_len (by decide +kernel) (pda_cons (pd_ix ixd (pd_var 0) pd_int) pda_nil)) (nomark _))))) (pss_consD (pds_set (i := 2) sc__law_draw.nd rfl (by first | exact Or.inl rfl | exact Or.inr rfl) (pd_ix ixd (pd_ix ixd (pd_var 0) pd_int) (pd_ix ixd (pd_var 0) pd_int)))
  (pss_consD (pds_setI (pd_var 0) pd_int (pd_op opd_add (pd_ix ixd (pd_var 0) pd_int) pd_int))
  (pss_consD (pds_if (pdt_cmp opd_ge (pd_var 2) (pd_op opd_pow pd_int pd_int) (nomark _)) (pss_oneD (pds_setI (pd_var 0) pd_int (pd_op opd_mod (pd_callTy cd_int T.b_int (by decide +kernel) (pda_cons (pd_var 2) pda_nil)) (pd_op opd_mul (pd_op opd_pow pd_int pd_int) (pd_op opd_pow pd_int pd_int))))) pss_nilD)
  (pss_oneD (pds_setI (pd_var 0) pd_int (pd_op opd_mod (pd_op opd_add (pd_op opd_add (pd_op opd_mul (pd_ix ixd (pd_var 0) pd_int) (pd_ix ixd (pd_var 0) pd_int)) (pd_op opd_mod (pd_callTy cd_int T.b_int (by decide +kernel) (pda_cons (pd_var 2) pda_nil)) pd_int)) (pd_ix ixd (pd_var 0) pd_int)) pd_int)))))) pss_nilD)
  (pss_consD (pds_if (pdt_cmp opd_gt (pd_ix ixd (pd_var 0) pd_int) pd_int (nomark _)) (pss_consD (pds_set (i := 3) sc__law_draw.nd rfl (by first | exact Or.inl rfl | exact Or.inr rfl) (pd_op opd_mod (pd_callTy cd_int T.b_int (by decide +kernel) (pda_cons (pd_ix ixd (pd_var 0) pd_int) pda_nil)) (pd_var 1)))
  (pss_consD (pds_setI (pd_var 0) pd_int (pd_op opd_div (pd_ix ixd (pd_var 0) pd_int) (pd_var 1)))
  (pss_oneD (pds_ret (pd_var 3))))) pss_nilD)
  (pss_consD (pds_setI (pd_var 0) pd_int (pd_op opd_mod (pd_op opd_add (pd_op opd_mul (pd_ix ixd (pd_var 0) pd_int) (pd_ix ixd (pd_var 0) pd_int)) pd_int) pd_int))
  (pss_oneD (pds_ret (pd_op opd_mod (pd_op opd_div (pd_callTy cd_int T.b_int (by decide +kernel) (pda_cons (pd_ix ixd (pd_var 0) pd_int) pda_nil)) pd_int) (pd_var 1)))))))) (rd__law_draw c)
theorem ok__law_same_n (T : Txt K mg c) : ∀ n : Nat, FnC P w K mg base (n + 1) "_law_same" ["told", "due"] (sp__law_same_n c n)
  | 0 => FnC.zero T.d__law_same
  | n + 1 => by
    have ih := ok__law_same_n T n
    exact FnC.mk T.d__law_same (k := n + 1) sc__law_same (by decide) (len__law_same_n c (n + 1)) (fun f cdv A outer s H E hr => (pss_consD (pds_if (pdt_val (pd_isi (T := "tuple") (pd_var 1) (pe_bltn rfl T.b_tuple (by decide +kernel) rfl) T.b_isinstance)) (pss_consD (pds_if (PDw.pt (pdw_or (pdt_not (pdt_val (pd_isi (T := "tuple") (pd_var 0) (pe_bltn rfl T.b_tuple (by decide +kernel) rfl) T.b_isinstance))) (pdw_or1 (pdt_cmp (opd_ne hr.units) (pd_callB cd_len T.b_len (by decide +kernel) (pda_cons (pd_var 0) pda_nil)) (pd_callB cd_len T.b_len (by decide +kernel) (pda_cons (pd_var 1) pda_nil)) (nomark _))))) (pss_oneD (pds_ret pd_bl)) pss_nilD)
  (pss_oneD (pds_ret (pd_callB (cd_all rfl) T.b_all (by decide +kernel) (pda_cons (pd_lc (own := [("k", 2)]) rfl sc__law_same.nd (pdi_rg1 T.b_range (pd_callB cd_len T.b_len (by decide +kernel) (pda_cons (pd_var 1) pda_nil))) (blkOk_by (N := N__law_same_) (sc := defScope s__law_same) (by decide +kernel)) (fun _ _ _ _ _ => (pdg_name (i := 2) sc__law_same.nd rfl (by first | exact Or.inl rfl | exact Or.inr rfl) (by decide))) (fun _ _ _ _ _ => pdts_nil) (fun _ _ _ _ _ => (pd_fn ih (hr.mono (by omega)) (pda_cons (pd_ix ixd (pd_var 0) (pd_var 2)) (pda_cons (pd_ix ixd (pd_var 1) (pd_var 2)) pda_nil))))) pda_nil))))) pss_nilD)
  (pss_consD (pds_if (pdt_cmp opd_isN (pd_var 1) pd_non (nomark _)) (pss_oneD (pds_ret (pd_cmp opd_isN (pd_var 0) pd_non (nomark _)))) pss_nilD)
  (pss_consD (pds_if (pdt_val (pd_isi (T := "bool") (pd_var 1) (pe_bltn rfl T.b_bool (by decide +kernel) rfl) T.b_isinstance)) (pss_oneD (pds_ret (pd_and (pd_isi (T := "bool") (pd_var 0) (pe_bltn rfl T.b_bool (by decide +kernel) rfl) T.b_isinstance) (pd_one (pd_cmp (opd_eq hr.units) (pd_var 0) (pd_var 1) (nomark _)))))) pss_nilD)
  (pss_consD (pds_if (pdt_val (pd_isi (T := "str") (pd_var 1) (pe_bltn rfl T.b_str (by decide +kernel) rfl) T.b_isinstance)) (pss_oneD (pds_ret (pd_and (pd_isi (T := "str") (pd_var 0) (pe_bltn rfl T.b_str (by decide +kernel) rfl) T.b_isinstance) (pd_one (pd_cmp (opd_eq hr.units) (pd_var 0) (pd_var 1) (nomark _)))))) pss_nilD)
  (pss_oneD (pds_ret (pd_and (pd_isi (T := "int") (pd_var 0) (pe_bltn rfl T.b_int (by decide +kernel) rfl) T.b_isinstance) (pd_and (pd_not (pd_isi (T := "bool") (pd_var 0) (pe_bltn rfl T.b_bool (by decide +kernel) rfl) T.b_isinstance)) (pd_one (pd_cmp (opd_eq hr.units) (pd_var 0) (pd_var 1) (nomark _)))))))))))) (rd__law_same c n)
theorem ok__law_same (T : Txt K mg c) : FnC P w K mg base 9 "_law_same" ["told", "due"] (sp__law_same c) := FnC.mono (FnC.imp (ok__law_same_n T 8) (imp__law_same c)) (by decide)
theorem ok__law_stopped (T : Txt K mg c) : FnC P w K mg base 1 "_law_stopped" ["ends", "text"] (sp__law_stopped c) :=
  FnC.mk T.d__law_stopped sc__law_stopped (by decide) (len__law_stopped c) (fun f cdv A outer s H E hr => (pss_consD (pds_set (i := 2) sc__law_stopped.nd rfl (by first | exact Or.inl rfl | exact Or.inr rfl) pd_int)
  (pss_consD (pds_for (vs := (List.range 4)) rfl (passes_of rfl) (pdi_seq (pd_var 0)) (pdg_name (i := 3) sc__law_stopped.nd rfl (by first | exact Or.inl rfl | exact Or.inr rfl) (by decide)) (pss_oneD (pds_if (PDw.pt (pdw_and (pdt_cmp opd_le (pd_callB cd_len T.b_len (by decide +kernel) (pda_cons (pd_var 3) pda_nil)) (pd_callB cd_len T.b_len (by decide +kernel) (pda_cons (pd_var 1) pda_nil)) (nomark _)) (pdw_and1 (pdt_cmp (opd_eq hr.units) (pd_callTy cd_list T.b_list (by decide +kernel) (pda_cons (pd_var 3) pda_nil)) (pd_callTy cd_list T.b_list (by decide +kernel) (pda_cons (pd_slice (pd_var 1) (pdo_some (pd_op opd_sub (pd_callB cd_len T.b_len (by decide +kernel) (pda_cons (pd_var 1) pda_nil)) (pd_callB cd_len T.b_len (by decide +kernel) (pda_cons (pd_var 3) pda_nil)))) pdo_none) pda_nil)) (nomark _))))) (pss_oneD (pds_set (i := 2) sc__law_stopped.nd rfl (by first | exact Or.inl rfl | exact Or.inr rfl) (pd_callB (cd_max2 rfl) T.b_max (by decide +kernel) (pda_cons (pd_var 2) (pda_cons (pd_callB cd_len T.b_len (by decide +kernel) (pda_cons (pd_var 3) pda_nil)) pda_nil))))) pss_nilD)))
  (pss_oneD (pds_ret (pd_var 2)))))) (rd__law_stopped c)
theorem ok__law_held (T : Txt K mg c) : FnC P w K mg base 1 "_law_held" ["ends", "text"] (sp__law_held c) :=
  FnC.mk T.d__law_held sc__law_held (by decide) (len__law_held c) (fun f cdv A outer s H E hr => (pss_consD (pds_set (i := 2) sc__law_held.nd rfl (by first | exact Or.inl rfl | exact Or.inr rfl) pd_int)
  (pss_consD (pds_for (vs := (List.range 5)) rfl (passes_of rfl) (pdi_seq (pd_var 0)) (pdg_name (i := 3) sc__law_held.nd rfl (by first | exact Or.inl rfl | exact Or.inr rfl) (by decide)) (pss_oneD (pds_for (vs := (List.range 5)) rfl (passes_of rfl) (pdi_rg2 T.b_range pd_int (pd_callB cd_len T.b_len (by decide +kernel) (pda_cons (pd_var 3) pda_nil))) (pdg_name (i := 4) sc__law_held.nd rfl (by first | exact Or.inl rfl | exact Or.inr rfl) (by decide)) (pss_oneD (pds_if (PDw.pt (pdw_and (pdt_cmp opd_le (pd_var 4) (pd_callB cd_len T.b_len (by decide +kernel) (pda_cons (pd_var 1) pda_nil)) (nomark _)) (pdw_and1 (pdt_cmp (opd_eq hr.units) (pd_callTy cd_list T.b_list (by decide +kernel) (pda_cons (pd_slice (pd_var 3) pdo_none (pdo_some (pd_var 4))) pda_nil)) (pd_callTy cd_list T.b_list (by decide +kernel) (pda_cons (pd_slice (pd_var 1) (pdo_some (pd_op opd_sub (pd_callB cd_len T.b_len (by decide +kernel) (pda_cons (pd_var 1) pda_nil)) (pd_var 4))) pdo_none) pda_nil)) (nomark _))))) (pss_oneD (pds_set (i := 2) sc__law_held.nd rfl (by first | exact Or.inl rfl | exact Or.inr rfl) (pd_callB (cd_max2 rfl) T.b_max (by decide +kernel) (pda_cons (pd_var 2) (pda_cons (pd_var 4) pda_nil))))) pss_nilD)))))
  (pss_oneD (pds_ret (pd_var 2)))))) (rd__law_held c)
theorem ok__law_alphabet (T : Txt K mg c) : FnC P w K mg base 2 "_law_alphabet" ["hand"] (sp__law_alphabet c) :=
  FnC.mk T.d__law_alphabet sc__law_alphabet (by decide) (len__law_alphabet c) (fun f cdv A outer s H E hr => (pss_consD (pds_set (i := 1) sc__law_alphabet.nd rfl (by first | exact Or.inl rfl | exact Or.inr rfl) (pd_fn (ok__law_draw T) (hr.mono (by decide)) (pda_cons (pd_var 0) (pda_cons pd_int pda_nil))))
  (pss_consD (pds_set (i := 2) sc__law_alphabet.nd rfl (by first | exact Or.inl rfl | exact Or.inr rfl) (pd_ix ixd (pd_tup (pda_cons pd_int (pda_cons pd_int (pda_cons pd_int (pda_cons pd_int pda_nil))))) (pd_fn (ok__law_draw T) (hr.mono (by decide)) (pda_cons (pd_var 0) (pda_cons pd_int pda_nil)))))
  (pss_oneD (pds_ret (pd_lc (own := [("k", 3)]) rfl sc__law_alphabet.nd (pdi_rg1 T.b_range (pd_op opd_add pd_int (pd_fn (ok__law_draw T) (hr.mono (by decide)) (pda_cons (pd_var 0) (pda_cons pd_int pda_nil))))) (blkOk_by (N := N__law_alphabet_) (sc := defScope s__law_alphabet) (by decide +kernel)) (fun _ _ _ _ _ => (pdg_name (i := 3) sc__law_alphabet.nd rfl (by first | exact Or.inl rfl | exact Or.inr rfl) (by decide))) (fun _ _ _ _ _ => pdts_nil) (fun _ _ _ _ _ => (pd_op opd_mod (pd_callTy cd_int T.b_int (by decide +kernel) (pda_cons (pd_op opd_add (pd_var 1) (pd_op opd_mul (pd_var 3) (pd_var 2))) pda_nil)) pd_int)))))))) (rd__law_alphabet c)
theorem ok__law_row (T : Txt K mg c) : FnC P w K mg base 2 "_law_row" ["hand", "alphabet", "least", "more"] (sp__law_row c) :=
  FnC.mk T.d__law_row sc__law_row (by decide) (len__law_row c) (fun f cdv A outer s H E hr => (pss_oneD (pds_ret (pd_lc (own := [("k", 4)]) rfl sc__law_row.nd (pdi_rg1 T.b_range (pd_op opd_add (pd_var 2) (pd_fn (ok__law_draw T) (hr.mono (by decide)) (pda_cons (pd_var 0) (pda_cons (pd_op opd_add (pd_var 3) pd_int) pda_nil))))) (blkOk_by (N := N__law_row_) (sc := defScope s__law_row) (by decide +kernel)) (fun _ _ _ _ _ => (pdg_name (i := 4) sc__law_row.nd rfl (by first | exact Or.inl rfl | exact Or.inr rfl) (by decide))) (fun _ _ _ _ _ => pdts_nil) (fun _ _ _ _ _ => (pd_ix ixd (pd_var 1) (pd_fn (ok__law_draw T) (hr.mono (by decide)) (pda_cons (pd_var 0) (pda_cons (pd_callB cd_len T.b_len (by decide +kernel) (pda_cons (pd_var 1) pda_nil)) pda_nil))))))))) (rd__law_row c)
theorem ok__law_ends (T : Txt K mg c) : FnC P w K mg base 3 "_law_ends" ["hand", "alphabet", "most"] (sp__law_ends c) :=
  FnC.mk T.d__law_ends sc__law_ends (by decide) (len__law_ends c) (fun f cdv A outer s H E hr => (pss_consD (pds_set (i := 3) sc__law_ends.nd rfl (by first | exact Or.inl rfl | exact Or.inr rfl) (pd_lstM pda_nil))
  (pss_consD (pds_for (vs := (List.range 8)) rfl (passes_of rfl) (pdi_rg1 T.b_range (pd_fn (ok__law_draw T) (hr.mono (by decide)) (pda_cons (pd_var 0) (pda_cons (pd_op opd_add (pd_var 2) pd_int) pda_nil)))) (pdg_name (i := 4) sc__law_ends.nd rfl (by first | exact Or.inl rfl | exact Or.inr rfl) (by decide)) (pss_consD (pds_set (i := 5) sc__law_ends.nd rfl (by first | exact Or.inl rfl | exact Or.inr rfl) (pd_fn (ok__law_row T) (hr.mono (by decide)) (pda_cons (pd_var 0) (pda_cons (pd_var 1) (pda_cons pd_int (pda_cons pd_int pda_nil))))))
  (pss_consD (pds_set (i := 6) sc__law_ends.nd rfl (by first | exact Or.inl rfl | exact Or.inr rfl) (pd_fn (ok__law_draw T) (hr.mono (by decide)) (pda_cons (pd_var 0) (pda_cons pd_int pda_nil))))
  (pss_consD (pds_if (pdt_cmp opd_gt (pd_callB cd_len T.b_len (by decide +kernel) (pda_cons (pd_var 3) pda_nil)) pd_int (nomark _)) (pss_consD (pds_set (i := 7) sc__law_ends.nd rfl (by first | exact Or.inl rfl | exact Or.inr rfl) (pd_ix ixd (pd_var 3) (pd_fn (ok__law_draw T) (hr.mono (by decide)) (pda_cons (pd_var 0) (pda_cons (pd_callB cd_len T.b_len (by decide +kernel) (pda_cons (pd_var 3) pda_nil)) pda_nil)))))
  (pss_oneD (pds_if (pdt_cmp (opd_eq hr.units) (pd_var 6) pd_int (nomark _)) (pss_oneD (pds_set (i := 5) sc__law_ends.nd rfl (by first | exact Or.inl rfl | exact Or.inr rfl) (pd_op opd_add (pd_var 7) (pd_var 5)))) (pss_oneD (pds_if (pdt_cmp (opd_eq hr.units) (pd_var 6) pd_int (nomark _)) (pss_oneD (pds_set (i := 5) sc__law_ends.nd rfl (by first | exact Or.inl rfl | exact Or.inr rfl) (pd_op opd_add (pd_op opd_add (pd_slice (pd_var 5) pdo_none (pdo_some pd_int)) (pd_var 7)) (pd_slice (pd_var 5) (pdo_some pd_int) pdo_none)))) (pss_oneD (pds_if (pdt_cmp (opd_eq hr.units) (pd_var 6) pd_int (nomark _)) (pss_oneD (pds_set (i := 5) sc__law_ends.nd rfl (by first | exact Or.inl rfl | exact Or.inr rfl) (pd_slice (pd_var 7) (pdo_some (pd_fn (ok__law_draw T) (hr.mono (by decide)) (pda_cons (pd_var 0) (pda_cons (pd_callB cd_len T.b_len (by decide +kernel) (pda_cons (pd_var 7) pda_nil)) pda_nil)))) pdo_none))) (pss_oneD (pds_if (pdt_cmp (opd_eq hr.units) (pd_var 6) pd_int (nomark _)) (pss_oneD (pds_set (i := 5) sc__law_ends.nd rfl (by first | exact Or.inl rfl | exact Or.inr rfl) (pd_op opd_add (pd_slice (pd_var 7) pdo_none (pdo_some (pd_un und_neg pd_int))) (pd_slice (pd_var 5) pdo_none (pdo_some pd_int))))) pss_nilD))))))))) pss_nilD)
  (pss_oneD (pds_drop (pd_lm PySem.F.slot_list_append PySem.F.type_list_append md_append (pd_var 3) (pda_cons (pd_slice (pd_var 5) pdo_none (pdo_some pd_int)) pda_nil))))))))
  (pss_oneD (pds_ret (pd_frz (pd_var 3))))))) (rd__law_ends c)
theorem ok__law_changed (T : Txt K mg c) : FnC P w K mg base 2 "_law_changed" ["hand", "ends", "alphabet"] (sp__law_changed c) :=
  FnC.mk T.d__law_changed sc__law_changed (by decide) (len__law_changed c) (fun f cdv A outer s H E hr => (pss_consD (by first | exact pds_setLcM (i := 3) rfl sc__law_changed.nd rfl rfl (sw_true rfl rfl rfl (by decide +kernel)) (own := [("end", 7)]) (pdi_seq (pd_var 1)) (blkOk_by (N := N__law_changed_) (sc := defScope s__law_changed) (by decide +kernel)) (fun _ _ _ _ _ => (pdg_name (i := 7) sc__law_changed.nd rfl (by first | exact Or.inl rfl | exact Or.inr rfl) (by decide))) (fun _ _ _ _ _ => pdts_nil) (fun _ _ _ _ _ => (pd_callTy cd_list T.b_list (by decide +kernel) (pda_cons (pd_var 7) pda_nil))) | exact pds_set (i := 3) sc__law_changed.nd rfl (by first | exact Or.inl rfl | exact Or.inr rfl) (pd_lcM (own := [("end", 7)]) rfl sc__law_changed.nd (pdi_seq (pd_var 1)) (blkOk_by (N := N__law_changed_) (sc := defScope s__law_changed) (by decide +kernel)) (fun _ _ _ _ _ => (pdg_name (i := 7) sc__law_changed.nd rfl (by first | exact Or.inl rfl | exact Or.inr rfl) (by decide))) (fun _ _ _ _ _ => pdts_nil) (fun _ _ _ _ _ => (pd_callTy cd_list T.b_list (by decide +kernel) (pda_cons (pd_var 7) pda_nil)))))
  (pss_consD (pds_set (i := 4) sc__law_changed.nd rfl (by first | exact Or.inl rfl | exact Or.inr rfl) (pd_fn (ok__law_draw T) (hr.mono (by decide)) (pda_cons (pd_var 0) (pda_cons pd_int pda_nil))))
  (pss_consD (pds_set (i := 5) sc__law_changed.nd rfl (by first | exact Or.inl rfl | exact Or.inr rfl) (pd_ix ixd (pd_var 2) (pd_fn (ok__law_draw T) (hr.mono (by decide)) (pda_cons (pd_var 0) (pda_cons (pd_callB cd_len T.b_len (by decide +kernel) (pda_cons (pd_var 2) pda_nil)) pda_nil)))))
  (pss_consD (pds_if (pdt_cmp (opd_eq hr.units) (pd_callB cd_len T.b_len (by decide +kernel) (pda_cons (pd_var 3) pda_nil)) pd_int (nomark _)) (pss_oneD (pds_ret (pd_lst (pda_cons (pd_lst (pda_cons (pd_var 5) pda_nil)) pda_nil)))) pss_nilD)
  (pss_consD (pds_set (i := 6) sc__law_changed.nd rfl (by first | exact Or.inl rfl | exact Or.inr rfl) (pd_fn (ok__law_draw T) (hr.mono (by decide)) (pda_cons (pd_var 0) (pda_cons (pd_callB cd_len T.b_len (by decide +kernel) (pda_cons (pd_var 3) pda_nil)) pda_nil))))
  (pss_consD (pds_if (pdt_cmp (opd_eq hr.units) (pd_var 4) pd_int (nomark _)) (pss_oneD (pds_ret (pd_op opd_add (pd_slice (pd_var 3) pdo_none (pdo_some (pd_var 6))) (pd_slice (pd_var 3) (pdo_some (pd_op opd_add (pd_var 6) pd_int)) pdo_none)))) pss_nilD)
  (pss_consD (pds_if (PDw.pt (pdw_and (pdt_cmp (opd_eq hr.units) (pd_var 4) pd_int (nomark _)) (pdw_and1 (pdt_cmp opd_lt (pd_callB cd_len T.b_len (by decide +kernel) (pda_cons (pd_var 3) pda_nil)) pd_int (nomark _))))) (pss_oneD (pds_ret (pd_op opd_add (pd_var 3) (pd_lst (pda_cons (pd_op opd_add (pd_lst (pda_cons (pd_var 5) pda_nil)) (pd_slice (pd_ix ixd (pd_var 3) (pd_var 6)) pdo_none (pdo_some (pd_fn (ok__law_draw T) (hr.mono (by decide)) (pda_cons (pd_var 0) (pda_cons pd_int pda_nil)))))) pda_nil))))) pss_nilD)
  (pss_consD (pds_if (pdt_cmp (opd_eq hr.units) (pd_var 4) pd_int (nomark _)) (pss_oneD (pds_setI (pd_var 3) (pd_var 6) (pd_op opd_add (pd_slice (pd_ix ixd (pd_var 3) (pd_var 6)) pdo_none (pdo_some (pd_un und_neg pd_int))) (pd_lst (pda_cons (pd_var 5) pda_nil))))) (pss_oneD (pds_setI (pd_var 3) (pd_var 6) (pd_slice (pd_op opd_add (pd_ix ixd (pd_var 3) (pd_var 6)) (pd_lst (pda_cons (pd_var 5) pda_nil))) pdo_none (pdo_some pd_int)))))
  (pss_oneD (pds_ret (pd_frz (pd_var 3))))))))))))) (rd__law_changed c)
theorem ok__law_mixed_up (T : Txt K mg c) : FnC P w K mg base 2 "_law_mixed_up" ["hand", "ends"] (sp__law_mixed_up c) :=
  FnC.mk T.d__law_mixed_up sc__law_mixed_up (by decide) (len__law_mixed_up c) (fun f cdv A outer s H E hr => (pss_consD (by first | exact pds_setLcM (i := 2) rfl sc__law_mixed_up.nd rfl rfl (sw_true rfl rfl rfl (by decide +kernel)) (own := [("end", 5)]) (pdi_seq (pd_var 1)) (blkOk_by (N := N__law_mixed_up_) (sc := defScope s__law_mixed_up) (by decide +kernel)) (fun _ _ _ _ _ => (pdg_name (i := 5) sc__law_mixed_up.nd rfl (by first | exact Or.inl rfl | exact Or.inr rfl) (by decide))) (fun _ _ _ _ _ => pdts_nil) (fun _ _ _ _ _ => (pd_callTy cd_list T.b_list (by decide +kernel) (pda_cons (pd_var 5) pda_nil))) | exact pds_set (i := 2) sc__law_mixed_up.nd rfl (by first | exact Or.inl rfl | exact Or.inr rfl) (pd_lcM (own := [("end", 5)]) rfl sc__law_mixed_up.nd (pdi_seq (pd_var 1)) (blkOk_by (N := N__law_mixed_up_) (sc := defScope s__law_mixed_up) (by decide +kernel)) (fun _ _ _ _ _ => (pdg_name (i := 5) sc__law_mixed_up.nd rfl (by first | exact Or.inl rfl | exact Or.inr rfl) (by decide))) (fun _ _ _ _ _ => pdts_nil) (fun _ _ _ _ _ => (pd_callTy cd_list T.b_list (by decide +kernel) (pda_cons (pd_var 5) pda_nil)))))
  (pss_consD (pds_set (i := 3) sc__law_mixed_up.nd rfl (by first | exact Or.inl rfl | exact Or.inr rfl) (pd_lstM pda_nil))
  (pss_consD (pds_for (vs := (List.range 6)) rfl (passes_of rfl) (pdi_rg1 T.b_range (pd_callB cd_len T.b_len (by decide +kernel) (pda_cons (pd_var 1) pda_nil))) (pdg_name (i := 4) sc__law_mixed_up.nd rfl (by first | exact Or.inl rfl | exact Or.inr rfl) (by decide)) (pss_oneD (pds_drop (pd_lm PySem.F.slot_list_append PySem.F.type_list_append md_append (pd_var 3) (pda_cons (pd_lm PySem.F.slot_list_pop PySem.F.type_list_pop md_popAt (pd_var 2) (pda_cons (pd_fn (ok__law_draw T) (hr.mono (by decide)) (pda_cons (pd_var 0) (pda_cons (pd_callB cd_len T.b_len (by decide +kernel) (pda_cons (pd_var 2) pda_nil)) pda_nil))) pda_nil)) pda_nil)))))
  (pss_oneD (pds_ret (pd_frz (pd_var 3)))))))) (rd__law_mixed_up c)
theorem ok__law_needless (T : Txt K mg c) : FnC P w K mg base 1 "_law_needless" ["ends"] (sp__law_needless c) :=
  FnC.mk T.d__law_needless sc__law_needless (by decide) (len__law_needless c) (fun f cdv A outer s H E hr => (pss_consD (pds_set (i := 1) sc__law_needless.nd rfl (by first | exact Or.inl rfl | exact Or.inr rfl) (pd_lstM pda_nil))
  (pss_consD (pds_for (vs := (List.range 6)) rfl (passes_of rfl) (pdi_rg1 T.b_range (pd_callB cd_len T.b_len (by decide +kernel) (pda_cons (pd_var 0) pda_nil))) (pdg_name (i := 2) sc__law_needless.nd rfl (by first | exact Or.inl rfl | exact Or.inr rfl) (by decide)) (pss_consD (pds_set (i := 3) sc__law_needless.nd rfl (by first | exact Or.inl rfl | exact Or.inr rfl) (pd_cmp (opd_inD hr.units) (pd_ix ixd (pd_var 0) (pd_var 2)) (pd_slice (pd_var 0) pdo_none (pdo_some (pd_var 2))) (by rfl)))
  (pss_consD (pds_for (vs := (List.range 6)) rfl (passes_of rfl) (pdi_seq (pd_var 0)) (pdg_name (i := 4) sc__law_needless.nd rfl (by first | exact Or.inl rfl | exact Or.inr rfl) (by decide)) (pss_oneD (pds_for (vs := (List.range 6)) rfl (passes_of rfl) (pdi_rg1 T.b_range (pd_op opd_sub (pd_callB cd_len T.b_len (by decide +kernel) (pda_cons (pd_ix ixd (pd_var 0) (pd_var 2)) pda_nil)) (pd_callB cd_len T.b_len (by decide +kernel) (pda_cons (pd_var 4) pda_nil)))) (pdg_name (i := 5) sc__law_needless.nd rfl (by first | exact Or.inl rfl | exact Or.inr rfl) (by decide)) (pss_oneD (pds_set (i := 3) sc__law_needless.nd rfl (by first | exact Or.inl rfl | exact Or.inr rfl) (pd_or (pd_var 3) (pd_one (pd_cmp (opd_eq hr.units) (pd_slice (pd_ix ixd (pd_var 0) (pd_var 2)) (pdo_some (pd_var 5)) (pdo_some (pd_op opd_add (pd_var 5) (pd_callB cd_len T.b_len (by decide +kernel) (pda_cons (pd_var 4) pda_nil))))) (pd_var 4) (nomark _)))))))))
  (pss_oneD (pds_if (pdt_val (pd_var 3)) (pss_oneD (pds_drop (pd_lm PySem.F.slot_list_append PySem.F.type_list_append md_append (pd_var 1) (pda_cons (pd_var 2) pda_nil)))) pss_nilD)))))
  (pss_oneD (pds_ret (pd_callTy cd_tuple T.b_tuple (by decide +kernel) (pda_cons (pd_var 1) pda_nil))))))) (rd__law_needless c)
theorem ok__law_fed (T : Txt K mg c) : FnC P w K mg base 3 "_law_fed" ["ends", "text"] (sp__law_fed c) :=
  FnC.mk T.d__law_fed sc__law_fed (by decide) (len__law_fed c) (fun f cdv A outer s H E hr => (pss_consD (by first | exact pds_setLcM (i := 2) rfl sc__law_fed.nd rfl rfl (sw_true rfl rfl rfl (by decide +kernel)) (own := [("end", 5)]) (pdi_seq (pd_var 0)) (blkOk_by (N := N__law_fed_) (sc := defScope s__law_fed) (by decide +kernel)) (fun _ _ _ _ _ => (pdg_name (i := 5) sc__law_fed.nd rfl (by first | exact Or.inl rfl | exact Or.inr rfl) (by decide))) (fun _ _ _ _ _ => pdts_nil) (fun _ _ _ _ _ => (pd_callTy cd_listM T.b_list (by decide +kernel) (pda_cons (pd_var 5) pda_nil))) | exact pds_set (i := 2) sc__law_fed.nd rfl (by first | exact Or.inl rfl | exact Or.inr rfl) (pd_lcM (own := [("end", 5)]) rfl sc__law_fed.nd (pdi_seq (pd_var 0)) (blkOk_by (N := N__law_fed_) (sc := defScope s__law_fed) (by decide +kernel)) (fun _ _ _ _ _ => (pdg_name (i := 5) sc__law_fed.nd rfl (by first | exact Or.inl rfl | exact Or.inr rfl) (by decide))) (fun _ _ _ _ _ => pdts_nil) (fun _ _ _ _ _ => (pd_callTy cd_listM T.b_list (by decide +kernel) (pda_cons (pd_var 5) pda_nil)))))
  (pss_consD (pds_set (i := 3) sc__law_fed.nd rfl (by first | exact Or.inl rfl | exact Or.inr rfl) (pd_mk (N := N_Stopper) (ok_Stopper_init T) T.mk_Stopper (by decide +kernel) (by decide) (hr.mono (by decide)) (pda_cons (pd_var 2) pda_nil)))
  (pss_consD (pds_drop (pd_lm PySem.F.slot_list_append PySem.F.type_list_append md_append (pd_var 2) (pda_cons (pd_lstM (pda_cons pd_int pda_nil)) pda_nil)))
  (pss_consD (pds_drop (pd_lm PySem.F.slot_list_append PySem.F.type_list_append md_append (pd_ix ixd (pd_var 2) pd_int) (pda_cons pd_int pda_nil)))
  (pss_consD (by first | exact pds_setLc (i := 4) rfl sc__law_fed.nd rfl rfl (sw_true rfl rfl rfl (by decide +kernel)) (own := [("letter", 6)]) (pdi_seq (pd_var 1)) (blkOk_by (N := N__law_fed_) (sc := defScope s__law_fed) (by decide +kernel)) (fun _ _ _ _ _ => (pdg_name (i := 6) sc__law_fed.nd rfl (by first | exact Or.inl rfl | exact Or.inr rfl) (by decide))) (fun _ _ _ _ _ => pdts_nil) (fun _ _ _ _ _ => (pd_mt (N := N_Stopper) T.cl_Stopper (ok_Stopper_feed T) (by decide +kernel) (hr.mono (by decide)) (pd_var 3) (pda_cons (pd_var 6) pda_nil))) | exact pds_set (i := 4) sc__law_fed.nd rfl (by first | exact Or.inl rfl | exact Or.inr rfl) (pd_lc (own := [("letter", 6)]) rfl sc__law_fed.nd (pdi_seq (pd_var 1)) (blkOk_by (N := N__law_fed_) (sc := defScope s__law_fed) (by decide +kernel)) (fun _ _ _ _ _ => (pdg_name (i := 6) sc__law_fed.nd rfl (by first | exact Or.inl rfl | exact Or.inr rfl) (by decide))) (fun _ _ _ _ _ => pdts_nil) (fun _ _ _ _ _ => (pd_mt (N := N_Stopper) T.cl_Stopper (ok_Stopper_feed T) (by decide +kernel) (hr.mono (by decide)) (pd_var 3) (pda_cons (pd_var 6) pda_nil)))))
  (pss_oneD (pds_ret (pd_tup (pda_cons (pd_callTy cd_tuple T.b_tuple (by decide +kernel) (pda_cons (pd_var 4) pda_nil)) (pda_cons (pd_mt0 (N := N_Stopper) T.cl_Stopper (ok_Stopper_has_stopped T) (by decide +kernel) (hr.mono (by decide)) (pd_var 3)) (pda_cons (pd_mt0 (N := N_Stopper) T.cl_Stopper (ok_Stopper_letters_held T) (by decide +kernel) (hr.mono (by decide)) (pd_var 3)) pda_nil)))))))))))) (rd__law_fed c)
theorem ok__law_due (T : Txt K mg c) : FnC P w K mg base 2 "_law_due" ["ends", "text"] (sp__law_due c) :=
  FnC.mk T.d__law_due sc__law_due (by decide) (len__law_due c) (fun f cdv A outer s H E hr => (pss_consD (pds_set (i := 2) sc__law_due.nd rfl (by first | exact Or.inl rfl | exact Or.inr rfl) (pd_lstM pda_nil))
  (pss_consD (pds_set (i := 3) sc__law_due.nd rfl (by first | exact Or.inl rfl | exact Or.inr rfl) pd_int)
  (pss_consD (pds_set (i := 4) sc__law_due.nd rfl (by first | exact Or.inl rfl | exact Or.inr rfl) pd_bl)
  (pss_consD (pds_for (vs := (List.range 9)) rfl (passes_of rfl) (pdi_rg1 T.b_range (pd_callB cd_len T.b_len (by decide +kernel) (pda_cons (pd_var 1) pda_nil))) (pdg_name (i := 5) sc__law_due.nd rfl (by first | exact Or.inl rfl | exact Or.inr rfl) (by decide)) (pss_consD (pds_set (i := 6) sc__law_due.nd rfl (by first | exact Or.inl rfl | exact Or.inr rfl) (pd_var 3))
  (pss_consD (pds_if (pdt_not (pdt_val (pd_var 4))) (pss_consD (pds_set (i := 7) sc__law_due.nd rfl (by first | exact Or.inl rfl | exact Or.inr rfl) (pd_slice (pd_var 1) pdo_none (pdo_some (pd_op opd_add (pd_var 5) pd_int))))
  (pss_consD (pds_set (i := 8) sc__law_due.nd rfl (by first | exact Or.inl rfl | exact Or.inr rfl) (pd_fn (ok__law_stopped T) (hr.mono (by decide)) (pda_cons (pd_var 0) (pda_cons (pd_var 7) pda_nil))))
  (pss_consD (pds_set (i := 4) sc__law_due.nd rfl (by first | exact Or.inl rfl | exact Or.inr rfl) (pd_cmp opd_gt (pd_var 8) pd_int (nomark _)))
  (pss_oneD (pds_set (i := 6) sc__law_due.nd rfl (by first | exact Or.inl rfl | exact Or.inr rfl) (pd_op opd_sub (pd_op opd_add (pd_var 5) pd_int) (pd_ifE (pdt_val (pd_var 4)) (pd_var 8) (pd_fn (ok__law_held T) (hr.mono (by decide)) (pda_cons (pd_var 0) (pda_cons (pd_var 7) pda_nil)))))))))) pss_nilD)
  (pss_consD (pds_drop (pd_lm PySem.F.slot_list_append PySem.F.type_list_append md_append (pd_var 2) (pda_cons (pd_callTy cd_tuple T.b_tuple (by decide +kernel) (pda_cons (pd_slice (pd_var 1) (pdo_some (pd_var 3)) (pdo_some (pd_var 6))) pda_nil)) pda_nil)))
  (pss_oneD (pds_set (i := 3) sc__law_due.nd rfl (by first | exact Or.inl rfl | exact Or.inr rfl) (pd_var 6)))))))
  (pss_oneD (pds_ret (pd_tup (pda_cons (pd_callTy cd_tuple T.b_tuple (by decide +kernel) (pda_cons (pd_var 2) pda_nil)) (pda_cons (pd_var 4) (pda_cons (pd_ifE (pdt_val (pd_var 4)) (pd_tup pda_nil) (pd_callTy cd_tuple T.b_tuple (by decide +kernel) (pda_cons (pd_slice (pd_var 1) (pdo_some (pd_var 3)) pdo_none) pda_nil))) pda_nil))))))))))) (rd__law_due c)
theorem ok__law_stands (T : Txt K mg c) : FnC P w K mg base 2 "_law_stands" ["ends", "text"] (sp__law_stands c) :=
  FnC.mk T.d__law_stands sc__law_stands (by decide) (len__law_stands c) (fun f cdv A outer s H E hr => (pss_consD (pds_for (vs := (List.range 4)) rfl (passes_of rfl) (pdi_rg2 T.b_range pd_int (pd_op opd_add (pd_callB cd_len T.b_len (by decide +kernel) (pda_cons (pd_var 1) pda_nil)) pd_int)) (pdg_name (i := 2) sc__law_stands.nd rfl (by first | exact Or.inl rfl | exact Or.inr rfl) (by decide)) (pss_consD (pds_set (i := 3) sc__law_stands.nd rfl (by first | exact Or.inl rfl | exact Or.inr rfl) (pd_fn (ok__law_stopped T) (hr.mono (by decide)) (pda_cons (pd_var 0) (pda_cons (pd_slice (pd_var 1) pdo_none (pdo_some (pd_var 2))) pda_nil))))
  (pss_oneD (pds_if (pdt_cmp opd_gt (pd_var 3) pd_int (nomark _)) (pss_oneD (pds_ret (pd_tup (pda_cons pd_bl (pda_cons (pd_op opd_sub (pd_var 2) (pd_var 3)) pda_nil))))) pss_nilD))))
  (pss_oneD (pds_ret (pd_tup (pda_cons pd_bl (pda_cons pd_int pda_nil))))))) (rd__law_stands c)
theorem ok__law_parted (T : Txt K mg c) : FnC P w K mg base 3 "_law_parted" ["ends", "others", "text"] (sp__law_parted c) :=
  FnC.mk T.d__law_parted sc__law_parted (by decide) (len__law_parted c) (fun f cdv A outer s H E hr => (pss_oneD (pds_ret (pd_cmp (opd_ne hr.units) (pd_fn (ok__law_stands T) (hr.mono (by decide)) (pda_cons (pd_var 0) (pda_cons (pd_var 2) pda_nil))) (pd_fn (ok__law_stands T) (hr.mono (by decide)) (pda_cons (pd_var 1) (pda_cons (pd_var 2) pda_nil))) (nomark _))))) (rd__law_parted c)
theorem ok__law_left (T : Txt K mg c) : FnC P w K mg base 2 "_law_left" ["ends"] (sp__law_left c) :=
  FnC.mk T.d__law_left sc__law_left (by decide) (len__law_left c) (fun f cdv A outer s H E hr => (pss_consD (pds_set (i := 1) sc__law_left.nd rfl (by first | exact Or.inl rfl | exact Or.inr rfl) (pd_fn (ok__law_needless T) (hr.mono (by decide)) (pda_cons (pd_var 0) pda_nil)))
  (pss_oneD (pds_ret (pd_lc (own := [("k", 2)]) rfl sc__law_left.nd (pdi_rg1 T.b_range (pd_callB cd_len T.b_len (by decide +kernel) (pda_cons (pd_var 0) pda_nil))) (blkOk_by (N := N__law_left_) (sc := defScope s__law_left) (by decide +kernel)) (fun _ _ _ _ _ => (pdg_name (i := 2) sc__law_left.nd rfl (by first | exact Or.inl rfl | exact Or.inr rfl) (by decide))) (fun _ _ _ _ _ => (pdts_one (pdt_cmp (opd_notInD hr.units) (pd_var 2) (pd_var 1) (by rfl)))) (fun _ _ _ _ _ => (pd_ix ixd (pd_var 0) (pd_var 2)))))))) (rd__law_left c)
theorem ok__law_told (T : Txt K mg c) : FnC P w K mg base 10 "_law_told" ["ends"] (sp__law_told c) :=
  FnC.mk T.d__law_told sc__law_told (by decide) (len__law_told c) (fun f cdv A outer s H E hr => (pss_consD (pds_set (i := 1) sc__law_told.nd rfl (by first | exact Or.inl rfl | exact Or.inr rfl) (pd_fn (ok__law_needless T) (hr.mono (by decide)) (pda_cons (pd_var 0) pda_nil)))
  (pss_consD (by first | exact pds_setLc (i := 2) rfl sc__law_told.nd rfl rfl (sw_true rfl rfl rfl (by decide +kernel)) (own := [("end", 4)]) (pdi_seq (pd_var 0)) (blkOk_by (N := N__law_told_) (sc := defScope s__law_told) (by decide +kernel)) (fun _ _ _ _ _ => (pdg_name (i := 4) sc__law_told.nd rfl (by first | exact Or.inl rfl | exact Or.inr rfl) (by decide))) (fun _ _ _ _ _ => pdts_nil) (fun _ _ _ _ _ => (pd_callTy cd_list T.b_list (by decide +kernel) (pda_cons (pd_var 4) pda_nil))) | exact pds_set (i := 2) sc__law_told.nd rfl (by first | exact Or.inl rfl | exact Or.inr rfl) (pd_lc (own := [("end", 4)]) rfl sc__law_told.nd (pdi_seq (pd_var 0)) (blkOk_by (N := N__law_told_) (sc := defScope s__law_told) (by decide +kernel)) (fun _ _ _ _ _ => (pdg_name (i := 4) sc__law_told.nd rfl (by first | exact Or.inl rfl | exact Or.inr rfl) (by decide))) (fun _ _ _ _ _ => pdts_nil) (fun _ _ _ _ _ => (pd_callTy cd_list T.b_list (by decide +kernel) (pda_cons (pd_var 4) pda_nil)))))
  (pss_consD (pds_set (i := 3) sc__law_told.nd rfl (by first | exact Or.inl rfl | exact Or.inr rfl) (pd_fn (ok_needless_stops T) (hr.mono (by decide)) (pda_cons (pd_var 2) pda_nil)))
  (pss_oneD (pds_ret (pd_and (pd_fn (ok__law_same T) (hr.mono (by decide)) (pda_cons (pd_var 3) (pda_cons (pd_var 1) pda_nil))) (pd_and (pd_cmp (opd_eq hr.units) (pd_var 2) (pd_var 0) (nomark _)) (pd_one (pd_fn (ok__law_same T) (hr.mono (by decide)) (pda_cons (pd_fn (ok_needless_stops T) (hr.mono (by decide)) (pda_cons (pd_callTy cd_tuple T.b_tuple (by decide +kernel) (pda_cons (pd_var 2) pda_nil)) pda_nil)) (pda_cons (pd_var 1) pda_nil)))))))))))) (rd__law_told c)
theorem ok__law_short_texts (T : Txt K mg c) : FnC P w K mg base 1 "_law_short_texts" ["alphabet", "outside", "many"] (sp__law_short_texts c) :=
  FnC.mk T.d__law_short_texts sc__law_short_texts (by decide) (len__law_short_texts c) (fun f cdv A outer s H E hr => (pss_consD (pds_set (i := 3) sc__law_short_texts.nd rfl (by first | exact Or.inl rfl | exact Or.inr rfl) (pd_lstM pda_nil))
  (pss_consD (pds_if (pdt_cmp opd_gt (pd_var 2) pd_int (nomark _)) (pss_oneD (pds_drop (pd_lm PySem.F.slot_list_extend PySem.F.type_list_extend md_extend (pd_var 3) (pda_cons (pd_lc (own := [("one", 4)]) rfl sc__law_short_texts.nd (pdi_seq (pd_op opd_add (pd_var 0) (pd_lst (pda_cons (pd_var 1) pda_nil)))) (blkOk_by (N := N__law_short_texts_) (sc := defScope s__law_short_texts) (by decide +kernel)) (fun _ _ _ _ _ => (pdg_name (i := 4) sc__law_short_texts.nd rfl (by first | exact Or.inl rfl | exact Or.inr rfl) (by decide))) (fun _ _ _ _ _ => pdts_nil) (fun _ _ _ _ _ => (pd_tup (pda_cons (pd_var 4) pda_nil)))) pda_nil)))) pss_nilD)
  (pss_consD (pds_if (pdt_cmp opd_gt (pd_var 2) pd_int (nomark _)) (pss_oneD (pds_for (vs := (List.range 6)) rfl (passes_of rfl) (pdi_seq (pd_op opd_add (pd_var 0) (pd_lst (pda_cons (pd_var 1) pda_nil)))) (pdg_name (i := 4) sc__law_short_texts.nd rfl (by first | exact Or.inl rfl | exact Or.inr rfl) (by decide)) (pss_oneD (pds_drop (pd_lm PySem.F.slot_list_extend PySem.F.type_list_extend md_extend (pd_var 3) (pda_cons (pd_lc (own := [("two", 5)]) rfl sc__law_short_texts.nd (pdi_seq (pd_op opd_add (pd_var 0) (pd_lst (pda_cons (pd_var 1) pda_nil)))) (blkOk_by (N := N__law_short_texts_) (sc := defScope s__law_short_texts) (by decide +kernel)) (fun _ _ _ _ _ => (pdg_name (i := 5) sc__law_short_texts.nd rfl (by first | exact Or.inl rfl | exact Or.inr rfl) (by decide))) (fun _ _ _ _ _ => pdts_nil) (fun _ _ _ _ _ => (pd_tup (pda_cons (pd_var 4) (pda_cons (pd_var 5) pda_nil))))) pda_nil)))))) pss_nilD)
  (pss_oneD (pds_ret (pd_frz (pd_var 3)))))))) (rd__law_short_texts c)
theorem ok__law_compared (T : Txt K mg c) : FnC P w K mg base 10 "_law_compared" ["alphabet", "ends", "others"] (sp__law_compared c) :=
  FnC.mk T.d__law_compared sc__law_compared (by decide) (len__law_compared c) (fun f cdv A outer s H E hr => (pss_consD (pds_set (i := 3) sc__law_compared.nd rfl (by first | exact Or.inl rfl | exact Or.inr rfl) (pd_fn (ok__law_left T) (hr.mono (by decide)) (pda_cons (pd_var 1) pda_nil)))
  (pss_consD (pds_set (i := 4) sc__law_compared.nd rfl (by first | exact Or.inl rfl | exact Or.inr rfl) (pd_fn (ok__law_left T) (hr.mono (by decide)) (pda_cons (pd_var 2) pda_nil)))
  (pss_consD (pds_set (i := 5) sc__law_compared.nd rfl (by first | exact Or.inl rfl | exact Or.inr rfl) (pd_op opd_add (pd_lc (own := [("row", 9)]) rfl sc__law_compared.nd (pdi_seq (pd_var 3)) (blkOk_by (N := N__law_compared_) (sc := defScope s__law_compared) (by decide +kernel)) (fun _ _ _ _ _ => (pdg_name (i := 9) sc__law_compared.nd rfl (by first | exact Or.inl rfl | exact Or.inr rfl) (by decide))) (fun _ _ _ _ _ => (pdts_one (pdt_cmp (opd_notInD hr.units) (pd_var 9) (pd_var 4) (by rfl)))) (fun _ _ _ _ _ => (pd_var 9))) (pd_lc (own := [("row", 9)]) rfl sc__law_compared.nd (pdi_seq (pd_var 4)) (blkOk_by (N := N__law_compared_) (sc := defScope s__law_compared) (by decide +kernel)) (fun _ _ _ _ _ => (pdg_name (i := 9) sc__law_compared.nd rfl (by first | exact Or.inl rfl | exact Or.inr rfl) (by decide))) (fun _ _ _ _ _ => (pdts_one (pdt_cmp (opd_notInD hr.units) (pd_var 9) (pd_var 3) (by rfl)))) (fun _ _ _ _ _ => (pd_var 9)))))
  (pss_consD (by first | exact pds_setLc (i := 6) rfl sc__law_compared.nd rfl rfl (sw_true rfl rfl rfl (by decide +kernel)) (own := [("end", 13)]) (pdi_seq (pd_var 1)) (blkOk_by (N := N__law_compared_) (sc := defScope s__law_compared) (by decide +kernel)) (fun _ _ _ _ _ => (pdg_name (i := 13) sc__law_compared.nd rfl (by first | exact Or.inl rfl | exact Or.inr rfl) (by decide))) (fun _ _ _ _ _ => pdts_nil) (fun _ _ _ _ _ => (pd_callTy cd_list T.b_list (by decide +kernel) (pda_cons (pd_var 13) pda_nil))) | exact pds_set (i := 6) sc__law_compared.nd rfl (by first | exact Or.inl rfl | exact Or.inr rfl) (pd_lc (own := [("end", 13)]) rfl sc__law_compared.nd (pdi_seq (pd_var 1)) (blkOk_by (N := N__law_compared_) (sc := defScope s__law_compared) (by decide +kernel)) (fun _ _ _ _ _ => (pdg_name (i := 13) sc__law_compared.nd rfl (by first | exact Or.inl rfl | exact Or.inr rfl) (by decide))) (fun _ _ _ _ _ => pdts_nil) (fun _ _ _ _ _ => (pd_callTy cd_list T.b_list (by decide +kernel) (pda_cons (pd_var 13) pda_nil)))))
  (pss_consD (pds_set (i := 7) sc__law_compared.nd rfl (by first | exact Or.inl rfl | exact Or.inr rfl) (pd_fn (ok_parting_text T) (hr.mono (by decide)) (pda_cons (pd_var 6) (pda_cons (pd_lc (own := [("end", 13)]) rfl sc__law_compared.nd (pdi_seq (pd_var 2)) (blkOk_by (N := N__law_compared_) (sc := defScope s__law_compared) (by decide +kernel)) (fun _ _ _ _ _ => (pdg_name (i := 13) sc__law_compared.nd rfl (by first | exact Or.inl rfl | exact Or.inr rfl) (by decide))) (fun _ _ _ _ _ => pdts_nil) (fun _ _ _ _ _ => (pd_callTy cd_tuple T.b_tuple (by decide +kernel) (pda_cons (pd_var 13) pda_nil)))) pda_nil))))
  (pss_consD (pds_if (pdt_cmp (opd_ne hr.units) (pd_var 6) (pd_var 1) (nomark _)) (pss_oneD (pds_ret pd_bl)) pss_nilD)
  (pss_consD (pds_if (pdt_cmp (opd_eq hr.units) (pd_callB cd_len T.b_len (by decide +kernel) (pda_cons (pd_var 5) pda_nil)) pd_int (nomark _)) (pss_oneD (pds_ret (pd_cmp opd_isN (pd_var 7) pd_non (nomark _)))) pss_nilD)
  (pss_consD (pds_set (i := 8) sc__law_compared.nd rfl (by first | exact Or.inl rfl | exact Or.inr rfl) (pd_ix ixd (pd_var 5) pd_int))
  (pss_consD (pds_for (vs := (List.range 15)) rfl (passes_of rfl) (pdi_seq (pd_var 5)) (pdg_name (i := 9) sc__law_compared.nd rfl (by first | exact Or.inl rfl | exact Or.inr rfl) (by decide)) (pss_oneD (pds_if (PDw.pt (pdw_or (pdt_cmp opd_lt (pd_callB cd_len T.b_len (by decide +kernel) (pda_cons (pd_var 9) pda_nil)) (pd_callB cd_len T.b_len (by decide +kernel) (pda_cons (pd_var 8) pda_nil)) (nomark _)) (pdw_or1 (PDw.pt (pdw_and (pdt_cmp (opd_eq hr.units) (pd_callB cd_len T.b_len (by decide +kernel) (pda_cons (pd_var 9) pda_nil)) (pd_callB cd_len T.b_len (by decide +kernel) (pda_cons (pd_var 8) pda_nil)) (nomark _)) (pdw_and1 (pdt_cmp (opd_ltD hr.units) (pd_var 9) (pd_var 8) (nomark _)))))))) (pss_oneD (pds_set (i := 8) sc__law_compared.nd rfl (by first | exact Or.inl rfl | exact Or.inr rfl) (pd_var 9))) pss_nilD)))
  (pss_consD (pds_if (PDw.pt (pdw_or (pdt_not (pdt_val (pd_fn (ok__law_same T) (hr.mono (by decide)) (pda_cons (pd_var 7) (pda_cons (pd_callTy cd_tuple T.b_tuple (by decide +kernel) (pda_cons (pd_var 8) pda_nil)) pda_nil))))) (pdw_or1 (pdt_not (pdt_val (pd_fn (ok__law_parted T) (hr.mono (by decide)) (pda_cons (pd_var 1) (pda_cons (pd_var 2) (pda_cons (pd_var 7) pda_nil))))))))) (pss_oneD (pds_ret pd_bl)) pss_nilD)
  (pss_consD (pds_for (vs := (List.range 15)) rfl (passes_of rfl) (pdi_rg1 T.b_range (pd_callB cd_len T.b_len (by decide +kernel) (pda_cons (pd_var 7) pda_nil))) (pdg_name (i := 10) sc__law_compared.nd rfl (by first | exact Or.inl rfl | exact Or.inr rfl) (by decide)) (pss_oneD (pds_if (pdt_val (pd_fn (ok__law_parted T) (hr.mono (by decide)) (pda_cons (pd_var 1) (pda_cons (pd_var 2) (pda_cons (pd_slice (pd_var 7) pdo_none (pdo_some (pd_var 10))) pda_nil))))) (pss_oneD (pds_ret pd_bl)) pss_nilD)))
  (pss_consD (pds_set (i := 11) sc__law_compared.nd rfl (by first | exact Or.inl rfl | exact Or.inr rfl) (pd_callB (cd_minL rfl) T.b_min (by decide +kernel) (pda_cons (pd_lc (own := [("letter", 14)]) rfl sc__law_compared.nd (pdi_rg1 T.b_range pd_int) (blkOk_by (N := N__law_compared_) (sc := defScope s__law_compared) (by decide +kernel)) (fun _ _ _ _ _ => (pdg_name (i := 14) sc__law_compared.nd rfl (by first | exact Or.inl rfl | exact Or.inr rfl) (by decide))) (fun _ _ _ _ _ => (pdts_one (pdt_cmp (opd_notInD hr.units) (pd_var 14) (pd_var 0) (by rfl)))) (fun _ _ _ _ _ => (pd_var 14))) pda_nil)))
  (pss_consD (pds_for (vs := (List.range 15)) rfl (passes_of rfl) (pdi_seq (pd_fn (ok__law_short_texts T) (hr.mono (by decide)) (pda_cons (pd_var 0) (pda_cons (pd_var 11) (pda_cons (pd_callB cd_len T.b_len (by decide +kernel) (pda_cons (pd_var 7) pda_nil)) pda_nil))))) (pdg_name (i := 12) sc__law_compared.nd rfl (by first | exact Or.inl rfl | exact Or.inr rfl) (by decide)) (pss_oneD (pds_if (pdt_val (pd_fn (ok__law_parted T) (hr.mono (by decide)) (pda_cons (pd_var 1) (pda_cons (pd_var 2) (pda_cons (pd_var 12) pda_nil))))) (pss_oneD (pds_ret pd_bl)) pss_nilD)))
  (pss_oneD (pds_ret pd_bl)))))))))))))))) (rd__law_compared c)
theorem ok__law_left_out (T : Txt K mg c) : FnC P w K mg base 11 "_law_left_out" ["hand", "alphabet", "ends"] (sp__law_left_out c) :=
  FnC.mk T.d__law_left_out sc__law_left_out (by decide) (len__law_left_out c) (fun f cdv A outer s H E hr => (pss_consD (pds_set (i := 3) sc__law_left_out.nd rfl (by first | exact Or.inl rfl | exact Or.inr rfl) (pd_fn (ok__law_needless T) (hr.mono (by decide)) (pda_cons (pd_var 2) pda_nil)))
  (pss_consD (pds_set (i := 4) sc__law_left_out.nd rfl (by first | exact Or.inl rfl | exact Or.inr rfl) (pd_fn (ok__law_left T) (hr.mono (by decide)) (pda_cons (pd_var 2) pda_nil)))
  (pss_consD (pds_if (pdt_cmp opd_notN (pd_fn (ok_parting_text T) (hr.mono (by decide)) (pda_cons (pd_lc (own := [("end", 8)]) rfl sc__law_left_out.nd (pdi_seq (pd_var 2)) (blkOk_by (N := N__law_left_out_) (sc := defScope s__law_left_out) (by decide +kernel)) (fun _ _ _ _ _ => (pdg_name (i := 8) sc__law_left_out.nd rfl (by first | exact Or.inl rfl | exact Or.inr rfl) (by decide))) (fun _ _ _ _ _ => pdts_nil) (fun _ _ _ _ _ => (pd_callTy cd_list T.b_list (by decide +kernel) (pda_cons (pd_var 8) pda_nil)))) (pda_cons (pd_lc (own := [("end", 8)]) rfl sc__law_left_out.nd (pdi_seq (pd_var 4)) (blkOk_by (N := N__law_left_out_) (sc := defScope s__law_left_out) (by decide +kernel)) (fun _ _ _ _ _ => (pdg_name (i := 8) sc__law_left_out.nd rfl (by first | exact Or.inl rfl | exact Or.inr rfl) (by decide))) (fun _ _ _ _ _ => pdts_nil) (fun _ _ _ _ _ => (pd_callTy cd_list T.b_list (by decide +kernel) (pda_cons (pd_var 8) pda_nil)))) pda_nil))) pd_non (nomark _)) (pss_oneD (pds_ret pd_bl)) pss_nilD)
  (pss_consD (pds_if (pdt_cmp opd_notN (pd_fn (ok_parting_text T) (hr.mono (by decide)) (pda_cons (pd_lc (own := [("end", 8)]) rfl sc__law_left_out.nd (pdi_seq (pd_var 4)) (blkOk_by (N := N__law_left_out_) (sc := defScope s__law_left_out) (by decide +kernel)) (fun _ _ _ _ _ => (pdg_name (i := 8) sc__law_left_out.nd rfl (by first | exact Or.inl rfl | exact Or.inr rfl) (by decide))) (fun _ _ _ _ _ => pdts_nil) (fun _ _ _ _ _ => (pd_callTy cd_list T.b_list (by decide +kernel) (pda_cons (pd_var 8) pda_nil)))) (pda_cons (pd_lc (own := [("end", 8)]) rfl sc__law_left_out.nd (pdi_seq (pd_var 2)) (blkOk_by (N := N__law_left_out_) (sc := defScope s__law_left_out) (by decide +kernel)) (fun _ _ _ _ _ => (pdg_name (i := 8) sc__law_left_out.nd rfl (by first | exact Or.inl rfl | exact Or.inr rfl) (by decide))) (fun _ _ _ _ _ => pdts_nil) (fun _ _ _ _ _ => (pd_callTy cd_list T.b_list (by decide +kernel) (pda_cons (pd_var 8) pda_nil)))) pda_nil))) pd_non (nomark _)) (pss_oneD (pds_ret pd_bl)) pss_nilD)
  (pss_consD (pds_set (i := 5) sc__law_left_out.nd rfl (by first | exact Or.inl rfl | exact Or.inr rfl) (pd_fn (ok__law_row T) (hr.mono (by decide)) (pda_cons (pd_var 0) (pda_cons (pd_var 1) (pda_cons pd_int (pda_cons pd_int pda_nil))))))
  (pss_consD (pds_if (pdt_not (pdt_val (pd_fn (ok__law_same T) (hr.mono (by decide)) (pda_cons (pd_fn (ok__law_fed T) (hr.mono (by decide)) (pda_cons (pd_var 2) (pda_cons (pd_var 5) pda_nil))) (pda_cons (pd_fn (ok__law_due T) (hr.mono (by decide)) (pda_cons (pd_var 2) (pda_cons (pd_var 5) pda_nil))) pda_nil))))) (pss_oneD (pds_ret pd_bl)) pss_nilD)
  (pss_consD (pds_if (pdt_not (pdt_val (pd_fn (ok__law_same T) (hr.mono (by decide)) (pda_cons (pd_fn (ok__law_fed T) (hr.mono (by decide)) (pda_cons (pd_var 4) (pda_cons (pd_var 5) pda_nil))) (pda_cons (pd_fn (ok__law_due T) (hr.mono (by decide)) (pda_cons (pd_var 4) (pda_cons (pd_var 5) pda_nil))) pda_nil))))) (pss_oneD (pds_ret pd_bl)) pss_nilD)
  (pss_consD (pds_if (pdt_cmp (opd_ne hr.units) (pd_fn (ok__law_stands T) (hr.mono (by decide)) (pda_cons (pd_var 2) (pda_cons (pd_var 5) pda_nil))) (pd_fn (ok__law_stands T) (hr.mono (by decide)) (pda_cons (pd_var 4) (pda_cons (pd_var 5) pda_nil))) (nomark _)) (pss_oneD (pds_ret pd_bl)) pss_nilD)
  (pss_consD (pds_for (vs := (List.range 9)) rfl (passes_of rfl) (pdi_rg1 T.b_range (pd_callB cd_len T.b_len (by decide +kernel) (pda_cons (pd_var 2) pda_nil))) (pdg_name (i := 6) sc__law_left_out.nd rfl (by first | exact Or.inl rfl | exact Or.inr rfl) (by decide)) (pss_oneD (pds_if (PDw.pt (pdw_and (pdt_cmp (opd_notInD hr.units) (pd_var 6) (pd_var 3) (by rfl)) (pdw_and1 (pdt_cmp (opd_eq hr.units) (pd_fn (ok__law_draw T) (hr.mono (by decide)) (pda_cons (pd_var 0) (pda_cons pd_int pda_nil))) pd_int (nomark _))))) (pss_consD (by first | exact pds_setLc (i := 7) rfl sc__law_left_out.nd rfl rfl (sw_true rfl rfl rfl (by decide +kernel)) (own := [("end", 8)]) (pdi_seq (pd_var 2)) (blkOk_by (N := N__law_left_out_) (sc := defScope s__law_left_out) (by decide +kernel)) (fun _ _ _ _ _ => (pdg_name (i := 8) sc__law_left_out.nd rfl (by first | exact Or.inl rfl | exact Or.inr rfl) (by decide))) (fun _ _ _ _ _ => (pdts_one (pdt_cmp (opd_ne hr.units) (pd_var 8) (pd_ix ixd (pd_var 2) (pd_var 6)) (nomark _)))) (fun _ _ _ _ _ => (pd_var 8)) | exact pds_set (i := 7) sc__law_left_out.nd rfl (by first | exact Or.inl rfl | exact Or.inr rfl) (pd_lc (own := [("end", 8)]) rfl sc__law_left_out.nd (pdi_seq (pd_var 2)) (blkOk_by (N := N__law_left_out_) (sc := defScope s__law_left_out) (by decide +kernel)) (fun _ _ _ _ _ => (pdg_name (i := 8) sc__law_left_out.nd rfl (by first | exact Or.inl rfl | exact Or.inr rfl) (by decide))) (fun _ _ _ _ _ => (pdts_one (pdt_cmp (opd_ne hr.units) (pd_var 8) (pd_ix ixd (pd_var 2) (pd_var 6)) (nomark _)))) (fun _ _ _ _ _ => (pd_var 8))))
  (pss_oneD (pds_if (pdt_not (pdt_val (pd_fn (ok__law_compared T) (hr.mono (by decide)) (pda_cons (pd_var 1) (pda_cons (pd_var 2) (pda_cons (pd_var 7) pda_nil)))))) (pss_oneD (pds_ret pd_bl)) pss_nilD))) pss_nilD)))
  (pss_oneD (pds_ret pd_bl)))))))))))) (rd__law_left_out c)
theorem ok__law_closing (T : Txt K mg c) : FnC P w K mg base 10 "_law_closing" [] (sp__law_closing c) :=
  FnC.mk T.d__law_closing sc__law_closing (by decide) (len__law_closing c) (fun f cdv A outer s H E hr => (pss_consD (pds_set (i := 0) sc__law_closing.nd rfl (by first | exact Or.inl rfl | exact Or.inr rfl) (pd_tup (pda_cons (pd_tup (pda_cons pd_int (pda_cons pd_int pda_nil))) (pda_cons (pd_tup (pda_cons pd_int (pda_cons pd_int (pda_cons pd_int pda_nil)))) (pda_cons (pd_tup (pda_cons pd_int (pda_cons pd_int (pda_cons pd_int pda_nil)))) (pda_cons (pd_tup (pda_cons pd_int (pda_cons pd_int (pda_cons pd_int (pda_cons pd_int pda_nil))))) (pda_cons (pd_tup (pda_cons pd_int (pda_cons pd_int pda_nil))) (pda_cons (pd_tup (pda_cons pd_int (pda_cons pd_int (pda_cons pd_int (pda_cons pd_int pda_nil))))) (pda_cons (pd_tup (pda_cons pd_int pda_nil)) pda_nil)))))))))
  (pss_consD (pds_set (i := 1) sc__law_closing.nd rfl (by first | exact Or.inl rfl | exact Or.inr rfl) (pd_slice (pd_var 0) pdo_none (pdo_some pd_int)))
  (pss_consD (pds_set (i := 2) sc__law_closing.nd rfl (by first | exact Or.inl rfl | exact Or.inr rfl) (pd_lstM (pda_cons (pd_fn (ok_needless_stops T) (hr.mono (by decide)) (pda_cons (pd_var 1) pda_nil)) (pda_cons (pd_fn (ok_needless_stops T) (hr.mono (by decide)) (pda_cons (pd_slice (pd_var 0) (pdo_some pd_int) pdo_none) pda_nil)) (pda_cons (pd_fn (ok_needless_stops T) (hr.mono (by decide)) (pda_cons (pd_tup (pda_cons (pd_tup (pda_cons pd_int pda_nil)) (pda_cons (pd_tup (pda_cons pd_int pda_nil)) pda_nil))) pda_nil)) (pda_cons (pd_fn (ok_needless_stops T) (hr.mono (by decide)) (pda_cons (pd_tup pda_nil) pda_nil)) pda_nil))))))
  (pss_consD (pds_drop (pd_lm PySem.F.slot_list_append PySem.F.type_list_append md_append (pd_var 2) (pda_cons (pd_fn (ok_needless_stops T) (hr.mono (by decide)) (pda_cons (pd_tup (pda_cons (pd_tup (pda_cons pd_int (pda_cons pd_int pda_nil))) (pda_cons (pd_tup (pda_cons pd_int (pda_cons pd_int pda_nil))) (pda_cons (pd_tup (pda_cons pd_int pda_nil)) (pda_cons (pd_tup (pda_cons pd_int (pda_cons pd_int pda_nil))) pda_nil))))) pda_nil)) pda_nil)))
  (pss_consD (pds_drop (pd_lm PySem.F.slot_list_extend PySem.F.type_list_extend md_extend (pd_var 2) (pda_cons (pd_lst (pda_cons (pd_fn (ok_parting_text T) (hr.mono (by decide)) (pda_cons (pd_var 1) (pda_cons (pd_tup (pda_cons (pd_ix ixd (pd_var 1) pd_int) (pda_cons (pd_ix ixd (pd_var 1) pd_int) (pda_cons (pd_ix ixd (pd_var 1) pd_int) pda_nil)))) pda_nil))) (pda_cons (pd_fn (ok_parting_text T) (hr.mono (by decide)) (pda_cons (pd_var 1) (pda_cons (pd_slice (pd_var 1) pdo_none (pdo_some pd_int)) pda_nil))) pda_nil))) pda_nil)))
  (pss_consD (pds_drop (pd_lm PySem.F.slot_list_extend PySem.F.type_list_extend md_extend (pd_var 2) (pda_cons (pd_lst (pda_cons (pd_fn (ok_parting_text T) (hr.mono (by decide)) (pda_cons (pd_var 1) (pda_cons (pd_slice (pd_var 1) (pdo_some pd_int) (pdo_some pd_int)) pda_nil))) (pda_cons (pd_fn (ok_parting_text T) (hr.mono (by decide)) (pda_cons (pd_tup (pda_cons (pd_tup (pda_cons pd_int pda_nil)) pda_nil)) (pda_cons (pd_tup (pda_cons (pd_tup (pda_cons pd_int pda_nil)) (pda_cons (pd_tup (pda_cons pd_int (pda_cons pd_int pda_nil))) pda_nil))) pda_nil))) (pda_cons (pd_fn (ok_parting_text T) (hr.mono (by decide)) (pda_cons (pd_tup pda_nil) (pda_cons (pd_tup (pda_cons (pd_tup (pda_cons pd_int pda_nil)) pda_nil)) pda_nil))) pda_nil)))) pda_nil)))
  (pss_consD (pds_set (i := 3) sc__law_closing.nd rfl (by first | exact Or.inl rfl | exact Or.inr rfl) (pd_lst (pda_cons (pd_tup (pda_cons pd_int (pda_cons pd_int (pda_cons pd_int pda_nil)))) (pda_cons (pd_tup (pda_cons pd_int (pda_cons pd_int (pda_cons pd_int pda_nil)))) (pda_cons (pd_tup (pda_cons pd_int pda_nil)) (pda_cons (pd_tup pda_nil) (pda_cons (pd_tup (pda_cons pd_int (pda_cons pd_int pda_nil))) (pda_cons pd_non (pda_cons (pd_tup (pda_cons pd_int (pda_cons pd_int (pda_cons pd_int pda_nil)))) (pda_cons (pd_tup (pda_cons pd_int (pda_cons pd_int pda_nil))) (pda_cons pd_non (pda_cons (pd_tup (pda_cons pd_int pda_nil)) pda_nil))))))))))))
  (pss_oneD (pds_ret (pd_fn (ok__law_same T) (hr.mono (by decide)) (pda_cons (pd_callTy cd_tuple T.b_tuple (by decide +kernel) (pda_cons (pd_var 2) pda_nil)) (pda_cons (pd_callTy cd_tuple T.b_tuple (by decide +kernel) (pda_cons (pd_var 3) pda_nil)) pda_nil))))))))))))) (rd__law_closing c)
theorem okF_law (T : Txt K mg c) {f : Addr} {fd : FuncData} (F : Fun K "law" "law" s_law f fd) : FnD P w K mg base 12 f fd ["script"] (sp_law c) :=
  fnd_mk F sc_law (by decide) (len_law c) (fun f cdv A outer s H E hr => (pss_consD (pds_set (i := 1) sc_law.nd rfl (by first | exact Or.inl rfl | exact Or.inr rfl) (pd_fn (ok__law_hand T) (hr.mono (by decide)) (pda_cons (pd_var 0) pda_nil)))
  (pss_consD (pds_set (i := 2) sc_law.nd rfl (by first | exact Or.inl rfl | exact Or.inr rfl) (pd_fn (ok__law_alphabet T) (hr.mono (by decide)) (pda_cons (pd_var 1) pda_nil)))
  (pss_consD (pds_set (i := 3) sc_law.nd rfl (by first | exact Or.inl rfl | exact Or.inr rfl) (pd_fn (ok__law_ends T) (hr.mono (by decide)) (pda_cons (pd_var 1) (pda_cons (pd_var 2) (pda_cons pd_int pda_nil)))))
  (pss_consD (pds_set (i := 4) sc_law.nd rfl (by first | exact Or.inl rfl | exact Or.inr rfl) (pd_fn (ok__law_changed T) (hr.mono (by decide)) (pda_cons (pd_var 1) (pda_cons (pd_var 3) (pda_cons (pd_var 2) pda_nil)))))
  (pss_consD (pds_if (PDw.pt (pdw_or (pdt_not (pdt_val (pd_fn (ok__law_told T) (hr.mono (by decide)) (pda_cons (pd_var 3) pda_nil)))) (pdw_or1 (pdt_not (pdt_val (pd_fn (ok__law_told T) (hr.mono (by decide)) (pda_cons (pd_var 4) pda_nil))))))) (pss_oneD (pds_ret pd_bl)) pss_nilD)
  (pss_consD (pds_if (pdt_not (pdt_val (pd_fn (ok__law_told T) (hr.mono (by decide)) (pda_cons (pd_op opd_add (pd_op opd_add (pd_slice (pd_var 3) pdo_none (pdo_some pd_int)) (pd_fn (ok__law_mixed_up T) (hr.mono (by decide)) (pda_cons (pd_var 1) (pda_cons (pd_slice (pd_var 3) pdo_none (pdo_some pd_int)) pda_nil)))) (pd_slice (pd_var 3) pdo_none (pdo_some pd_int))) pda_nil)))) (pss_oneD (pds_ret pd_bl)) pss_nilD)
  (pss_consD (pds_if (PDw.pt (pdw_or (pdt_not (pdt_val (pd_fn (ok__law_compared T) (hr.mono (by decide)) (pda_cons (pd_var 2) (pda_cons (pd_var 3) (pda_cons (pd_var 4) pda_nil)))))) (pdw_or1 (pdt_not (pdt_val (pd_fn (ok__law_compared T) (hr.mono (by decide)) (pda_cons (pd_var 2) (pda_cons (pd_var 4) (pda_cons (pd_fn (ok__law_mixed_up T) (hr.mono (by decide)) (pda_cons (pd_var 1) (pda_cons (pd_var 3) pda_nil))) pda_nil))))))))) (pss_oneD (pds_ret pd_bl)) pss_nilD)
  (pss_consD (pds_if (pdt_not (pdt_val (pd_fn (ok__law_compared T) (hr.mono (by decide)) (pda_cons (pd_var 2) (pda_cons (pd_var 3) (pda_cons (pd_fn (ok__law_mixed_up T) (hr.mono (by decide)) (pda_cons (pd_var 1) (pda_cons (pd_var 3) pda_nil))) pda_nil)))))) (pss_oneD (pds_ret pd_bl)) pss_nilD)
  (pss_consD (pds_if (PDw.pt (pdw_or (pdt_not (pdt_val (pd_fn (ok__law_left_out T) (hr.mono (by decide)) (pda_cons (pd_var 1) (pda_cons (pd_var 2) (pda_cons (pd_var 3) pda_nil)))))) (pdw_or1 (pdt_not (pdt_val (pd_fn (ok__law_left_out T) (hr.mono (by decide)) (pda_cons (pd_var 1) (pda_cons (pd_var 2) (pda_cons (pd_var 4) pda_nil))))))))) (pss_oneD (pds_ret pd_bl)) pss_nilD)
  (pss_oneD (pds_ret (pd_and (pd_fn (ok__law_told T) (hr.mono (by decide)) (pda_cons (pd_var 3) pda_nil)) (pd_one (pd_fn0 (ok__law_closing T) (hr.mono (by decide))))))))))))))))) (rd_law c)
end
end K93
set_option Elab.async false
set_option linter.all false
set_option maxRecDepth 100000
set_option maxHeartbeats 4000000
namespace K93
open PySem PySem.Spec PyProof.Rows L2 DL
abbrev spEnd : Ctr := DL.spScript
theorem spEnd_at {K : PySem.W.Frag} {H : Hp} {a : Addr} {ns : List Int} {E : XK} (hl : ns.length ≤ 63) (hS : SqL K H a (ns.map V.int)) : lSp K spEnd [.ref a] H (fun v _ => v = .bl true) E := spScript_at hl hS
theorem all_mk {l : PySem.W.OpenLaw} {w : World} {K : PySem.W.Frag} {h : Heap} {mg : Str → Option Value} {fa : Addr} (X : K.In h) (G : h.Ns mainGlobals mg) (hfa : mg "law" = some (.ref fa))
    {C0 : Addr}
    {tk_LETTERS : _}
    {f1 : Addr} {oc1 kV1 dc1 pm1 cd1 ct1 : Value} {od1 an1 : Option Addr} {sl1 : Array (Option Value)}
    {f2 : Addr} {oc2 kV2 dc2 pm2 cd2 ct2 : Value} {od2 an2 : Option Addr} {sl2 : Array (Option Value)}
    {f3 : Addr} {oc3 kV3 dc3 pm3 cd3 ct3 : Value} {od3 an3 : Option Addr} {sl3 : Array (Option Value)}
    {f4 : Addr} {oc4 kV4 dc4 pm4 cd4 ct4 : Value} {od4 an4 : Option Addr} {sl4 : Array (Option Value)}
    {f5 : Addr} {oc5 kV5 dc5 pm5 cd5 ct5 : Value} {od5 an5 : Option Addr} {sl5 : Array (Option Value)}
    {f6 : Addr} {oc6 kV6 dc6 pm6 cd6 ct6 : Value} {od6 an6 : Option Addr} {sl6 : Array (Option Value)}
    {f7 : Addr} {oc7 kV7 dc7 pm7 cd7 ct7 : Value} {od7 an7 : Option Addr} {sl7 : Array (Option Value)}
    {f8 : Addr} {oc8 kV8 dc8 pm8 cd8 ct8 : Value} {od8 an8 : Option Addr} {sl8 : Array (Option Value)}
    {f9 : Addr} {oc9 kV9 dc9 pm9 cd9 ct9 : Value} {od9 an9 : Option Addr} {sl9 : Array (Option Value)}
    {f10 : Addr} {oc10 kV10 dc10 pm10 cd10 ct10 : Value} {od10 an10 : Option Addr} {sl10 : Array (Option Value)}
    {f11 : Addr} {oc11 kV11 dc11 pm11 cd11 ct11 : Value} {od11 an11 : Option Addr} {sl11 : Array (Option Value)}
    {f12 : Addr} {oc12 kV12 dc12 pm12 cd12 ct12 : Value} {od12 an12 : Option Addr} {sl12 : Array (Option Value)}
    {f13 : Addr} {oc13 kV13 dc13 pm13 cd13 ct13 : Value} {od13 an13 : Option Addr} {sl13 : Array (Option Value)}
    {f14 : Addr} {oc14 kV14 dc14 pm14 cd14 ct14 : Value} {od14 an14 : Option Addr} {sl14 : Array (Option Value)}
    {f15 : Addr} {oc15 kV15 dc15 pm15 cd15 ct15 : Value} {od15 an15 : Option Addr} {sl15 : Array (Option Value)}
    {f16 : Addr} {oc16 kV16 dc16 pm16 cd16 ct16 : Value} {od16 an16 : Option Addr} {sl16 : Array (Option Value)}
    {f17 : Addr} {oc17 kV17 dc17 pm17 cd17 ct17 : Value} {od17 an17 : Option Addr} {sl17 : Array (Option Value)}
    {f18 : Addr} {oc18 kV18 dc18 pm18 cd18 ct18 : Value} {od18 an18 : Option Addr} {sl18 : Array (Option Value)}
    {f19 : Addr} {oc19 kV19 dc19 pm19 cd19 ct19 : Value} {od19 an19 : Option Addr} {sl19 : Array (Option Value)}
    {f20 : Addr} {oc20 kV20 dc20 pm20 cd20 ct20 : Value} {od20 an20 : Option Addr} {sl20 : Array (Option Value)}
    {f21 : Addr} {oc21 kV21 dc21 pm21 cd21 ct21 : Value} {od21 an21 : Option Addr} {sl21 : Array (Option Value)}
    {f22 : Addr} {oc22 kV22 dc22 pm22 cd22 ct22 : Value} {od22 an22 : Option Addr} {sl22 : Array (Option Value)}
    {f23 : Addr} {oc23 kV23 dc23 pm23 cd23 ct23 : Value} {od23 an23 : Option Addr} {sl23 : Array (Option Value)}
    {f24 : Addr} {oc24 kV24 dc24 pm24 cd24 ct24 : Value} {od24 an24 : Option Addr} {sl24 : Array (Option Value)}
    {f25 : Addr} {oc25 kV25 dc25 pm25 cd25 ct25 : Value} {od25 an25 : Option Addr} {sl25 : Array (Option Value)}
    {f26 : Addr} {oc26 kV26 dc26 pm26 cd26 ct26 : Value} {od26 an26 : Option Addr} {sl26 : Array (Option Value)}
    {f27 : Addr} {oc27 kV27 dc27 pm27 cd27 ct27 : Value} {od27 an27 : Option Addr} {sl27 : Array (Option Value)}
    {f28 : Addr} {oc28 kV28 dc28 pm28 cd28 ct28 : Value} {od28 an28 : Option Addr} {sl28 : Array (Option Value)}
    {f29 : Addr} {oc29 kV29 dc29 pm29 cd29 ct29 : Value} {od29 an29 : Option Addr} {sl29 : Array (Option Value)}
    {f30 : Addr} {oc30 kV30 dc30 pm30 cd30 ct30 : Value} {od30 an30 : Option Addr} {sl30 : Array (Option Value)}
    {f31 : Addr} {oc31 kV31 dc31 pm31 cd31 ct31 : Value} {od31 an31 : Option Addr} {sl31 : Array (Option Value)}
    {f32 : Addr} {oc32 kV32 dc32 pm32 cd32 ct32 : Value} {od32 an32 : Option Addr} {sl32 : Array (Option Value)}
    {f33 : Addr} {oc33 kV33 dc33 pm33 cd33 ct33 : Value} {od33 an33 : Option Addr} {sl33 : Array (Option Value)}
    {f34 : Addr} {oc34 kV34 dc34 pm34 cd34 ct34 : Value} {od34 an34 : Option Addr} {sl34 : Array (Option Value)}
    (aC0 : PySem.W.nsIn K mainGlobals "Stopper" = some (some (.ref C0)))
    (cn_LETTERS : PySem.W.nsIn K mainGlobals "LETTERS" = some (some (Value.int (12) tk_LETTERS)))
    (a1 : PySem.W.nsIn K mainGlobals "stop_length" = some (some (.ref f1)))
    (l1 : K.lookup f1 = some ⟨oc1, od1, .func (PySem.W.fnOf "stop_length" "stop_length" (defArgs s_stop_length) (defBody s_stop_length) (defScope s_stop_length) .none kV1 dc1 pm1 an1 cd1 ct1), sl1⟩)
    (c1 : PySem.W.codeIn K cd1 "stop_length" = true)
    (k1 : PySem.W.keepIn K (.ref f1) = true)
    (a2 : PySem.W.nsIn K mainGlobals "held_back" = some (some (.ref f2)))
    (l2 : K.lookup f2 = some ⟨oc2, od2, .func (PySem.W.fnOf "held_back" "held_back" (defArgs s_held_back) (defBody s_held_back) (defScope s_held_back) .none kV2 dc2 pm2 an2 cd2 ct2), sl2⟩)
    (c2 : PySem.W.codeIn K cd2 "held_back" = true)
    (k2 : PySem.W.keepIn K (.ref f2) = true)
    (a3 : PySem.W.findIn K (.ref C0) "__init__" = some (some (.ref f3)))
    (i3 : PySem.W.isFn K (.ref f3) = true)
    (l3 : K.lookup f3 = some ⟨oc3, od3, .func (PySem.W.fnOf "__init__" "Stopper.__init__" (defArgs s_Stopper_init) (defBody s_Stopper_init) (defScope s_Stopper_init) .none kV3 dc3 pm3 an3 cd3 ct3), sl3⟩)
    (c3 : PySem.W.codeIn K cd3 "Stopper.__init__" = true)
    (k3 : PySem.W.keepIn K (.ref f3) = true)
    (a4 : PySem.W.findIn K (.ref C0) "has_stopped" = some (some (.ref f4)))
    (i4 : PySem.W.isFn K (.ref f4) = true)
    (l4 : K.lookup f4 = some ⟨oc4, od4, .func (PySem.W.fnOf "has_stopped" "Stopper.has_stopped" (defArgs s_Stopper_has_stopped) (defBody s_Stopper_has_stopped) (defScope s_Stopper_has_stopped) .none kV4 dc4 pm4 an4 cd4 ct4), sl4⟩)
    (c4 : PySem.W.codeIn K cd4 "Stopper.has_stopped" = true)
    (k4 : PySem.W.keepIn K (.ref f4) = true)
    (a5 : PySem.W.findIn K (.ref C0) "letters_held" = some (some (.ref f5)))
    (i5 : PySem.W.isFn K (.ref f5) = true)
    (l5 : K.lookup f5 = some ⟨oc5, od5, .func (PySem.W.fnOf "letters_held" "Stopper.letters_held" (defArgs s_Stopper_letters_held) (defBody s_Stopper_letters_held) (defScope s_Stopper_letters_held) .none kV5 dc5 pm5 an5 cd5 ct5), sl5⟩)
    (c5 : PySem.W.codeIn K cd5 "Stopper.letters_held" = true)
    (k5 : PySem.W.keepIn K (.ref f5) = true)
    (a6 : PySem.W.findIn K (.ref C0) "feed" = some (some (.ref f6)))
    (i6 : PySem.W.isFn K (.ref f6) = true)
    (l6 : K.lookup f6 = some ⟨oc6, od6, .func (PySem.W.fnOf "feed" "Stopper.feed" (defArgs s_Stopper_feed) (defBody s_Stopper_feed) (defScope s_Stopper_feed) .none kV6 dc6 pm6 an6 cd6 ct6), sl6⟩)
    (c6 : PySem.W.codeIn K cd6 "Stopper.feed" = true)
    (k6 : PySem.W.keepIn K (.ref f6) = true)
    (a7 : PySem.W.findIn K (.ref C0) "sent_in_all" = some (some (.ref f7)))
    (i7 : PySem.W.isFn K (.ref f7) = true)
    (l7 : K.lookup f7 = some ⟨oc7, od7, .func (PySem.W.fnOf "sent_in_all" "Stopper.sent_in_all" (defArgs s_Stopper_sent_in_all) (defBody s_Stopper_sent_in_all) (defScope s_Stopper_sent_in_all) .none kV7 dc7 pm7 an7 cd7 ct7), sl7⟩)
    (c7 : PySem.W.codeIn K cd7 "Stopper.sent_in_all" = true)
    (k7 : PySem.W.keepIn K (.ref f7) = true)
    (a8 : PySem.W.findIn K (.ref C0) "twin" = some (some (.ref f8)))
    (i8 : PySem.W.isFn K (.ref f8) = true)
    (l8 : K.lookup f8 = some ⟨oc8, od8, .func (PySem.W.fnOf "twin" "Stopper.twin" (defArgs s_Stopper_twin) (defBody s_Stopper_twin) (defScope s_Stopper_twin) .none kV8 dc8 pm8 an8 cd8 ct8), sl8⟩)
    (c8 : PySem.W.codeIn K cd8 "Stopper.twin" = true)
    (k8 : PySem.W.keepIn K (.ref f8) = true)
    (a9 : PySem.W.nsIn K mainGlobals "are_unlike" = some (some (.ref f9)))
    (l9 : K.lookup f9 = some ⟨oc9, od9, .func (PySem.W.fnOf "are_unlike" "are_unlike" (defArgs s_are_unlike) (defBody s_are_unlike) (defScope s_are_unlike) .none kV9 dc9 pm9 an9 cd9 ct9), sl9⟩)
    (c9 : PySem.W.codeIn K cd9 "are_unlike" = true)
    (k9 : PySem.W.keepIn K (.ref f9) = true)
    (a10 : PySem.W.nsIn K mainGlobals "parting_text" = some (some (.ref f10)))
    (l10 : K.lookup f10 = some ⟨oc10, od10, .func (PySem.W.fnOf "parting_text" "parting_text" (defArgs s_parting_text) (defBody s_parting_text) (defScope s_parting_text) .none kV10 dc10 pm10 an10 cd10 ct10), sl10⟩)
    (c10 : PySem.W.codeIn K cd10 "parting_text" = true)
    (k10 : PySem.W.keepIn K (.ref f10) = true)
    (a11 : PySem.W.nsIn K mainGlobals "stands_ahead_of_end" = some (some (.ref f11)))
    (l11 : K.lookup f11 = some ⟨oc11, od11, .func (PySem.W.fnOf "stands_ahead_of_end" "stands_ahead_of_end" (defArgs s_stands_ahead_of_end) (defBody s_stands_ahead_of_end) (defScope s_stands_ahead_of_end) .none kV11 dc11 pm11 an11 cd11 ct11), sl11⟩)
    (c11 : PySem.W.codeIn K cd11 "stands_ahead_of_end" = true)
    (k11 : PySem.W.keepIn K (.ref f11) = true)
    (a12 : PySem.W.nsIn K mainGlobals "needless_stops" = some (some (.ref f12)))
    (l12 : K.lookup f12 = some ⟨oc12, od12, .func (PySem.W.fnOf "needless_stops" "needless_stops" (defArgs s_needless_stops) (defBody s_needless_stops) (defScope s_needless_stops) .none kV12 dc12 pm12 an12 cd12 ct12), sl12⟩)
    (c12 : PySem.W.codeIn K cd12 "needless_stops" = true)
    (k12 : PySem.W.keepIn K (.ref f12) = true)
    (a13 : PySem.W.nsIn K mainGlobals "_law_hand" = some (some (.ref f13)))
    (l13 : K.lookup f13 = some ⟨oc13, od13, .func (PySem.W.fnOf "_law_hand" "_law_hand" (defArgs s__law_hand) (defBody s__law_hand) (defScope s__law_hand) .none kV13 dc13 pm13 an13 cd13 ct13), sl13⟩)
    (c13 : PySem.W.codeIn K cd13 "_law_hand" = true)
    (k13 : PySem.W.keepIn K (.ref f13) = true)
    (a14 : PySem.W.nsIn K mainGlobals "_law_draw" = some (some (.ref f14)))
    (l14 : K.lookup f14 = some ⟨oc14, od14, .func (PySem.W.fnOf "_law_draw" "_law_draw" (defArgs s__law_draw) (defBody s__law_draw) (defScope s__law_draw) .none kV14 dc14 pm14 an14 cd14 ct14), sl14⟩)
    (c14 : PySem.W.codeIn K cd14 "_law_draw" = true)
    (k14 : PySem.W.keepIn K (.ref f14) = true)
    (a15 : PySem.W.nsIn K mainGlobals "_law_same" = some (some (.ref f15)))
    (l15 : K.lookup f15 = some ⟨oc15, od15, .func (PySem.W.fnOf "_law_same" "_law_same" (defArgs s__law_same) (defBody s__law_same) (defScope s__law_same) .none kV15 dc15 pm15 an15 cd15 ct15), sl15⟩)
    (c15 : PySem.W.codeIn K cd15 "_law_same" = true)
    (k15 : PySem.W.keepIn K (.ref f15) = true)
    (a16 : PySem.W.nsIn K mainGlobals "_law_stopped" = some (some (.ref f16)))
    (l16 : K.lookup f16 = some ⟨oc16, od16, .func (PySem.W.fnOf "_law_stopped" "_law_stopped" (defArgs s__law_stopped) (defBody s__law_stopped) (defScope s__law_stopped) .none kV16 dc16 pm16 an16 cd16 ct16), sl16⟩)
    (c16 : PySem.W.codeIn K cd16 "_law_stopped" = true)
    (k16 : PySem.W.keepIn K (.ref f16) = true)
    (a17 : PySem.W.nsIn K mainGlobals "_law_held" = some (some (.ref f17)))
    (l17 : K.lookup f17 = some ⟨oc17, od17, .func (PySem.W.fnOf "_law_held" "_law_held" (defArgs s__law_held) (defBody s__law_held) (defScope s__law_held) .none kV17 dc17 pm17 an17 cd17 ct17), sl17⟩)
    (c17 : PySem.W.codeIn K cd17 "_law_held" = true)
    (k17 : PySem.W.keepIn K (.ref f17) = true)
    (a18 : PySem.W.nsIn K mainGlobals "_law_alphabet" = some (some (.ref f18)))
    (l18 : K.lookup f18 = some ⟨oc18, od18, .func (PySem.W.fnOf "_law_alphabet" "_law_alphabet" (defArgs s__law_alphabet) (defBody s__law_alphabet) (defScope s__law_alphabet) .none kV18 dc18 pm18 an18 cd18 ct18), sl18⟩)
    (c18 : PySem.W.codeIn K cd18 "_law_alphabet" = true)
    (k18 : PySem.W.keepIn K (.ref f18) = true)
    (a19 : PySem.W.nsIn K mainGlobals "_law_row" = some (some (.ref f19)))
    (l19 : K.lookup f19 = some ⟨oc19, od19, .func (PySem.W.fnOf "_law_row" "_law_row" (defArgs s__law_row) (defBody s__law_row) (defScope s__law_row) .none kV19 dc19 pm19 an19 cd19 ct19), sl19⟩)
    (c19 : PySem.W.codeIn K cd19 "_law_row" = true)
    (k19 : PySem.W.keepIn K (.ref f19) = true)
    (a20 : PySem.W.nsIn K mainGlobals "_law_ends" = some (some (.ref f20)))
    (l20 : K.lookup f20 = some ⟨oc20, od20, .func (PySem.W.fnOf "_law_ends" "_law_ends" (defArgs s__law_ends) (defBody s__law_ends) (defScope s__law_ends) .none kV20 dc20 pm20 an20 cd20 ct20), sl20⟩)
    (c20 : PySem.W.codeIn K cd20 "_law_ends" = true)
    (k20 : PySem.W.keepIn K (.ref f20) = true)
    (a21 : PySem.W.nsIn K mainGlobals "_law_changed" = some (some (.ref f21)))
    (l21 : K.lookup f21 = some ⟨oc21, od21, .func (PySem.W.fnOf "_law_changed" "_law_changed" (defArgs s__law_changed) (defBody s__law_changed) (defScope s__law_changed) .none kV21 dc21 pm21 an21 cd21 ct21), sl21⟩)
    (c21 : PySem.W.codeIn K cd21 "_law_changed" = true)
    (k21 : PySem.W.keepIn K (.ref f21) = true)
    (a22 : PySem.W.nsIn K mainGlobals "_law_mixed_up" = some (some (.ref f22)))
    (l22 : K.lookup f22 = some ⟨oc22, od22, .func (PySem.W.fnOf "_law_mixed_up" "_law_mixed_up" (defArgs s__law_mixed_up) (defBody s__law_mixed_up) (defScope s__law_mixed_up) .none kV22 dc22 pm22 an22 cd22 ct22), sl22⟩)
    (c22 : PySem.W.codeIn K cd22 "_law_mixed_up" = true)
    (k22 : PySem.W.keepIn K (.ref f22) = true)
    (a23 : PySem.W.nsIn K mainGlobals "_law_needless" = some (some (.ref f23)))
    (l23 : K.lookup f23 = some ⟨oc23, od23, .func (PySem.W.fnOf "_law_needless" "_law_needless" (defArgs s__law_needless) (defBody s__law_needless) (defScope s__law_needless) .none kV23 dc23 pm23 an23 cd23 ct23), sl23⟩)
    (c23 : PySem.W.codeIn K cd23 "_law_needless" = true)
    (k23 : PySem.W.keepIn K (.ref f23) = true)
    (a24 : PySem.W.nsIn K mainGlobals "_law_fed" = some (some (.ref f24)))
    (l24 : K.lookup f24 = some ⟨oc24, od24, .func (PySem.W.fnOf "_law_fed" "_law_fed" (defArgs s__law_fed) (defBody s__law_fed) (defScope s__law_fed) .none kV24 dc24 pm24 an24 cd24 ct24), sl24⟩)
    (c24 : PySem.W.codeIn K cd24 "_law_fed" = true)
    (k24 : PySem.W.keepIn K (.ref f24) = true)
    (a25 : PySem.W.nsIn K mainGlobals "_law_due" = some (some (.ref f25)))
    (l25 : K.lookup f25 = some ⟨oc25, od25, .func (PySem.W.fnOf "_law_due" "_law_due" (defArgs s__law_due) (defBody s__law_due) (defScope s__law_due) .none kV25 dc25 pm25 an25 cd25 ct25), sl25⟩)
    (c25 : PySem.W.codeIn K cd25 "_law_due" = true)
    (k25 : PySem.W.keepIn K (.ref f25) = true)
    (a26 : PySem.W.nsIn K mainGlobals "_law_stands" = some (some (.ref f26)))
    (l26 : K.lookup f26 = some ⟨oc26, od26, .func (PySem.W.fnOf "_law_stands" "_law_stands" (defArgs s__law_stands) (defBody s__law_stands) (defScope s__law_stands) .none kV26 dc26 pm26 an26 cd26 ct26), sl26⟩)
    (c26 : PySem.W.codeIn K cd26 "_law_stands" = true)
    (k26 : PySem.W.keepIn K (.ref f26) = true)
    (a27 : PySem.W.nsIn K mainGlobals "_law_parted" = some (some (.ref f27)))
    (l27 : K.lookup f27 = some ⟨oc27, od27, .func (PySem.W.fnOf "_law_parted" "_law_parted" (defArgs s__law_parted) (defBody s__law_parted) (defScope s__law_parted) .none kV27 dc27 pm27 an27 cd27 ct27), sl27⟩)
    (c27 : PySem.W.codeIn K cd27 "_law_parted" = true)
    (k27 : PySem.W.keepIn K (.ref f27) = true)
    (a28 : PySem.W.nsIn K mainGlobals "_law_left" = some (some (.ref f28)))
    (l28 : K.lookup f28 = some ⟨oc28, od28, .func (PySem.W.fnOf "_law_left" "_law_left" (defArgs s__law_left) (defBody s__law_left) (defScope s__law_left) .none kV28 dc28 pm28 an28 cd28 ct28), sl28⟩)
    (c28 : PySem.W.codeIn K cd28 "_law_left" = true)
    (k28 : PySem.W.keepIn K (.ref f28) = true)
    (a29 : PySem.W.nsIn K mainGlobals "_law_told" = some (some (.ref f29)))
    (l29 : K.lookup f29 = some ⟨oc29, od29, .func (PySem.W.fnOf "_law_told" "_law_told" (defArgs s__law_told) (defBody s__law_told) (defScope s__law_told) .none kV29 dc29 pm29 an29 cd29 ct29), sl29⟩)
    (c29 : PySem.W.codeIn K cd29 "_law_told" = true)
    (k29 : PySem.W.keepIn K (.ref f29) = true)
    (a30 : PySem.W.nsIn K mainGlobals "_law_short_texts" = some (some (.ref f30)))
    (l30 : K.lookup f30 = some ⟨oc30, od30, .func (PySem.W.fnOf "_law_short_texts" "_law_short_texts" (defArgs s__law_short_texts) (defBody s__law_short_texts) (defScope s__law_short_texts) .none kV30 dc30 pm30 an30 cd30 ct30), sl30⟩)
    (c30 : PySem.W.codeIn K cd30 "_law_short_texts" = true)
    (k30 : PySem.W.keepIn K (.ref f30) = true)
    (a31 : PySem.W.nsIn K mainGlobals "_law_compared" = some (some (.ref f31)))
    (l31 : K.lookup f31 = some ⟨oc31, od31, .func (PySem.W.fnOf "_law_compared" "_law_compared" (defArgs s__law_compared) (defBody s__law_compared) (defScope s__law_compared) .none kV31 dc31 pm31 an31 cd31 ct31), sl31⟩)
    (c31 : PySem.W.codeIn K cd31 "_law_compared" = true)
    (k31 : PySem.W.keepIn K (.ref f31) = true)
    (a32 : PySem.W.nsIn K mainGlobals "_law_left_out" = some (some (.ref f32)))
    (l32 : K.lookup f32 = some ⟨oc32, od32, .func (PySem.W.fnOf "_law_left_out" "_law_left_out" (defArgs s__law_left_out) (defBody s__law_left_out) (defScope s__law_left_out) .none kV32 dc32 pm32 an32 cd32 ct32), sl32⟩)
    (c32 : PySem.W.codeIn K cd32 "_law_left_out" = true)
    (k32 : PySem.W.keepIn K (.ref f32) = true)
    (a33 : PySem.W.nsIn K mainGlobals "_law_closing" = some (some (.ref f33)))
    (l33 : K.lookup f33 = some ⟨oc33, od33, .func (PySem.W.fnOf "_law_closing" "_law_closing" (defArgs s__law_closing) (defBody s__law_closing) (defScope s__law_closing) .none kV33 dc33 pm33 an33 cd33 ct33), sl33⟩)
    (c33 : PySem.W.codeIn K cd33 "_law_closing" = true)
    (k33 : PySem.W.keepIn K (.ref f33) = true)
    (a34 : PySem.W.nsIn K mainGlobals "law" = some (some (.ref f34)))
    (l34 : K.lookup f34 = some ⟨oc34, od34, .func (PySem.W.fnOf "law" "law" (defArgs s_law) (defBody s_law) (defScope s_law) .none kV34 dc34 pm34 an34 cd34 ct34), sl34⟩)
    (c34 : PySem.W.codeIn K cd34 "law" = true)
    (k34 : PySem.W.keepIn K (.ref f34) = true)
    (pgC0 : PySem.W.plainGet K C0 Str.empty = true)
    (hdC0 : PySem.W.hasDictIn K C0 = true)
    (poC0 : PySem.W.plainOver K C0 = true)
    (saC0 : PySem.W.findIn K (.ref C0) "__setattr__" = some (some (.builtin "object.__setattr__")))
    (mkC0 : PySem.W.makesIn K C0 = true)
    (kcC0 : PySem.W.keepIn K (.ref C0) = true)
    (z_all : PySem.W.nsIn K mainGlobals "all" = some none)
    (z_any : PySem.W.nsIn K mainGlobals "any" = some none)
    (z_bool : PySem.W.nsIn K mainGlobals "bool" = some none)
    (z_enumerate : PySem.W.nsIn K mainGlobals "enumerate" = some none)
    (z_int : PySem.W.nsIn K mainGlobals "int" = some none)
    (z_isinstance : PySem.W.nsIn K mainGlobals "isinstance" = some none)
    (z_len : PySem.W.nsIn K mainGlobals "len" = some none)
    (z_list : PySem.W.nsIn K mainGlobals "list" = some none)
    (z_max : PySem.W.nsIn K mainGlobals "max" = some none)
    (z_min : PySem.W.nsIn K mainGlobals "min" = some none)
    (z_range : PySem.W.nsIn K mainGlobals "range" = some none)
    (z_str : PySem.W.nsIn K mainGlobals "str" = some none)
    (z_tuple : PySem.W.nsIn K mainGlobals "tuple" = some none)
    (na_Stopper_stops : PySem.W.findIn K (.ref C0) "stops" = some none)
    (na_Stopper_held : PySem.W.findIn K (.ref C0) "held" = some none)
    (na_Stopper_many : PySem.W.findIn K (.ref C0) "many" = some none)
    (na_Stopper_is_stopped : PySem.W.findIn K (.ref C0) "is_stopped" = some none)
    : ∃ fd : FuncData, (∀ (s : Shared) (v : Value), BindsTo s fd ⟨[v], []⟩ [("script", v)]) ∧ ∀ base : Heap, K.In base → base.Ns mainGlobals mg → FnOk l.prog w K mg base (L2.CX l.prog w) 12 fa fd ["script"] (lSp K spEnd) := by
  have e := hfa.symm.trans (PySem.W.mg_of X G a34)
  cases e
  have T : Txt K mg ⟨C0⟩ := ⟨PySem.W.mg_none_of X G z_all,
    PySem.W.mg_none_of X G z_any,
    PySem.W.mg_none_of X G z_bool,
    PySem.W.mg_none_of X G z_enumerate,
    PySem.W.mg_none_of X G z_int,
    PySem.W.mg_none_of X G z_isinstance,
    PySem.W.mg_none_of X G z_len,
    PySem.W.mg_none_of X G z_list,
    PySem.W.mg_none_of X G z_max,
    PySem.W.mg_none_of X G z_min,
    PySem.W.mg_none_of X G z_range,
    PySem.W.mg_none_of X G z_str,
    PySem.W.mg_none_of X G z_tuple,
    ⟨_, _, fun_mk l1 c1 k1, PySem.W.mg_of X G a1, ((fun_mk l1 c1 k1).binds (ps := ["stops", "text"]) fun _ _ _ _ _ _ us hl => match us, hl with | [_, _], _ => rfl)⟩,
    ⟨_, _, fun_mk l2 c2 k2, PySem.W.mg_of X G a2, ((fun_mk l2 c2 k2).binds (ps := ["stops", "text"]) fun _ _ _ _ _ _ us hl => match us, hl with | [_, _], _ => rfl)⟩,
    ⟨f3, _, fun_mk l3 c3 k3, ⟨mkC0, a3, i3, kcC0⟩, ((fun_mk l3 c3 k3).binds (ps := ["self", "stops"]) fun _ _ _ _ _ _ us hl => match us, hl with | [_, _], _ => rfl)⟩,
    ⟨f4, _, fun_mk l4 c4 k4, ⟨a4, i4, k4⟩, ((fun_mk l4 c4 k4).binds (ps := ["self"]) fun _ _ _ _ _ _ us hl => match us, hl with | [_], _ => rfl)⟩,
    ⟨f5, _, fun_mk l5 c5 k5, ⟨a5, i5, k5⟩, ((fun_mk l5 c5 k5).binds (ps := ["self"]) fun _ _ _ _ _ _ us hl => match us, hl with | [_], _ => rfl)⟩,
    ⟨f6, _, fun_mk l6 c6 k6, ⟨a6, i6, k6⟩, ((fun_mk l6 c6 k6).binds (ps := ["self", "letter"]) fun _ _ _ _ _ _ us hl => match us, hl with | [_, _], _ => rfl)⟩,
    ⟨f7, _, fun_mk l7 c7 k7, ⟨a7, i7, k7⟩, ((fun_mk l7 c7 k7).binds (ps := ["self"]) fun _ _ _ _ _ _ us hl => match us, hl with | [_], _ => rfl)⟩,
    ⟨f8, _, fun_mk l8 c8 k8, ⟨a8, i8, k8⟩, ((fun_mk l8 c8 k8).binds (ps := ["self"]) fun _ _ _ _ _ _ us hl => match us, hl with | [_], _ => rfl)⟩,
    ⟨_, _, fun_mk l9 c9 k9, PySem.W.mg_of X G a9, ((fun_mk l9 c9 k9).binds (ps := ["one", "other"]) fun _ _ _ _ _ _ us hl => match us, hl with | [_, _], _ => rfl)⟩,
    ⟨_, _, fun_mk l10 c10 k10, PySem.W.mg_of X G a10, ((fun_mk l10 c10 k10).binds (ps := ["stops", "other"]) fun _ _ _ _ _ _ us hl => match us, hl with | [_, _], _ => rfl)⟩,
    ⟨_, _, fun_mk l11 c11 k11, PySem.W.mg_of X G a11, ((fun_mk l11 c11 k11).binds (ps := ["stop", "other"]) fun _ _ _ _ _ _ us hl => match us, hl with | [_, _], _ => rfl)⟩,
    ⟨_, _, fun_mk l12 c12 k12, PySem.W.mg_of X G a12, ((fun_mk l12 c12 k12).binds (ps := ["stops"]) fun _ _ _ _ _ _ us hl => match us, hl with | [_], _ => rfl)⟩,
    ⟨_, _, fun_mk l13 c13 k13, PySem.W.mg_of X G a13, ((fun_mk l13 c13 k13).binds (ps := ["script"]) fun _ _ _ _ _ _ us hl => match us, hl with | [_], _ => rfl)⟩,
    ⟨_, _, fun_mk l14 c14 k14, PySem.W.mg_of X G a14, ((fun_mk l14 c14 k14).binds (ps := ["hand", "many"]) fun _ _ _ _ _ _ us hl => match us, hl with | [_, _], _ => rfl)⟩,
    ⟨_, _, fun_mk l15 c15 k15, PySem.W.mg_of X G a15, ((fun_mk l15 c15 k15).binds (ps := ["told", "due"]) fun _ _ _ _ _ _ us hl => match us, hl with | [_, _], _ => rfl)⟩,
    ⟨_, _, fun_mk l16 c16 k16, PySem.W.mg_of X G a16, ((fun_mk l16 c16 k16).binds (ps := ["ends", "text"]) fun _ _ _ _ _ _ us hl => match us, hl with | [_, _], _ => rfl)⟩,
    ⟨_, _, fun_mk l17 c17 k17, PySem.W.mg_of X G a17, ((fun_mk l17 c17 k17).binds (ps := ["ends", "text"]) fun _ _ _ _ _ _ us hl => match us, hl with | [_, _], _ => rfl)⟩,
    ⟨_, _, fun_mk l18 c18 k18, PySem.W.mg_of X G a18, ((fun_mk l18 c18 k18).binds (ps := ["hand"]) fun _ _ _ _ _ _ us hl => match us, hl with | [_], _ => rfl)⟩,
    ⟨_, _, fun_mk l19 c19 k19, PySem.W.mg_of X G a19, ((fun_mk l19 c19 k19).binds (ps := ["hand", "alphabet", "least", "more"]) fun _ _ _ _ _ _ us hl => match us, hl with | [_, _, _, _], _ => rfl)⟩,
    ⟨_, _, fun_mk l20 c20 k20, PySem.W.mg_of X G a20, ((fun_mk l20 c20 k20).binds (ps := ["hand", "alphabet", "most"]) fun _ _ _ _ _ _ us hl => match us, hl with | [_, _, _], _ => rfl)⟩,
    ⟨_, _, fun_mk l21 c21 k21, PySem.W.mg_of X G a21, ((fun_mk l21 c21 k21).binds (ps := ["hand", "ends", "alphabet"]) fun _ _ _ _ _ _ us hl => match us, hl with | [_, _, _], _ => rfl)⟩,
    ⟨_, _, fun_mk l22 c22 k22, PySem.W.mg_of X G a22, ((fun_mk l22 c22 k22).binds (ps := ["hand", "ends"]) fun _ _ _ _ _ _ us hl => match us, hl with | [_, _], _ => rfl)⟩,
    ⟨_, _, fun_mk l23 c23 k23, PySem.W.mg_of X G a23, ((fun_mk l23 c23 k23).binds (ps := ["ends"]) fun _ _ _ _ _ _ us hl => match us, hl with | [_], _ => rfl)⟩,
    ⟨_, _, fun_mk l24 c24 k24, PySem.W.mg_of X G a24, ((fun_mk l24 c24 k24).binds (ps := ["ends", "text"]) fun _ _ _ _ _ _ us hl => match us, hl with | [_, _], _ => rfl)⟩,
    ⟨_, _, fun_mk l25 c25 k25, PySem.W.mg_of X G a25, ((fun_mk l25 c25 k25).binds (ps := ["ends", "text"]) fun _ _ _ _ _ _ us hl => match us, hl with | [_, _], _ => rfl)⟩,
    ⟨_, _, fun_mk l26 c26 k26, PySem.W.mg_of X G a26, ((fun_mk l26 c26 k26).binds (ps := ["ends", "text"]) fun _ _ _ _ _ _ us hl => match us, hl with | [_, _], _ => rfl)⟩,
    ⟨_, _, fun_mk l27 c27 k27, PySem.W.mg_of X G a27, ((fun_mk l27 c27 k27).binds (ps := ["ends", "others", "text"]) fun _ _ _ _ _ _ us hl => match us, hl with | [_, _, _], _ => rfl)⟩,
    ⟨_, _, fun_mk l28 c28 k28, PySem.W.mg_of X G a28, ((fun_mk l28 c28 k28).binds (ps := ["ends"]) fun _ _ _ _ _ _ us hl => match us, hl with | [_], _ => rfl)⟩,
    ⟨_, _, fun_mk l29 c29 k29, PySem.W.mg_of X G a29, ((fun_mk l29 c29 k29).binds (ps := ["ends"]) fun _ _ _ _ _ _ us hl => match us, hl with | [_], _ => rfl)⟩,
    ⟨_, _, fun_mk l30 c30 k30, PySem.W.mg_of X G a30, ((fun_mk l30 c30 k30).binds (ps := ["alphabet", "outside", "many"]) fun _ _ _ _ _ _ us hl => match us, hl with | [_, _, _], _ => rfl)⟩,
    ⟨_, _, fun_mk l31 c31 k31, PySem.W.mg_of X G a31, ((fun_mk l31 c31 k31).binds (ps := ["alphabet", "ends", "others"]) fun _ _ _ _ _ _ us hl => match us, hl with | [_, _, _], _ => rfl)⟩,
    ⟨_, _, fun_mk l32 c32 k32, PySem.W.mg_of X G a32, ((fun_mk l32 c32 k32).binds (ps := ["hand", "alphabet", "ends"]) fun _ _ _ _ _ _ us hl => match us, hl with | [_, _, _], _ => rfl)⟩,
    ⟨_, _, fun_mk l33 c33 k33, PySem.W.mg_of X G a33, ((fun_mk l33 c33 k33).binds (ps := []) fun _ _ _ _ _ _ us hl => match us, hl with | [], _ => rfl)⟩,
    ⟨_, _, fun_mk l34 c34 k34, PySem.W.mg_of X G a34, ((fun_mk l34 c34 k34).binds (ps := ["script"]) fun _ _ _ _ _ _ us hl => match us, hl with | [_], _ => rfl)⟩,
    ⟨_, PySem.W.mg_of X G cn_LETTERS, tk_LETTERS, rfl⟩,
    ⟨pgC0, hdC0, poC0, saC0⟩,
    PySem.W.mg_of X G aC0,
    na_Stopper_stops,
    na_Stopper_held,
    na_Stopper_many,
    na_Stopper_is_stopped⟩
  exact ⟨PySem.W.fnOf "law" "law" (defArgs s_law) (defBody s_law) (defScope s_law) .none kV34 dc34 pm34 an34 cd34 ct34, fun s v => .of_eq rfl, fun base _ _ => okF_law T (fun_mk l34 c34 k34)⟩
end K93
open PySem PySem.W PyProof.Rows in
set_option maxRecDepth 100000 in
set_option maxHeartbeats 0 in
theorem PySem.Challenge.cw_everyasked_k93_whole_needless_stops_holds : PySem.Challenge.rw_everyasked_k93_whole_needless_stops.Holds := by
  w_on; o_law; k_head; (case hw => w_witness2)
  k_fill
  refine L2.walk_of (l := PySem.Challenge.rw_everyasked_k93_whole_needless_stops) (n := 63) (k := 12) (x := "script") (CX := fun w => L2.CX PySem.Challenge.rw_everyasked_k93_whole_needless_stops.prog w) (sp := fun w => DL.lSp _ K93.spEnd) rfl (by decide) rfl ⟨rfl, by decide, by decide⟩ (fun w h Y => PySem.W.kIn_of Y) ?F (fun _ H a ns hl ho hS => K93.spEnd_at hl hS) (fun _ _ _ _ _ h => DL.cx_no h)
  case F =>
    intro w mg fa h KX G hmg
    refine' K93.all_mk KX G hmg ?aC0 ?cn_LETTERS ?a1 ?l1 ?c1 ?k1 ?a2 ?l2 ?c2 ?k2 ?a3 ?i3 ?l3 ?c3 ?k3 ?a4 ?i4 ?l4 ?c4 ?k4 ?a5 ?i5 ?l5 ?c5 ?k5 ?a6 ?i6 ?l6 ?c6 ?k6 ?a7 ?i7 ?l7 ?c7 ?k7 ?a8 ?i8 ?l8 ?c8 ?k8 ?a9 ?l9 ?c9 ?k9 ?a10 ?l10 ?c10 ?k10 ?a11 ?l11 ?c11 ?k11 ?a12 ?l12 ?c12 ?k12 ?a13 ?l13 ?c13 ?k13 ?a14 ?l14 ?c14 ?k14 ?a15 ?l15 ?c15 ?k15 ?a16 ?l16 ?c16 ?k16 ?a17 ?l17 ?c17 ?k17 ?a18 ?l18 ?c18 ?k18 ?a19 ?l19 ?c19 ?k19 ?a20 ?l20 ?c20 ?k20 ?a21 ?l21 ?c21 ?k21 ?a22 ?l22 ?c22 ?k22 ?a23 ?l23 ?c23 ?k23 ?a24 ?l24 ?c24 ?k24 ?a25 ?l25 ?c25 ?k25 ?a26 ?l26 ?c26 ?k26 ?a27 ?l27 ?c27 ?k27 ?a28 ?l28 ?c28 ?k28 ?a29 ?l29 ?c29 ?k29 ?a30 ?l30 ?c30 ?k30 ?a31 ?l31 ?c31 ?k31 ?a32 ?l32 ?c32 ?k32 ?a33 ?l33 ?c33 ?k33 ?a34 ?l34 ?c34 ?k34 ?pgC0 ?hdC0 ?poC0 ?saC0 ?mkC0 ?kcC0 ?z_all ?z_any ?z_bool ?z_enumerate ?z_int ?z_isinstance ?z_len ?z_list ?z_max ?z_min ?z_range ?z_str ?z_tuple ?na_Stopper_stops ?na_Stopper_held ?na_Stopper_many ?na_Stopper_is_stopped
    (case aC0 => k_is)
    (case cn_LETTERS => k_is)
    (case a1 => k_is)
    (case l1 => k_is)
    (case c1 => k_is)
    (case k1 => k_is)
    (case a2 => k_is)
    (case l2 => k_is)
    (case c2 => k_is)
    (case k2 => k_is)
    (case a3 => k_is)
    (case i3 => k_is)
    (case l3 => k_is)
    (case c3 => k_is)
    (case k3 => k_is)
    (case a4 => k_is)
    (case i4 => k_is)
    (case l4 => k_is)
    (case c4 => k_is)
    (case k4 => k_is)
    (case a5 => k_is)
    (case i5 => k_is)
    (case l5 => k_is)
    (case c5 => k_is)
    (case k5 => k_is)
    (case a6 => k_is)
    (case i6 => k_is)
    (case l6 => k_is)
    (case c6 => k_is)
    (case k6 => k_is)
    (case a7 => k_is)
    (case i7 => k_is)
    (case l7 => k_is)
    (case c7 => k_is)
    (case k7 => k_is)
    (case a8 => k_is)
    (case i8 => k_is)
    (case l8 => k_is)
    (case c8 => k_is)
    (case k8 => k_is)
    (case a9 => k_is)
    (case l9 => k_is)
    (case c9 => k_is)
    (case k9 => k_is)
    (case a10 => k_is)
    (case l10 => k_is)
    (case c10 => k_is)
    (case k10 => k_is)
    (case a11 => k_is)
    (case l11 => k_is)
    (case c11 => k_is)
    (case k11 => k_is)
    (case a12 => k_is)
    (case l12 => k_is)
    (case c12 => k_is)
    (case k12 => k_is)
    (case a13 => k_is)
    (case l13 => k_is)
    (case c13 => k_is)
    (case k13 => k_is)
    (case a14 => k_is)
    (case l14 => k_is)
    (case c14 => k_is)
    (case k14 => k_is)
    (case a15 => k_is)
    (case l15 => k_is)
    (case c15 => k_is)
    (case k15 => k_is)
    (case a16 => k_is)
    (case l16 => k_is)
    (case c16 => k_is)
    (case k16 => k_is)
    (case a17 => k_is)
    (case l17 => k_is)
    (case c17 => k_is)
    (case k17 => k_is)
    (case a18 => k_is)
    (case l18 => k_is)
    (case c18 => k_is)
    (case k18 => k_is)
    (case a19 => k_is)
    (case l19 => k_is)
    (case c19 => k_is)
    (case k19 => k_is)
    (case a20 => k_is)
    (case l20 => k_is)
    (case c20 => k_is)
    (case k20 => k_is)
    (case a21 => k_is)
    (case l21 => k_is)
    (case c21 => k_is)
    (case k21 => k_is)
    (case a22 => k_is)
    (case l22 => k_is)
    (case c22 => k_is)
    (case k22 => k_is)
    (case a23 => k_is)
    (case l23 => k_is)
    (case c23 => k_is)
    (case k23 => k_is)
    (case a24 => k_is)
    (case l24 => k_is)
    (case c24 => k_is)
    (case k24 => k_is)
    (case a25 => k_is)
    (case l25 => k_is)
    (case c25 => k_is)
    (case k25 => k_is)
    (case a26 => k_is)
    (case l26 => k_is)
    (case c26 => k_is)
    (case k26 => k_is)
    (case a27 => k_is)
    (case l27 => k_is)
    (case c27 => k_is)
    (case k27 => k_is)
    (case a28 => k_is)
    (case l28 => k_is)
    (case c28 => k_is)
    (case k28 => k_is)
    (case a29 => k_is)
    (case l29 => k_is)
    (case c29 => k_is)
    (case k29 => k_is)
    (case a30 => k_is)
    (case l30 => k_is)
    (case c30 => k_is)
    (case k30 => k_is)
    (case a31 => k_is)
    (case l31 => k_is)
    (case c31 => k_is)
    (case k31 => k_is)
    (case a32 => k_is)
    (case l32 => k_is)
    (case c32 => k_is)
    (case k32 => k_is)
    (case a33 => k_is)
    (case l33 => k_is)
    (case c33 => k_is)
    (case k33 => k_is)
    (case a34 => k_is)
    (case l34 => k_is)
    (case c34 => k_is)
    (case k34 => k_is)
    (case pgC0 => k_is)
    (case hdC0 => k_is)
    (case poC0 => k_is)
    (case saC0 => k_is)
    (case mkC0 => k_is)
    (case kcC0 => k_is)
    (case z_all => k_is)
    (case z_any => k_is)
    (case z_bool => k_is)
    (case z_enumerate => k_is)
    (case z_int => k_is)
    (case z_isinstance => k_is)
    (case z_len => k_is)
    (case z_list => k_is)
    (case z_max => k_is)
    (case z_min => k_is)
    (case z_range => k_is)
    (case z_str => k_is)
    (case z_tuple => k_is)
    (case na_Stopper_stops => k_is)
    (case na_Stopper_held => k_is)
    (case na_Stopper_many => k_is)
    (case na_Stopper_is_stopped => k_is)
