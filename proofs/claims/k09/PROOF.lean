import PyProof.Rows.All
import Wide.All
import OpenK.AllK
import Wide.FinOn
import HandS.ForMost
import HandS.ForExc
import HandS.IsInst
import KE.KeyNested
import HandS.Wide
import HandS.SortInts
import HandS.TupAny
import KE.GoesMore
import HandS.TupMul
import HandS.ExcInit
import HandS.ExcField
import HandS.ExcIs
import KE.KExcIs
import HandS.Small
import PyProof.Rows.TupDisplay
import HandS.TupLen
import KE.DataEq
import PyProof.SeqIndex
import KE.DataCmp
import HandS.Ends
import HandS.HotCalls
import KE.KTupSum
import KE.DataMinMax
import HandS.Zip
import KE.GoesEnum
import HandS.Defaults
import HandS.Conv
import HandS.More
import PyProof.InstNe
import PySem.Challenge.RW_everyasked_k09_whole_sums_tell_the_rows
set_option Elab.async false
set_option linter.all false
set_option maxRecDepth 100000
set_option maxHeartbeats 2000000
/-! The data layer, part a: data trees, the abstract store, what stands for what. -/
namespace DL
open PySem PySem.Spec PyProof.Rows L2

/-- data: trees that never change; ref a: a mutable object of the store -/
inductive D where
  | non | bl (b : Bool) | int (i : Int) | str (x : Str) | ref (a : Addr)
  | lst (xs : List D) | tup (xs : List D) | fro (xs : List D) | obj (C : Addr) (N : List Str) (xs : List D)
  | exc (a dd C : Addr) (f : Str) (x : D)
/-- mutable objects; an instance: the names of its fields, their values -/
inductive MO where
  | lst (xs : List D) | ins (C : Addr) (N : List Str) (xs : List (Option D)) | dK (kvs : List (Key × D)) | dN (a : Addr) (kvs : List (D × D))
abbrev DE := List (Option D)
abbrev Sto := Addr → Option MO
def put (S : Sto) (a : Addr) (m : MO) : Sto := fun b => if b = a then some m else S b
def del (S : Sto) (a : Addr) : Sto := fun b => if b = a then none else S b
theorem put_same {S : Sto} {a : Addr} {m : MO} : put S a m a = some m := if_pos rfl
theorem put_ne {S : Sto} {a b : Addr} {m : MO} (h : b ≠ a) : put S a m b = S b := if_neg h
theorem put_put {S : Sto} {a : Addr} {m n : MO} : put (put S a m) a n = put S a n := by
  funext b; unfold put; split <;> rfl
theorem put_self {S : Sto} {a : Addr} {m : MO} (h : S a = some m) : put S a m = S := by
  funext b; unfold put; split
  · next e => rw [e, h]
  · rfl
theorem del_put {S : Sto} {a : Addr} {m : MO} (h : S a = none) : del (put S a m) a = S := by
  funext b; unfold del put
  by_cases e : b = a
  · rw [if_pos e, e, h]
  · rw [if_neg e, if_neg e]
theorem put_comm {S : Sto} {a b : Addr} {m n : MO} (h : a ≠ b) : put (put S a m) b n = put (put S b n) a m := by
  funext c; unfold put
  by_cases e1 : c = a
  · subst e1; rw [if_pos rfl, if_neg h]; rw [if_pos rfl]
  · by_cases e2 : c = b
    · rw [if_pos e2, if_neg e1, if_pos e2]
    · rw [if_neg e2, if_neg e1, if_neg e1, if_neg e2]
theorem ne_of_S {S : Sto} {a b : Addr} {m : MO} (h : S a = some m) (h' : S b = none) : a ≠ b := by
  intro e; subst e; rw [h] at h'; cases h'

mutual
def Rep (K : PySem.W.Frag) (W : Hp) : D → V → Prop
  | .non, v => v = .non
  | .bl b, v => v = .bl b
  | .int i, v => v = .int i
  | .str x, v => v = .str x
  | .ref a, v => v = .ref a
  | .lst xs, v => ∃ a vs, v = .ref a ∧ W a = some (.lst vs) ∧ Reps K W xs vs
  | .tup xs, v => ∃ a vs, v = .ref a ∧ SqT K W a vs ∧ Reps K W xs vs
  | .fro xs, v => ∃ a vs, v = .ref a ∧ SqL K W a vs ∧ Reps K W xs vs
  | .obj C N xs, v => ∃ a dx gs vs, v = .ref a ∧ W a = some (.ins C dx gs) ∧ (∀ (i : Nat) (f : Str), N[i]? = some f → gs.lookup f = vs[i]?) ∧ (∀ f : Str, f ∉ N → gs.lookup f = none) ∧ Reps K W xs vs
  | .exc a dd C f x, v => v = .ref a ∧ ∃ gs u, W dd = some (.xd gs) ∧ gs.lookup f = some u ∧ Rep K W x u
def Reps (K : PySem.W.Frag) (W : Hp) : List D → List V → Prop
  | [], vs => vs = []
  | d :: ds, vs => ∃ v r, vs = v :: r ∧ Rep K W d v ∧ Reps K W ds r
end
abbrev Repf (K : PySem.W.Frag) (W : Hp) (fs : List (Str × D)) (gs : List (Str × V)) : Prop := ∀ f d, fs.lookup f = some d → ∃ v, gs.lookup f = some v ∧ Rep K W d v
def Repk {κ : Type} (K : PySem.W.Frag) (W : Hp) : List (κ × D) → List (κ × V) → Prop
  | [], gs => gs = []
  | (f, d) :: ds, gs => ∃ v r, gs = (f, v) :: r ∧ Rep K W d v ∧ Repk K W ds r

section
variable {K : PySem.W.Frag} {W W' : Hp}
theorem sqL_mono (e : Same W W') {a : Addr} {vs : List V} (h : SqL K W a vs) : SqL K W' a vs := e.seq h
theorem sqT_mono (e : Same W W') {a : Addr} {vs : List V} (h : SqT K W a vs) : SqT K W' a vs := by
  rcases h with (h | ⟨o, h⟩) | h
  · exact .inl (.inl (e _ _ h))
  · exact .inl (.inr ⟨o, e _ _ h⟩)
  · exact .inr h
mutual
theorem Rep.mono (e : Same W W') : ∀ {d : D} {v : V}, Rep K W d v → Rep K W' d v
  | .non, _, h => h
  | .bl _, _, h => h
  | .int _, _, h => h
  | .str _, _, h => h
  | .ref _, _, h => h
  | .lst _, _, ⟨a, vs, e1, e2, e3⟩ => ⟨a, vs, e1, e _ _ e2, Reps.mono e e3⟩
  | .tup _, _, ⟨a, vs, e1, e2, e3⟩ => ⟨a, vs, e1, sqT_mono e e2, Reps.mono e e3⟩
  | .fro _, _, ⟨a, vs, e1, e2, e3⟩ => ⟨a, vs, e1, sqL_mono e e2, Reps.mono e e3⟩
  | .obj _ _ _, _, ⟨a, dx, gs, vs, e1, e2, e4, e5, e3⟩ => ⟨a, dx, gs, vs, e1, e _ _ e2, e4, e5, Reps.mono e e3⟩
  | .exc _ _ _ _ _, _, ⟨e1, gs, u, e2, e3, e4⟩ => ⟨e1, gs, u, e _ _ e2, e3, Rep.mono e e4⟩
theorem Reps.mono (e : Same W W') : ∀ {ds : List D} {vs : List V}, Reps K W ds vs → Reps K W' ds vs
  | [], _, h => h
  | _ :: _, _, ⟨v, r, e1, e2, e3⟩ => ⟨v, r, e1, Rep.mono e e2, Reps.mono e e3⟩
end
theorem Repk.mono {κ : Type} (e : Same W W') : ∀ {ds : List (κ × D)} {vs : List (κ × V)}, Repk K W ds vs → Repk K W' ds vs
  | [], _, h => h
  | (_, _) :: _, _, ⟨v, r, e1, e2, e3⟩ => ⟨v, r, e1, Rep.mono e e2, Repk.mono e e3⟩
theorem Reps.length : ∀ {ds : List D} {vs : List V}, Reps K W ds vs → vs.length = ds.length
  | [], _, h => by rw [show _ = [] from h]; rfl
  | _ :: ds, _, ⟨v, r, e1, e2, e3⟩ => by
    subst e1
    show r.length + 1 = ds.length + 1
    rw [Reps.length e3]
theorem Reps.get : ∀ {ds : List D} {vs : List V} {i : Nat} {d : D}, Reps K W ds vs → ds[i]? = some d → ∃ v, vs[i]? = some v ∧ Rep K W d v
  | [], _, _, _, _, e => by simp at e
  | _ :: _, _, 0, _, ⟨v, r, e1, e2, e3⟩, e => by
    subst e1
    have e' := Option.some.inj e
    subst e'
    exact ⟨v, rfl, e2⟩
  | _ :: _, _, i + 1, _, ⟨v, r, e1, e2, e3⟩, e => by
    subst e1
    exact Reps.get (i := i) e3 e
theorem Reps.append : ∀ {ds es : List D} {vs ws : List V}, Reps K W ds vs → Reps K W es ws → Reps K W (ds ++ es) (vs ++ ws)
  | [], _, _, _, h, h' => by
    rw [show _ = [] from h]
    exact h'
  | _ :: _, _, _, _, ⟨v, r, e1, e2, e3⟩, h' => by
    subst e1
    exact ⟨v, _, rfl, e2, Reps.append e3 h'⟩
theorem Reps.one {d : D} {v : V} (h : Rep K W d v) : Reps K W [d] [v] := ⟨v, [], rfl, h, rfl⟩
theorem Reps.take : ∀ {ds : List D} {vs : List V} (n : Nat), Reps K W ds vs → Reps K W (ds.take n) (vs.take n)
  | [], _, n, h => by
    rw [show _ = [] from h, List.take_nil, List.take_nil]; rfl
  | _ :: _, _, 0, _ => by rw [List.take_zero, List.take_zero]; rfl
  | _ :: _, _, n + 1, ⟨v, r, e1, e2, e3⟩ => by
    subst e1
    exact ⟨v, _, rfl, e2, Reps.take n e3⟩
theorem Reps.drop : ∀ {ds : List D} {vs : List V} (n : Nat), Reps K W ds vs → Reps K W (ds.drop n) (vs.drop n)
  | [], _, n, h => by
    rw [show _ = [] from h, List.drop_nil, List.drop_nil]; rfl
  | _ :: _, _, 0, h => h
  | _ :: _, _, n + 1, ⟨v, r, e1, e2, e3⟩ => by
    subst e1
    exact Reps.drop n e3
theorem Reps.set {d : D} {v : V} (h : Rep K W d v) : ∀ {ds : List D} {vs : List V} (i : Nat), Reps K W ds vs → Reps K W (ds.set i d) (vs.set i v)
  | [], _, _, h' => by
    rw [show _ = [] from h']; rfl
  | _ :: _, _, 0, ⟨_, r, e1, e2, e3⟩ => by
    subst e1
    exact ⟨v, r, rfl, h, e3⟩
  | _ :: _, _, i + 1, ⟨w, r, e1, e2, e3⟩ => by
    subst e1
    exact ⟨w, _, rfl, e2, Reps.set h i e3⟩
theorem Repf.mono (e : Same W W') {fs : List (Str × D)} {gs : List (Str × V)} (h : Repf K W fs gs) : Repf K W' fs gs := fun f d q => by
  obtain ⟨v, a, b⟩ := h f d q
  exact ⟨v, a, b.mono e⟩
/-- slots of an environment, fields of an instance -/
def getV : DE → Nat → Option D
  | [], _ => none
  | x :: _, 0 => x
  | _ :: r, i + 1 => getV r i
def setV : DE → Nat → D → DE
  | [], _, _ => []
  | _ :: r, 0, d => some d :: r
  | x :: r, i + 1, d => x :: setV r i d
def cntV : DE → Nat
  | [] => 0
  | none :: r => cntV r
  | some _ :: r => cntV r + 1
theorem getV_setV : ∀ {e : DE} {i j : Nat} {d x : D}, getV (setV e i d) j = some x → (j = i ∧ x = d) ∨ (j ≠ i ∧ getV e j = some x)
  | [], _, _, _, _, h => by cases h
  | _ :: r, 0, 0, d, x, h => .inl ⟨rfl, (Option.some.inj h).symm⟩
  | _ :: r, 0, j + 1, d, x, h => .inr ⟨Nat.succ_ne_zero j, h⟩
  | y :: r, i + 1, 0, d, x, h => .inr ⟨(Nat.succ_ne_zero i).symm, h⟩
  | y :: r, i + 1, j + 1, d, x, h => by
    rcases getV_setV (e := r) (i := i) (j := j) h with ⟨a, b⟩ | ⟨a, b⟩
    · exact .inl ⟨by rw [a], b⟩
    · exact .inr ⟨fun z => a (Nat.succ.inj z), b⟩
theorem getV_set_ne : ∀ {e : DE} {i j : Nat} {d : D}, j ≠ i → getV (setV e i d) j = getV e j
  | [], _, _, _, _ => rfl
  | _ :: r, 0, 0, d, h => absurd rfl h
  | _ :: r, 0, j + 1, d, h => rfl
  | y :: r, i + 1, 0, d, h => rfl
  | y :: r, i + 1, j + 1, d, h => getV_set_ne (e := r) (i := i) (j := j) fun z => h (by rw [z])
theorem getV_set_same : ∀ {e : DE} {i : Nat} {d : D}, i < e.length → getV (setV e i d) i = some d
  | [], _, _, h => absurd h (Nat.not_lt_zero _)
  | _ :: r, 0, d, _ => rfl
  | y :: r, i + 1, d, h => getV_set_same (e := r) (i := i) (Nat.lt_of_succ_lt_succ h)
theorem setV_length : ∀ {e : DE} {i : Nat} {d : D}, (setV e i d).length = e.length
  | [], _, _ => rfl
  | _ :: r, 0, d => rfl
  | y :: r, i + 1, d => congrArg (· + 1) (setV_length (e := r) (i := i))
theorem cntV_le : ∀ e : DE, cntV e ≤ e.length
  | [] => Nat.le_refl _
  | none :: r => Nat.le_succ_of_le (cntV_le r)
  | some _ :: r => Nat.succ_le_succ (cntV_le r)
theorem cntV_none : ∀ {e : DE} {i : Nat} {d : D}, i < e.length → getV e i = none → cntV (setV e i d) = cntV e + 1
  | [], _, _, h, _ => absurd h (Nat.not_lt_zero _)
  | none :: r, 0, d, _, _ => rfl
  | some _ :: r, 0, d, _, h => by cases h
  | none :: r, i + 1, d, h, q => cntV_none (e := r) (i := i) (Nat.lt_of_succ_lt_succ h) q
  | some _ :: r, i + 1, d, h, q => congrArg (· + 1) (cntV_none (e := r) (i := i) (Nat.lt_of_succ_lt_succ h) q)
theorem cntV_some : ∀ {e : DE} {i : Nat} {d x : D}, getV e i = some x → cntV (setV e i d) = cntV e
  | [], _, _, _, h => by cases h
  | none :: r, 0, d, _, h => by cases h
  | some _ :: r, 0, d, _, h => rfl
  | none :: r, i + 1, d, _, q => cntV_some (e := r) (i := i) q
  | some _ :: r, i + 1, d, _, q => congrArg (· + 1) (cntV_some (e := r) (i := i) q)
theorem putF_len {f : Str} {v w : V} : ∀ {gs : List (Str × V)}, gs.lookup f = some w → (putF f v gs).length = gs.length
  | [], h => by cases h
  | (g, x) :: r, h => by
    show (if g = f then (g, v) :: r else (g, x) :: putF f v r).length = r.length + 1
    by_cases q : g = f
    · rw [if_pos q]; rfl
    · rw [if_neg q]
      have hb : (f == g) = false := beq_eq_false_iff_ne.mpr fun z => q z.symm
      rw [List.lookup_cons, hb] at h
      show (putF f v r).length + 1 = r.length + 1
      rw [putF_len (gs := r) h]
/-- an instance's fields -/
structure FRep (K : PySem.W.Frag) (W : Hp) (N : List Str) (xs : DE) (gs : List (Str × V)) : Prop where
  nd : N.Nodup
  few : N.length ≤ 900
  len : xs.length = N.length
  is : ∀ (i : Nat) (f : Str) (d : D), N[i]? = some f → getV xs i = some d → ∃ v, gs.lookup f = some v ∧ Rep K W d v
  no : ∀ (i : Nat) (f : Str), N[i]? = some f → getV xs i = none → gs.lookup f = none
  out : ∀ f : Str, f ∉ N → gs.lookup f = none
  cnt : gs.length ≤ cntV xs
theorem FRep.mono (e : Same W W') {N : List Str} {xs : DE} {gs : List (Str × V)} (h : FRep K W N xs gs) : FRep K W' N xs gs :=
  ⟨h.nd, h.few, h.len, fun i f d a b => by
    obtain ⟨v, c, r⟩ := h.is i f d a b
    exact ⟨v, c, r.mono e⟩, h.no, h.out, h.cnt⟩
theorem FRep.lt {N : List Str} {xs : DE} {gs : List (Str × V)} (h : FRep K W N xs gs) : gs.length < 1000 := by
  have a := h.cnt
  have b := cntV_le xs
  have c := h.len
  have d := h.few
  omega
theorem FRep.put {N : List Str} {xs : DE} {gs : List (Str × V)} (h : FRep K W N xs gs) {i : Nat} {f : Str} {d : D} {v : V} (hi : N[i]? = some f) (r : Rep K W d v) : FRep K W N (setV xs i d) (putF f v gs) := by
  have hlt : i < N.length := (List.getElem?_eq_some_iff.mp hi).1
  have hlx : i < xs.length := by rw [h.len]; exact hlt
  refine ⟨h.nd, h.few, by rw [setV_length]; exact h.len, fun j g x hj hx => ?_, fun j g hj hx => ?_, fun g hg => ?_, ?_⟩
  · rw [lookup_putF]
    rcases getV_setV hx with ⟨a, b⟩ | ⟨a, b⟩
    · subst a b
      rw [hi] at hj
      cases hj
      exact ⟨v, if_pos rfl, r⟩
    · have ne : g ≠ f := fun z => a (by subst z; exact nodup_ix h.nd hj hi)
      obtain ⟨w, c, rr⟩ := h.is j g x hj b
      exact ⟨w, by rw [if_neg ne]; exact c, rr⟩
  · rw [lookup_putF]
    by_cases e : j = i
    · subst e
      rw [getV_set_same hlx] at hx
      cases hx
    · rw [getV_set_ne e] at hx
      have ne : g ≠ f := fun z => e (by subst z; exact nodup_ix h.nd hj hi)
      rw [if_neg ne]
      exact h.no j g hj hx
  · have ne : g ≠ f := fun z => hg (by subst z; exact List.mem_of_getElem? hi)
    rw [lookup_putF, if_neg ne]
    exact h.out g hg
  · cases q : getV xs i with
    | none =>
      rw [cntV_none hlx q]
      exact Nat.le_trans (length_putF f v gs) (Nat.succ_le_succ h.cnt)
    | some x =>
      obtain ⟨w, c, _⟩ := h.is i f x hi q
      rw [cntV_some q, putF_len c]
      exact h.cnt
end

/-! ### keys: tuples of ints, bools, None and of such tuples -/
mutual
def nkD : D → Option NestedKey
  | .non => some .none
  | .bl b => some (.num (if b = true then 1 else 0))
  | .int i => some (.num i)
  | .tup xs => (nksD xs).map NestedKey.tup
  | _ => none
def nksD : List D → Option (List NestedKey)
  | [] => some []
  | d :: r => (nkD d).bind fun k => (nksD r).map (k :: ·)
end
mutual
def khash : NestedKey → Int
  | .none => reduceHash 0xFCA86420
  | .num i => hashInt i
  | .text _ => 0
  | .tup ks => reduceHash (Builtin.Tuple.tupleHashOf (khashes ks))
def khashes : List NestedKey → List Int
  | [] => []
  | k :: ks => khash k :: khashes ks
end
/-- a dict's object: its entries -/
def dnP (a : Addr) (xs : List (NestedKey × Addr × Value)) : Heap → Prop := fun h => ∃ ob es ep, h.get? a = some ob ∧ ob.ExactDict ∧ ob.data = .dict es ep ∧ es.toList = xs.map fun x => ⟨khash x.1, .ref x.2.1, x.2.2⟩
def DN (K : PySem.W.Frag) (W : Hp) : List (D × D) → List (NestedKey × Addr × Value) → Prop
  | [], xs => xs = []
  | p :: r, xs => ∃ k b u v r', xs = (k, b, u) :: r' ∧ (nkD p.1 = some k ∧ k.depth ≤ 8) ∧ Rep K W p.1 (.ref b) ∧ (Rep K W p.2 v ∧ RelV v u) ∧ DN K W r r'
theorem DN.mono {K : PySem.W.Frag} {W W' : Hp} (e : Same W W') : ∀ {ds : List (D × D)} {xs : List (NestedKey × Addr × Value)}, DN K W ds xs → DN K W' ds xs
  | [], _, h => h
  | _ :: _, _, ⟨k, b, u, v, r', e1, e2, e3, ⟨e4, e5⟩, e6⟩ => ⟨k, b, u, v, r', e1, e2, e3.mono e, ⟨e4.mono e, e5⟩, DN.mono e e6⟩
/-- what stands at a mutable object's address -/
def MRep (K : PySem.W.Frag) (W : Hp) : MO → HO → Prop
  | .lst xs, o => ∃ vs, o = .lst vs ∧ Reps K W xs vs
  | .ins C N xs, o => ∃ dx gs, o = .ins C dx gs ∧ FRep K W N xs gs
  | .dK kvs, o => ∃ ws, o = .dK ws ∧ Repk K W kvs ws
  | .dN a kvs, o => ∃ xs, o = .ext (dnP a xs) ∧ (kvs.length ≤ sizeLine ∧ (a == sysModules) = false ∧ (xs.map (·.1)).Nodup) ∧ DN K W kvs xs
theorem MRep.mono {K : PySem.W.Frag} {W W' : Hp} (e : Same W W') : ∀ {m : MO} {o : HO}, MRep K W m o → MRep K W' m o
  | .lst _, _, ⟨vs, e1, e2⟩ => ⟨vs, e1, Reps.mono e e2⟩
  | .ins _ _ _, _, ⟨dx, gs, e1, e2⟩ => ⟨dx, gs, e1, e2.mono e⟩
  | .dK _, _, ⟨ws, e1, e2⟩ => ⟨ws, e1, Repk.mono e e2⟩
  | .dN _ _, _, ⟨xs, e1, z, e2⟩ => ⟨xs, e1, z, DN.mono e e2⟩
/-- the heap: what is seen and never changes (W), the store (S) -/
structure Ok (K : PySem.W.Frag) (W : Hp) (S : Sto) (H : Hp) : Prop where
  vis : Same W H
  sto : ∀ a m, S a = some m → ∃ o, H a = some o ∧ MRep K W m o
  sep : ∀ a m, S a = some m → W a = none
def delV : DE → Nat → DE
  | [], _ => []
  | _ :: r, 0 => none :: r
  | x :: r, i + 1 => x :: delV r i
def Sl (K : PySem.W.Frag) (W : Hp) (e : DE) (σ : L2.St) : Prop := ∀ i d, getV e i = some d → ∃ v, σ[i]? = some (some v) ∧ Rep K W d v
theorem getV_delV : ∀ {e : DE} {i j : Nat} {x : D}, getV (delV e i) j = some x → j ≠ i ∧ getV e j = some x
  | [], _, _, _, h => by cases h
  | _ :: r, 0, 0, x, h => by cases h
  | _ :: r, 0, j + 1, x, h => ⟨Nat.succ_ne_zero j, h⟩
  | y :: r, i + 1, 0, x, h => ⟨(Nat.succ_ne_zero i).symm, h⟩
  | y :: r, i + 1, j + 1, x, h => by
    obtain ⟨a, b⟩ := getV_delV (e := r) (i := i) (j := j) h
    exact ⟨fun z => a (Nat.succ.inj z), b⟩
section
variable {K : PySem.W.Frag} {W W' : Hp} {S : Sto} {H : Hp} {e : DE} {σ : L2.St}
theorem Sl.mono (z : Same W W') (h : Sl K W e σ) : Sl K W' e σ := fun i d q => by
  obtain ⟨v, a, b⟩ := h i d q
  exact ⟨v, a, b.mono z⟩
theorem lt_of_some {α : Type} {l : List α} {i : Nat} {x : α} (h : l[i]? = some x) : i < l.length := (List.getElem?_eq_some_iff.mp h).1
theorem Sl.set {i : Nat} {d : D} {v : V} (h : Sl K W e σ) (hi : i < σ.length) (r : Rep K W d v) : Sl K W (setV e i d) (σ.set i (some v)) := fun j x q => by
  rcases getV_setV q with ⟨a, b⟩ | ⟨a, b⟩
  · subst a b
    exact ⟨v, List.getElem?_set_self hi, r⟩
  · obtain ⟨w, c, f⟩ := h j x b
    exact ⟨w, by rw [List.getElem?_set_ne (Ne.symm a)]; exact c, f⟩
theorem Ok.fresh (ok : Ok K W S H) {p : Addr} (h : H p = none) : W p = none ∧ S p = none := by
  constructor
  · cases q : W p with
    | none => rfl
    | some o => rw [ok.vis _ _ q] at h; cases h
  · cases q : S p with
    | none => rfl
    | some m =>
      obtain ⟨o, e, _⟩ := ok.sto _ _ q
      rw [e] at h; cases h
theorem same_new {p : Addr} {o : HO} (h : W p = none) : Same W (upd W p o) := fun b x e => by
  rw [upd_ne (ne_of_none e h)]
  exact e
/-- a new object that never changes -/
theorem Ok.newW (ok : Ok K W S H) {p : Addr} {o : HO} (h : H p = none) : Ok K (upd W p o) S (upd H p o) := by
  obtain ⟨hW, hS⟩ := ok.fresh h
  refine ⟨fun b x e => ?_, fun a m e => ?_, fun a m e => ?_⟩
  · by_cases q : b = p
    · subst q; rw [upd_same] at e ⊢; exact e
    · rw [upd_ne q] at e ⊢; exact ok.vis _ _ e
  · obtain ⟨x, e1, e2⟩ := ok.sto _ _ e
    refine ⟨x, ?_, e2.mono (same_new hW)⟩
    rw [upd_ne (ne_of_S e hS)]; exact e1
  · rw [upd_ne (ne_of_S e hS)]; exact ok.sep _ _ e
/-- a new mutable object -/
theorem Ok.newS (ok : Ok K W S H) {p : Addr} {o : HO} {m : MO} (h : H p = none) (r : MRep K W m o) : Ok K W (put S p m) (upd H p o) := by
  obtain ⟨hW, hS⟩ := ok.fresh h
  refine ⟨fun b x e => ?_, fun a n e => ?_, fun a n e => ?_⟩
  · rw [upd_ne (ne_of_none e hW)]; exact ok.vis _ _ e
  · by_cases q : a = p
    · subst q
      rw [put_same] at e
      cases e
      exact ⟨o, upd_same, r⟩
    · rw [put_ne q] at e
      obtain ⟨x, e1, e2⟩ := ok.sto _ _ e
      exact ⟨x, by rw [upd_ne q]; exact e1, e2⟩
  · by_cases q : a = p
    · subst q; exact hW
    · rw [put_ne q] at e; exact ok.sep _ _ e
/-- a mutable object changes -/
theorem Ok.chg (ok : Ok K W S H) {p : Addr} {o : HO} {m m0 : MO} (h : S p = some m0) (r : MRep K W m o) : Ok K W (put S p m) (upd H p o) := by
  have hW := ok.sep _ _ h
  refine ⟨fun b x e => ?_, fun a n e => ?_, fun a n e => ?_⟩
  · rw [upd_ne (ne_of_none e hW)]; exact ok.vis _ _ e
  · by_cases q : a = p
    · subst q
      rw [put_same] at e
      cases e
      exact ⟨o, upd_same, r⟩
    · rw [put_ne q] at e
      obtain ⟨x, e1, e2⟩ := ok.sto _ _ e
      exact ⟨x, by rw [upd_ne q]; exact e1, e2⟩
  · by_cases q : a = p
    · subst q; exact hW
    · rw [put_ne q] at e; exact ok.sep _ _ e
/-- a mutable object is thrown out of the store -/
theorem Ok.less (ok : Ok K W S H) {S' : Sto} (h : ∀ a m, S' a = some m → S a = some m) : Ok K W S' H :=
  ⟨ok.vis, fun a m e => ok.sto a m (h a m e), fun a m e => ok.sep a m (h a m e)⟩
theorem Ok.del (ok : Ok K W S H) (a : Addr) : Ok K W (del S a) H := ok.less fun b m e => by
  unfold DL.del at e
  by_cases q : b = a
  · rw [if_pos q] at e; cases e
  · rw [if_neg q] at e; exact e
/-- a mutable object never changes again -/
theorem Ok.frz (ok : Ok K W S H) {a : Addr} {m : MO} {o : HO} (h : S a = some m) (ho : H a = some o) : Ok K (upd W a o) (DL.del S a) H := by
  have hW := ok.sep _ _ h
  refine ⟨fun b x e => ?_, fun b n e => ?_, fun b n e => ?_⟩
  · by_cases q : b = a
    · subst q; rw [upd_same] at e; cases e; exact ho
    · rw [upd_ne q] at e; exact ok.vis _ _ e
  · unfold DL.del at e
    by_cases q : b = a
    · rw [if_pos q] at e; cases e
    · rw [if_neg q] at e
      obtain ⟨x, e1, e2⟩ := ok.sto _ _ e
      exact ⟨x, e1, e2.mono (same_new hW)⟩
  · unfold DL.del at e
    by_cases q : b = a
    · rw [if_pos q] at e; cases e
    · rw [if_neg q] at e
      rw [upd_ne q]; exact ok.sep _ _ e
end
end DL
set_option Elab.async false
set_option linter.all false
set_option maxRecDepth 100000
set_option maxHeartbeats 2000000
/-! The data layer, part b: judgements over data, expressions, statements, calls. -/
namespace DL
open PySem PySem.Spec PyProof.Rows L2

/-- what a step keeps: what is seen, and what belongs to nobody here -/
structure Stp (W : Hp) (S : Sto) (H : Hp) (W' : Hp) (S' : Sto) (H' : Hp) : Prop where
  vis : Same W W'
  frm : ∀ a o, H a = some o → W a = none → S a = none → H' a = some o ∧ W' a = none ∧ S' a = none
theorem Stp.refl {W : Hp} {S : Sto} {H : Hp} : Stp W S H W S H := ⟨Same.refl W, fun _ _ h1 h2 h3 => ⟨h1, h2, h3⟩⟩
theorem Stp.trans {W W1 W2 : Hp} {S S1 S2 : Sto} {H H1 H2 : Hp} (a : Stp W S H W1 S1 H1) (b : Stp W1 S1 H1 W2 S2 H2) : Stp W S H W2 S2 H2 :=
  ⟨a.vis.trans b.vis, fun p o h1 h2 h3 => let ⟨x, y, z⟩ := a.frm p o h1 h2 h3; b.frm p o x y z⟩
section
variable {K : PySem.W.Frag} {W : Hp} {S : Sto} {H : Hp} {p : Addr} {o : HO} {m m0 : MO}
theorem Ok.stW (ok : Ok K W S H) (h : H p = none) : Stp W S H (upd W p o) S (upd H p o) :=
  ⟨same_new (ok.fresh h).1, fun a x h1 h2 h3 => by
    have ne : a ≠ p := ne_of_none h1 h
    exact ⟨by rw [upd_ne ne]; exact h1, by rw [upd_ne ne]; exact h2, h3⟩⟩
theorem Ok.stS (ok : Ok K W S H) (h : H p = none) : Stp W S H W (put S p m) (upd H p o) :=
  ⟨Same.refl W, fun a x h1 h2 h3 => by
    have ne : a ≠ p := ne_of_none h1 h
    exact ⟨by rw [upd_ne ne]; exact h1, h2, by rw [put_ne ne]; exact h3⟩⟩
theorem Ok.stJ (ok : Ok K W S H) (h : H p = none) : Stp W S H W S (upd H p o) :=
  ⟨Same.refl W, fun a x h1 h2 h3 => ⟨by rw [upd_ne (ne_of_none h1 h)]; exact h1, h2, h3⟩⟩
theorem Ok.stC (ok : Ok K W S H) (h : S p = some m0) : Stp W S H W (put S p m) (upd H p o) :=
  ⟨Same.refl W, fun a x h1 h2 h3 => by
    have ne : a ≠ p := fun e => by subst e; rw [h] at h3; cases h3
    exact ⟨by rw [upd_ne ne]; exact h1, h2, by rw [put_ne ne]; exact h3⟩⟩
theorem Ok.stF (ok : Ok K W S H) (h : S p = some m0) : Stp W S H (upd W p o) (DL.del S p) H :=
  ⟨same_new (ok.sep _ _ h), fun a x h1 h2 h3 => by
    have ne : a ≠ p := fun e => by subst e; rw [h] at h3; cases h3
    exact ⟨h1, by rw [upd_ne ne]; exact h2, by unfold DL.del; rw [if_neg ne]; exact h3⟩⟩
end
abbrev XQ := Addr → List (Str × D) → Sto → Prop
abbrev Qd := D → Sto → Prop
abbrev WPe := DE → Sto → Qd → XQ → Prop
abbrev WPt := DE → Sto → (Bool → Sto → Prop) → XQ → Prop
abbrev WPa := DE → Sto → (List D → Sto → Prop) → XQ → Prop
structure QS where
  nx : DE → Sto → Prop
  rt : D → Sto → Prop
  bk : DE → Sto → Prop
  ct : DE → Sto → Prop
  xc : Addr → List (Str × D) → DE → Sto → Prop
abbrev WPs := DE → Sto → QS → Prop
abbrev Ctr := List D → Sto → Qd → XQ → Prop
def X0 : XQ := fun _ _ _ => False
def some! {α : Type} (o : Option α) (k : α → Prop) : Prop := match o with | some a => k a | none => False
theorem some!_ex {α : Type} {o : Option α} {k : α → Prop} (h : some! o k) : ∃ a, o = some a ∧ k a := by
  cases o with
  | none => exact h.elim
  | some a => exact ⟨a, rfl, h⟩

section
variable (K : PySem.W.Frag)
def CV (W : Hp) (S : Sto) (H : Hp) (Q0 : Qd) (Q : VK) : Prop := ∀ d S' v W' H', Q0 d S' → Stp W S H W' S' H' → Ok K W' S' H' → Rep K W' d v → Q v H'
def CVs (W : Hp) (S : Sto) (H : Hp) (Q0 : List D → Sto → Prop) (Q : List V → Hp → Prop) : Prop := ∀ d S' v W' H', Q0 d S' → Stp W S H W' S' H' → Ok K W' S' H' → Reps K W' d v → Q v H'
def CB (W : Hp) (S : Sto) (H : Hp) (Q0 : Bool → Sto → Prop) (Q : Bool → Hp → Prop) : Prop := ∀ b S' W' H', Q0 b S' → Stp W S H W' S' H' → Ok K W' S' H' → Q b H'
def CXc (W : Hp) (S : Sto) (H : Hp) (X0 : XQ) (E : XK) : Prop := ∀ C fs S' dd gs W' H', X0 C fs S' → Stp W S H W' S' H' → Ok K W' S' H' → W' dd = some (.xd gs) → Repf K W' fs gs → E (.ref C) (some dd) H'
def lE (Wx : WX) (w : WPe) : TE := fun σ H Q => ∃ W env S Q0 X0, Ok K W S H ∧ Sl K W env σ ∧ w env S Q0 X0 ∧ CV K W S H Q0 Q ∧ CXc K W S H X0 (fun c d H' => Wx c d σ H')
def lT (Wx : WX) (w : WPt) : TT := fun σ H Q => ∃ W env S Q0 X0, Ok K W S H ∧ Sl K W env σ ∧ w env S Q0 X0 ∧ CB K W S H Q0 Q ∧ CXc K W S H X0 (fun c d H' => Wx c d σ H')
def lA (Wx : WX) (w : WPa) : TA := fun σ H Q => ∃ W env S Q0 X0, Ok K W S H ∧ Sl K W env σ ∧ w env S Q0 X0 ∧ CVs K W S H Q0 Q ∧ CXc K W S H X0 (fun c d H' => Wx c d σ H')
structure CS (Wx : WX) (W : Hp) (S : Sto) (H : Hp) (q : QS) (D : Ends) : Prop where
  nx : ∀ e S' σ' W' H', q.nx e S' → Stp W S H W' S' H' → Ok K W' S' H' → Sl K W' e σ' → D.nx σ' H'
  rt : ∀ d S' v W' H', q.rt d S' → Stp W S H W' S' H' → Ok K W' S' H' → Rep K W' d v → D.rt v H'
  bk : ∀ e S' σ' W' H', q.bk e S' → Stp W S H W' S' H' → Ok K W' S' H' → Sl K W' e σ' → D.bk σ' H'
  ct : ∀ e S' σ' W' H', q.ct e S' → Stp W S H W' S' H' → Ok K W' S' H' → Sl K W' e σ' → D.ct σ' H'
  xc : ∀ C fs e S' dd gs σ' W' H', q.xc C fs e S' → Stp W S H W' S' H' → Ok K W' S' H' → Sl K W' e σ' → W' dd = some (.xd gs) → Repf K W' fs gs → Wx (.ref C) (some dd) σ' H'
def lS (Wx : WX) (n : Nat) (w : WPs) : TS := fun D σ H => ∃ W env S q, Ok K W S H ∧ Sl K W env σ ∧ σ.length = n ∧ w env S q ∧ CS K Wx W S H q { D with nx := fun σ' H' => σ'.length = n → D.nx σ' H', bk := fun σ' H' => σ'.length = n → D.bk σ' H', ct := fun σ' H' => σ'.length = n → D.ct σ' H' }
def lSp (spec : Ctr) : Sp := fun vs H Q E => ∃ W S ds Q0 X0, Ok K W S H ∧ Reps K W ds vs ∧ spec ds S Q0 X0 ∧ CV K W S H Q0 Q ∧ CXc K W S H X0 E
/-- an operation on two values -/
abbrev O2 := Sto → D → D → Qd → Prop
def lOp (o : O2) : R2 := fun x y H Q => ∃ W S a b Q0, Ok K W S H ∧ Rep K W a x ∧ Rep K W b y ∧ o S a b Q0 ∧ CV K W S H Q0 Q
/-- a call of a built-in on values -/
abbrev OC := Sto → List D → Qd → Prop
def lC (o : OC) : List V → Hp → VK → Prop := fun xs H Q => ∃ W S ds Q0, Ok K W S H ∧ Reps K W ds xs ∧ o S ds Q0 ∧ CV K W S H Q0 Q
/-- a method of a built-in type: may change the store -/
abbrev OM := Sto → D → List D → Qd → Prop
end
section
variable {K : PySem.W.Frag} {W W' : Hp} {S S2 : Sto} {H H2 : Hp}
theorem CV.mono {Q0 : Qd} {Q : VK} (e : Stp W S H W' S2 H2) (h : CV K W S H Q0 Q) : CV K W' S2 H2 Q0 Q := fun d S' v W2 H' q s => h d S' v W2 H' q (e.trans s)
theorem CXc.mono {X0 : XQ} {E : XK} (e : Stp W S H W' S2 H2) (h : CXc K W S H X0 E) : CXc K W' S2 H2 X0 E := fun C fs S' dd gs W2 H' q s => h C fs S' dd gs W2 H' q (e.trans s)
theorem CXc.no {E : XK} : CXc K W S H X0 E := fun _ _ _ _ _ _ _ h => h.elim
theorem CS.mono {Wx : WX} {q : QS} {D : Ends} (e : Stp W S H W' S2 H2) (h : CS K Wx W S H q D) : CS K Wx W' S2 H2 q D :=
  ⟨fun a b c d f g s => h.nx a b c d f g (e.trans s), fun a b c d f g s => h.rt a b c d f g (e.trans s), fun a b c d f g s => h.bk a b c d f g (e.trans s), fun a b c d f g s => h.ct a b c d f g (e.trans s),
    fun a b c d f g i j k l s => h.xc a b c d f g i j k l (e.trans s)⟩
end

section
variable (X : Cx)
structure PD (e : Expr) (w : WPe) : Prop where
  run : ∀ Wx, Takes X Wx → PE X e (lE X.K Wx w)
structure PDt (e : Expr) (w : WPt) : Prop where
  run : ∀ Wx, Takes X Wx → PT X e (lT X.K Wx w)
structure PDw (e : Expr) (w : WPt) : Prop where
  run : ∀ Wx, Takes X Wx → PW X e (lT X.K Wx w)
structure PDa (es : List Expr) (w : WPa) : Prop where
  run : ∀ Wx, Takes X Wx → PA X es (lA X.K Wx w)
structure PDs (st : Stmt) (w : WPs) : Prop where
  run : ∀ Wx, Takes X Wx → PS X st (lS X.K Wx X.N.length w)
structure PDss (st : List Stmt) (w : WPs) : Prop where
  run : ∀ Wx, Takes X Wx → PSs X st (lS X.K Wx X.N.length w)
end
section
variable {X : Cx} {e a b c : Expr} {es : List Expr} {pos : Pos}
theorem PE.imp {t t' : TE} (h : PE X e t) (i : ∀ σ H Q, t' σ H Q → t σ H Q) : PE X e t' := ⟨fun pins s σ H Q I q => h.run pins s σ H Q I (i σ H Q q)⟩
theorem PT.imp {t t' : TT} (h : PT X e t) (i : ∀ σ H Q, t' σ H Q → t σ H Q) : PT X e t' := ⟨fun pins s σ H Q I q => h.run pins s σ H Q I (i σ H Q q)⟩
theorem PW.imp {t t' : TT} (h : PW X e t) (i : ∀ σ H Q, t' σ H Q → t σ H Q) : PW X e t' := ⟨fun wh pins s σ H Q I q => h.run wh pins s σ H Q I (i σ H Q q)⟩
theorem PA.imp {t t' : TA} (h : PA X es t) (i : ∀ σ H Q, t' σ H Q → t σ H Q) : PA X es t' := ⟨fun po pins s σ H Q I q => h.run po pins s σ H Q I (i σ H Q q)⟩
theorem PS.imp {st : Stmt} {t t' : TS} (h : PS X st t) (i : ∀ D σ H, t' D σ H → t D σ H) : PS X st t' := ⟨fun pins s σ H D I q => h.run pins s σ H D I (i D σ H q)⟩
theorem PSs.imp {st : List Stmt} {t t' : TS} (h : PSs X st t) (i : ∀ D σ H, t' D σ H → t D σ H) : PSs X st t' := ⟨fun pins s σ H D I q => h.run pins s σ H D I (i D σ H q)⟩

/-! ### names, constants -/
def wVar (i : Nat) : WPe := fun env S Q _ => some! (getV env i) fun d => Q d S
def wC (d : D) : WPe := fun _ S Q _ => Q d S
theorem pd_var (i : Nat) {x : Str} (hN : X.N[i]? = some x := by rfl) (hv : Vis X.env.scope x := by first | exact Or.inl rfl | exact Or.inr (Or.inl rfl) | exact Or.inr (Or.inr rfl)) (hd : (x == ("__debug__" : Str)) = false := by decide)
    (hcd : (x == ("__classdict__" : Str)) = false := by decide) : PD X (.Name x pos) (wVar i) := ⟨fun Wx tk => PE.imp (pe_var hN hv hd hcd) fun σ H Q ⟨W, env, S, Q0, X1, ok, sl, hw, cv, cx⟩ => by
  obtain ⟨d, hd, q⟩ := some!_ex hw
  obtain ⟨v, hv, r⟩ := sl i d hd
  exact ⟨v, hv, cv d S v W H q Stp.refl ok r⟩⟩
theorem pd_c {d : D} {v : V} (h : PE X e (tC v)) (r : ∀ W, Rep X.K W d v) : PD X e (wC d) := ⟨fun Wx tk => PE.imp h fun σ H Q ⟨W, env, S, Q0, X1, ok, sl, hw, cv, cx⟩ => cv d S v W H hw Stp.refl ok (r W)⟩
theorem pd_int {i : Int} {j : Nat} : PD X (.Constant (.int i) j pos) (wC (.int i)) := pd_c pe_int fun _ => rfl
theorem pd_bl {i : Bool} {j : Nat} : PD X (.Constant (.bool i) j pos) (wC (.bl i)) := pd_c pe_bl fun _ => rfl
theorem pd_non {j : Nat} : PD X (.Constant .none j pos) (wC .non) := pd_c pe_non fun _ => rfl
theorem pd_str {x : Str} {j : Nat} : PD X (.Constant (.str x) j pos) (wC (.str x)) := pd_c pe_str fun _ => rfl

/-! ### two places, one place -/
def wBin (o : O2) (wa wb : WPe) : WPe := fun env S Q X => wa env S (fun x S1 => wb env S1 (fun y S2 => o S2 x y Q) X) X
theorem bin_go {K : PySem.W.Frag} {Wx : WX} {o : O2} {wa wb : WPe} {σ : L2.St} {H : Hp} {Q : VK} (h : lE K Wx (wBin o wa wb) σ H Q) : tOp (lOp K o) (lE K Wx wa) (lE K Wx wb) σ H Q := by
  obtain ⟨W, env, S, Q0, X1, ok, sl, hw, cv, cx⟩ := h
  refine ⟨W, env, S, _, X1, ok, sl, hw, fun x S1 v W1 H1 h1 s1 ok1 r1 => ?_, cx⟩
  refine ⟨W1, env, S1, _, X1, ok1, sl.mono s1.vis, h1, fun y S2 u W2 H2 h2 s2 ok2 r2 => ?_, cx.mono s1⟩
  exact ⟨W2, S2, x, y, Q0, ok2, r1.mono s2.vis, r2, h2, cv.mono (s1.trans s2)⟩
theorem pd_op {op : Operator} {o : O2} {wa wb : WPe} (ho : OpR X (binaryOp op) (lOp X.K o)) (ha : PD X a wa) (hb : PD X b wb) : PD X (.BinOp a op b pos) (wBin o wa wb) :=
  ⟨fun Wx tk => PE.imp (pe_op ho (ha.run Wx tk) (hb.run Wx tk)) fun _ _ _ h => bin_go h⟩
theorem pd_cmp {op : CmpOp} {o : O2} {wa wb : WPe} (ho : OpR X (compareOp op) (lOp X.K o)) (ha : PD X a wa) (hb : PD X b wb) (hm : behindInMarks op b = false) : PD X (.Compare a [op] [b] pos) (wBin o wa wb) :=
  ⟨fun Wx tk => PE.imp (pe_cmpR ho (ha.run Wx tk) (hb.run Wx tk) hm) fun _ _ _ h => bin_go h⟩
theorem pd_ix {o : O2} {wa wb : WPe} (hr : IxR X (lOp X.K o)) (ha : PD X a wa) (hb : PD X b wb) (hs : PlainIx b := by exact fun _ _ => rfl) : PD X (.Subscript a b pos) (wBin o wa wb) :=
  ⟨fun Wx tk => PE.imp (pe_ix hr (ha.run Wx tk) (hb.run Wx tk) hs) fun _ _ _ h => bin_go h⟩
abbrev O1 := Sto → D → Qd → Prop
def lU (K : PySem.W.Frag) (o : O1) : V → Hp → VK → Prop := fun x H Q => ∃ W S a Q0, Ok K W S H ∧ Rep K W a x ∧ o S a Q0 ∧ CV K W S H Q0 Q
def wUn (o : O1) (wa : WPe) : WPe := fun env S Q X => wa env S (fun x S1 => o S1 x Q) X
theorem pd_un {op : UnaryOp} {o : O1} {wa : WPe} (ho : UnR X (unaryOp op) (lU X.K o)) (ha : PD X a wa) : PD X (.UnaryOp op a pos) (wUn o wa) :=
  ⟨fun Wx tk => PE.imp (pe_un ho (ha.run Wx tk)) fun σ H Q ⟨W, env, S, Q0, X1, ok, sl, hw, cv, cx⟩ => ⟨W, env, S, _, X1, ok, sl, hw, fun x S1 v W1 H1 h1 s1 ok1 r1 => ⟨W1, S1, x, Q0, ok1, r1, h1, cv.mono s1⟩, cx⟩⟩
/-! ### tests -/
def wTest (w : WPe) : WPt := fun env S Q X => w env S (fun d S' => match d with | .bl b => Q b S' | _ => False) X
/-- a comparison as a test -/
theorem pdt_cmp {op : CmpOp} {o : O2} {wa wb : WPe} (ho : OpR X (compareOp op) (lOp X.K o)) (ha : PD X a wa) (hb : PD X b wb) (hm : behindInMarks op b = false) : PDt X (.Compare a [op] [b] pos) (wTest (wBin o wa wb)) :=
  ⟨fun Wx tk => PT.imp (pt_cmpR ho (ha.run Wx tk) (hb.run Wx tk) hm) fun σ H Q ⟨W, env, S, Q0, X1, ok, sl, hw, cv, cx⟩ => bin_go ⟨W, env, S, _, X1, ok, sl, hw, fun d S1 v W1 H1 h1 s1 ok1 r1 => by
    cases d with
    | bl k =>
      have e : v = .bl k := r1
      exact ⟨k, e, cv k S1 W1 H1 h1 s1 ok1⟩
    | _ => exact h1.elim, cx⟩⟩
/-- an expression whose value is a bool -/
theorem pdt_val {w : WPe} (h : PD X e w) (he : ∀ whole, isTrue e X.env whole = (do let v ← whole; standAt e.pos; holding [v] (truthy v)) := by intro _; rfl) : PDt X e (wTest w) :=
  ⟨fun Wx tk => PT.imp (pt_val (h.run Wx tk) he) fun σ H Q ⟨W, env, S, Q0, X1, ok, sl, hw, cv, cx⟩ => ⟨W, env, S, _, X1, ok, sl, hw, fun d S1 v W1 H1 h1 s1 ok1 r1 => by
    cases d with
    | bl k =>
      have e : v = .bl k := r1
      exact ⟨k, e, cv k S1 W1 H1 h1 s1 ok1⟩
    | _ => exact h1.elim, cx⟩⟩
def wAnd (w u : WPt) : WPt := fun env S Q X => w env S (fun b S1 => if b = true then u env S1 Q X else Q false S1) X
def wOr (w u : WPt) : WPt := fun env S Q X => w env S (fun b S1 => if b = true then Q true S1 else u env S1 Q X) X
def wNot (w : WPt) : WPt := fun env S Q X => w env S (fun b S1 => Q (!b) S1) X
variable {wa wb wc : WPe} {ta tb : WPt} {rest : List Expr}
theorem pdw_and1 (ha : PDt X a ta) : PDw X (.BoolOp .And [a] pos) ta := ⟨fun Wx tk => pw_and1 (ha.run Wx tk)⟩
theorem pdw_or1 (ha : PDt X a ta) : PDw X (.BoolOp .Or [a] pos) ta := ⟨fun Wx tk => pw_or1 (ha.run Wx tk)⟩
theorem pdw_and (ha : PDt X a ta) (hb : PDw X (.BoolOp .And (b :: rest) pos) tb) : PDw X (.BoolOp .And (a :: b :: rest) pos) (wAnd ta tb) :=
  ⟨fun Wx tk => PW.imp (pw_and (ha.run Wx tk) (hb.run Wx tk)) fun σ H Q ⟨W, env, S, Q0, X1, ok, sl, hw, cv, cx⟩ => ⟨W, env, S, _, X1, ok, sl, hw, fun k S1 W1 H1 h1 s1 ok1 => by
    cases k with
    | true => exact iteT ⟨W1, env, S1, Q0, X1, ok1, sl.mono s1.vis, (if_pos rfl).mp h1, fun b2 S2 W2 H2 q2 s2 => cv b2 S2 W2 H2 q2 (s1.trans s2), cx.mono s1⟩
    | false => exact iteF (cv false S1 W1 H1 ((if_neg Bool.false_ne_true).mp h1) s1 ok1), cx⟩⟩
theorem pdw_or (ha : PDt X a ta) (hb : PDw X (.BoolOp .Or (b :: rest) pos) tb) : PDw X (.BoolOp .Or (a :: b :: rest) pos) (wOr ta tb) :=
  ⟨fun Wx tk => PW.imp (pw_or (ha.run Wx tk) (hb.run Wx tk)) fun σ H Q ⟨W, env, S, Q0, X1, ok, sl, hw, cv, cx⟩ => ⟨W, env, S, _, X1, ok, sl, hw, fun k S1 W1 H1 h1 s1 ok1 => by
    cases k with
    | true => exact iteT (cv true S1 W1 H1 ((if_pos rfl).mp h1) s1 ok1)
    | false => exact iteF ⟨W1, env, S1, Q0, X1, ok1, sl.mono s1.vis, (if_neg Bool.false_ne_true).mp h1, fun b2 S2 W2 H2 q2 s2 => cv b2 S2 W2 H2 q2 (s1.trans s2), cx.mono s1⟩, cx⟩⟩
theorem PDw.pt (h : PDw X e ta) : PDt X e ta := ⟨fun Wx tk => (h.run Wx tk).pt⟩
theorem pdt_not (ha : PDt X a ta) : PDt X (.UnaryOp .Not a pos) (wNot ta) :=
  ⟨fun Wx tk => PT.imp (pt_not (ha.run Wx tk)) fun σ H Q ⟨W, env, S, Q0, X1, ok, sl, hw, cv, cx⟩ => ⟨W, env, S, _, X1, ok, sl, hw, fun k S1 W1 H1 h1 s1 ok1 => cv (!k) S1 W1 H1 h1 s1 ok1, cx⟩⟩
/-- and, or, not as values: bools -/
def wAndV (wa wb : WPe) : WPe := fun env S Q X => wa env S (fun d S1 => match d with | .bl b => if b = true then wb env S1 Q X else Q (.bl false) S1 | _ => False) X
def wOrV (wa wb : WPe) : WPe := fun env S Q X => wa env S (fun d S1 => match d with | .bl b => if b = true then Q (.bl true) S1 else wb env S1 Q X | _ => False) X
def wNotV (wa : WPe) : WPe := fun env S Q X => wa env S (fun d S1 => match d with | .bl b => Q (.bl (!b)) S1 | _ => False) X
theorem pd_one {op} (ha : PD X a wa) : PD X (.BoolOp op [a] pos) wa := ⟨fun Wx tk => pe_one (ha.run Wx tk)⟩
theorem pd_and (ha : PD X a wa) (hb : PD X (.BoolOp .And (b :: rest) pos) wb) : PD X (.BoolOp .And (a :: b :: rest) pos) (wAndV wa wb) :=
  ⟨fun Wx tk => PE.imp (pe_and (ha.run Wx tk) (hb.run Wx tk)) fun σ H Q ⟨W, env, S, Q0, X1, ok, sl, hw, cv, cx⟩ => ⟨W, env, S, _, X1, ok, sl, hw, fun k S1 v W1 H1 h1 s1 ok1 r1 => by
    cases k with
    | bl k =>
      refine ⟨k, r1, ?_⟩
      cases k with
      | true => exact iteT ⟨W1, env, S1, Q0, X1, ok1, sl.mono s1.vis, (if_pos rfl).mp h1, cv.mono s1, cx.mono s1⟩
      | false => exact iteF (cv _ S1 _ W1 H1 ((if_neg Bool.false_ne_true).mp h1) s1 ok1 rfl)
    | _ => exact h1.elim, cx⟩⟩
theorem pd_or (ha : PD X a wa) (hb : PD X (.BoolOp .Or (b :: rest) pos) wb) : PD X (.BoolOp .Or (a :: b :: rest) pos) (wOrV wa wb) :=
  ⟨fun Wx tk => PE.imp (pe_or (ha.run Wx tk) (hb.run Wx tk)) fun σ H Q ⟨W, env, S, Q0, X1, ok, sl, hw, cv, cx⟩ => ⟨W, env, S, _, X1, ok, sl, hw, fun k S1 v W1 H1 h1 s1 ok1 r1 => by
    cases k with
    | bl k =>
      refine ⟨k, r1, ?_⟩
      cases k with
      | true => exact iteT (cv _ S1 _ W1 H1 ((if_pos rfl).mp h1) s1 ok1 rfl)
      | false => exact iteF ⟨W1, env, S1, Q0, X1, ok1, sl.mono s1.vis, (if_neg Bool.false_ne_true).mp h1, cv.mono s1, cx.mono s1⟩
    | _ => exact h1.elim, cx⟩⟩
theorem pd_not (ha : PD X a wa) : PD X (.UnaryOp .Not a pos) (wNotV wa) :=
  ⟨fun Wx tk => PE.imp (pe_not (ha.run Wx tk)) fun σ H Q ⟨W, env, S, Q0, X1, ok, sl, hw, cv, cx⟩ => ⟨W, env, S, _, X1, ok, sl, hw, fun k S1 v W1 H1 h1 s1 ok1 r1 => by
    cases k with
    | bl k => exact ⟨k, r1, cv _ S1 _ W1 H1 h1 s1 ok1 rfl⟩
    | _ => exact h1.elim, cx⟩⟩
def wIfE (t : WPt) (wa wb : WPe) : WPe := fun env S Q X => t env S (fun k S1 => if k = true then wa env S1 Q X else wb env S1 Q X) X
theorem pd_ifE (hc : PDt X c ta) (ha : PD X a wa) (hb : PD X b wb) : PD X (.IfExp c a b pos) (wIfE ta wa wb) :=
  ⟨fun Wx tk => PE.imp (pe_ifExp (hc.run Wx tk) (ha.run Wx tk) (hb.run Wx tk)) fun σ H Q ⟨W, env, S, Q0, X1, ok, sl, hw, cv, cx⟩ => ⟨W, env, S, _, X1, ok, sl, hw, fun k S1 W1 H1 h1 s1 ok1 => by
    cases k with
    | true => exact iteT ⟨W1, env, S1, Q0, X1, ok1, sl.mono s1.vis, (if_pos rfl).mp h1, cv.mono s1, cx.mono s1⟩
    | false => exact iteF ⟨W1, env, S1, Q0, X1, ok1, sl.mono s1.vis, (if_neg Bool.false_ne_true).mp h1, cv.mono s1, cx.mono s1⟩, cx⟩⟩
/-- a < b < c -/
def wChain (o o' : O2) (wa wb wc : WPe) : WPe := fun env S Q X => wa env S (fun x S1 => wb env S1 (fun y S2 => o S2 x y fun k S3 => match k with | .bl k => if k = true then wc env S3 (fun z S4 => o' S4 y z Q) X else Q (.bl false) S3 | _ => False) X) X
end
end DL
set_option Elab.async false
set_option linter.all false
set_option maxRecDepth 100000
set_option maxHeartbeats 2000000
/-! The data layer, part c: calls, displays, fields, statements. -/
namespace DL
open PySem PySem.Spec PyProof.Rows L2

section
variable {X : Cx} {CX : CXT} {k : Nat} {f C : Addr} {fd : FuncData} {ps : List Str} {sp : Sp} {E : L2.St → XK} {x m : Str} {p pos apos : Pos} {e o : Expr} {es : List Expr} {ta : TE} {t : TA}
def tMethS (C : Addr) (m : Str) (sp : Sp) (E : L2.St → XK) (ta : TE) (t : TA) : TE := fun σ H Q => ta σ H fun x H1 => ∃ a dx fs, x = .ref a ∧ H1 a = some (.ins C dx fs) ∧ fs.lookup m = none ∧
  t σ H1 fun vs H2 => sp (x :: vs) H2 Q (E σ)
theorem run_fnN {pins : List (Addr × Obj)} {σ : L2.St} {H : Hp} {s : Shared} {Q : VK} {us : List Value} {vs : List V} (F : FnOk X.prog X.w X.K X.mg X.base CX k f fd ps sp) (hr : Room k X.A) (hb : Binds X.K fd ps []) (hx : PassesAt CX X σ (E σ))
    (I : Inv X pins σ H s) (r : Vals vs us) (h : sp vs H Q (E σ)) : wpAny (model X.prog X.w) X.A (call (.ref f) us) (EP X pins σ Q) X.xe s := run_fnS F hr hb hx I r h
theorem pe_methS {pl : Sem Bool} (he : PE X o ta) (c : Cls X.K C) (hm : Meth X.K C m f) (F : FnOk X.prog X.w X.K X.mg X.base CX k f fd ps sp) (hr : Room k X.A) (hb : Binds X.K fd ps []) (hx : ∀ σ, PassesAt CX X σ (E σ)) (ha : PA X (e :: es) t)
    (hst : starEach (e :: es) X.env = (false, eval e X.env) :: starEach es X.env := by rfl) (hpl : (backTo pos (starEach es X.env)).any (·.1) = false := by rfl)
    (ht : eval (.Call (.Attribute o m apos) (e :: es) [] pos) X.env = (do
      let ov ← eval o X.env
      standAt apos.atName
      let (f, first) ← holding [ov] (getMethod ov m pl)
      callWith pos f first (backTo pos (starEach (e :: es) X.env)) (backToKw pos (keywordEach [] X.env))) := by rfl) :
    PE X (.Call (.Attribute o m apos) (e :: es) [] pos) (tMethS C m sp E ta t) := by
  refine ⟨fun pins s σ H Q I h => ?_⟩
  refine PySem.W.methodCall_KW (pl := pl) (thn (he.run pins s σ H _ I h) fun u s1 ⟨x, H1, I1, rx, a, dx, fs, ex, ea, l, q⟩ => ?_) ht
  subst ex
  obtain rfl : u = Value.ref a := rx
  refine getmeth_ok I1 ea c hm l ?_
  refine PySem.W.callWith_K (first := [.ref a]) (h₀ := X.base) I.ok.mod.kin hm.kp (thn (ha.run pos pins s1 σ H1 _ I1 q) fun us s2 ⟨vs, H2, I2, r, q2⟩ => ⟨I2.kIn, ?_⟩) hst hpl
  exact run_fnN (us := .ref a :: us) (vs := .ref a :: vs) F hr hb (hx σ) I2 (.cons rfl r) q2
theorem pe_meth0S {pl : Sem Bool} (he : PE X o ta) (c : Cls X.K C) (hm : Meth X.K C m f) (F : FnOk X.prog X.w X.K X.mg X.base CX k f fd ps sp) (hr : Room k X.A) (hb : Binds X.K fd ps []) (hx : ∀ σ, PassesAt CX X σ (E σ))
    (ht : eval (.Call (.Attribute o m apos) [] [] pos) X.env = (do
      let ov ← eval o X.env
      standAt apos.atName
      let (f, first) ← holding [ov] (getMethod ov m pl)
      callWith pos f first (backTo pos (starEach [] X.env)) (backToKw pos (keywordEach [] X.env))) := by rfl) :
    PE X (.Call (.Attribute o m apos) [] [] pos) (tMethS C m sp E ta tNil) := by
  refine ⟨fun pins s σ H Q I h => ?_⟩
  refine PySem.W.methodCall_KW (pl := pl) (thn (he.run pins s σ H _ I h) fun u s1 ⟨x, H1, I1, rx, a, dx, fs, ex, ea, l, q⟩ => ?_) ht
  subst ex
  obtain rfl : u = Value.ref a := rx
  refine getmeth_ok I1 ea c hm l ?_
  exact PySem.W.callWith_K0 (first := [.ref a]) I1.kIn hm.kp (run_fnN (us := [.ref a]) (vs := [.ref a]) F hr hb (hx σ) I1 (.cons rfl .nil) q)
theorem pe_call0S (F : FnOk X.prog X.w X.K X.mg X.base CX k f fd ps sp) (hr : Room k X.A) (hg : Gl X x) (hm : X.mg x = some (.ref f)) (hk : PySem.W.keepIn X.K (.ref f) = true) (hb : Binds X.K fd ps []) (hx : ∀ σ, PassesAt CX X σ (E σ))
    (hdb : (x == ("__debug__" : Str)) = false := by decide) : PE X (.Call (.Name x p) [] [] pos) (tCallS sp E tNil) := by
  refine ⟨fun pins s σ H Q I h => ?_⟩
  refine wpAny_Call_Name_kw (ld_glob I hg hm ?_ hdb)
  exact PySem.W.callWith_K0 I.kIn hk (run_fnN (us := []) F hr hb (hx σ) I .nil h)
def tMakeS (C : Addr) (sp : Sp) (E : L2.St → XK) (t : TA) : TE := fun σ H Q => t σ H fun vs H1 => ∀ x dx, H1 x = none → H1 dx = none → dx ≠ x →
  sp (.ref x :: vs) (upd (upd H1 dx (.own x)) x (.ins C dx [])) (fun v H2 => v = .non ∧ Q (.ref x) H2) (E σ)
theorem run_makeS {pins : List (Addr × Obj)} {σ : L2.St} {H : Hp} {s : Shared} {Q : VK} {us : List Value} {vs : List V} (M : Mk X.K C f) (F : FnOk X.prog X.w X.K X.mg X.base CX k f fd ps sp) (hr : Room (k + 1) X.A) (hb : Binds X.K fd ps [])
    (hx : PassesAt CX X σ (E σ)) (I : Inv X pins σ H s) (r : Vals vs us)
    (h : ∀ x dx, H x = none → H dx = none → dx ≠ x → sp (.ref x :: vs) (upd (upd H dx (.own x)) x (.ins C dx [])) (fun v H2 => v = .non ∧ Q (.ref x) H2) (E σ)) :
    wpAny (model X.prog X.w) X.A (call (.ref C) us) (EP X pins σ Q) X.xe s := by
  have hq := h (s.heap.objs.size + 1) s.heap.objs.size (I.hok.fresh (Nat.le_succ _)) (I.hok.fresh (Nat.le_refl _)) (Nat.ne_of_lt (Nat.lt_succ_self _))
  have I2 := Inv.made (C := C) I
  have r2 : Vals (V.ref (s.heap.objs.size + 1) :: vs) (Value.ref (s.heap.objs.size + 1) :: us) := .cons rfl r
  have hl : (Value.ref (s.heap.objs.size + 1) :: us ++ []).length = ps.length := by
    have e := r2.length
    rw [F.len _ _ _ _ hq] at e
    rw [List.append_nil]
    exact e.symm
  have hbb := hb { s with heap := (s.heap.push PySem.W.emptyDict).push (PySem.W.instObj C s.heap.objs.size) } (Value.ref (s.heap.objs.size + 1) :: us) I2.kIn hl
  rw [List.append_nil] at hbb
  refine wpAny_call (make_map (f := f) I.kIn M.makes M.init (beq_iff_eq.mp M.fn) (codeAny_mono (F.run _ X.stack _ _ ⟨Value.ref (s.heap.objs.size + 1) :: us, []⟩ (Value.ref (s.heap.objs.size + 1) :: us) _ _ (E σ) (hr.make C us [])
    (I2.env0.make C us []) hbb r2 hq) fun r s' hq' => ?_))
  cases r with
  | error e => exact hx pins _ _ e s' I2 hq'
  | ok fl =>
    cases fl with
    | ret u =>
      obtain ⟨v, H', I3, rv, ev, q3⟩ := I2.after hq'
      subst ev
      exact ⟨rv, ⟨V.ref (s.heap.objs.size + 1), H', I3, rfl, q3⟩⟩
    | next => exact False.elim hq'
    | brk => exact False.elim hq'
    | cont => exact False.elim hq'
theorem pe_makeS (M : Mk X.K C f) (F : FnOk X.prog X.w X.K X.mg X.base CX k f fd ps sp) (hr : Room (k + 1) X.A) (hg : Gl X x) (hm : X.mg x = some (.ref C)) (hb : Binds X.K fd ps []) (hx : ∀ σ, PassesAt CX X σ (E σ))
    (ha : PA X (e :: es) t) (hdb : (x == ("__debug__" : Str)) = false := by decide) (he : starEach (e :: es) X.env = (false, eval e X.env) :: starEach es X.env := by rfl) (hpl : (backTo pos (starEach es X.env)).any (·.1) = false := by rfl) :
    PE X (.Call (.Name x p) (e :: es) [] pos) (tMakeS C sp E t) := by
  refine ⟨fun pins s σ H Q I h => ?_⟩
  refine wpAny_Call_Name_kw (ld_glob I hg hm ?_ hdb)
  refine PySem.W.callWith_K (h₀ := X.base) I.ok.mod.kin M.kp (thn (ha.run pos pins s σ H _ I h) fun us s1 ⟨vs, H1, I1, r, q⟩ => ⟨I1.kIn, ?_⟩) he hpl
  exact run_makeS M F hr hb (hx σ) I1 r q
end

/-! ### arguments, displays -/
def wNil : WPa := fun _ S Q _ => Q [] S
def wCons (w : WPe) (r : WPa) : WPa := fun env S Q X => w env S (fun d S1 => r env S1 (fun ds S2 => Q (d :: ds) S2) X) X
def wLst (w : WPa) : WPe := fun env S Q X => w env S (fun ds S1 => ds.length ≤ sizeLine ∧ Q (.lst ds) S1) X
def wLstM (w : WPa) : WPe := fun env S Q X => w env S (fun ds S1 => ds.length ≤ sizeLine ∧ ∀ p, S1 p = none → Q (.ref p) (put S1 p (.lst ds))) X
def wTup (w : WPa) : WPe := fun env S Q X => w env S (fun ds S1 => ds.length ≤ sizeLine ∧ Q (.tup ds) S1) X
section
variable {X : Cx} {e : Expr} {es : List Expr} {pos : Pos} {w : WPe} {r : WPa}
theorem pda_nil : PDa X [] wNil := ⟨fun Wx tk => PA.imp pa_nil fun σ H Q ⟨W, env, S, Q0, X1, ok, sl, hw, cv, cx⟩ => cv [] S [] W H hw Stp.refl ok rfl⟩
theorem pda_cons (he : PD X e w) (hr : PDa X es r) (hs : starEach (e :: es) X.env = (false, eval e X.env) :: starEach es X.env := by rfl) : PDa X (e :: es) (wCons w r) :=
  ⟨fun Wx tk => PA.imp (pa_cons (he.run Wx tk) (hr.run Wx tk) hs) fun σ H Q ⟨W, env, S, Q0, X1, ok, sl, hw, cv, cx⟩ => ⟨W, env, S, _, X1, ok, sl, hw, fun d S1 v W1 H1 h1 s1 ok1 r1 =>
    ⟨W1, env, S1, _, X1, ok1, sl.mono s1.vis, h1, fun ds S2 vs W2 H2 h2 s2 ok2 r2 => cv (d :: ds) S2 (v :: vs) W2 H2 h2 (s1.trans s2) ok2 ⟨v, vs, rfl, r1.mono s2.vis, r2⟩, cx.mono s1⟩, cx⟩⟩
theorem pd_lst (h : PDa X es r) : PD X (.List es pos) (wLst r) :=
  ⟨fun Wx tk => PE.imp (pe_lst (h.run Wx tk)) fun σ H Q ⟨W, env, S, Q0, X1, ok, sl, hw, cv, cx⟩ => ⟨W, env, S, _, X1, ok, sl, hw, fun ds S1 vs W1 H1 ⟨hz, h1⟩ s1 ok1 r1 =>
    ⟨by rw [r1.length]; exact hz, fun p hp => cv _ S1 _ _ _ h1 (s1.trans (ok1.stW hp)) (ok1.newW hp) ⟨p, vs, rfl, upd_same, r1.mono (same_new (ok1.fresh hp).1)⟩⟩, cx⟩⟩
theorem pd_lstM (h : PDa X es r) : PD X (.List es pos) (wLstM r) :=
  ⟨fun Wx tk => PE.imp (pe_lst (h.run Wx tk)) fun σ H Q ⟨W, env, S, Q0, X1, ok, sl, hw, cv, cx⟩ => ⟨W, env, S, _, X1, ok, sl, hw, fun ds S1 vs W1 H1 ⟨hz, h1⟩ s1 ok1 r1 =>
    ⟨by rw [r1.length]; exact hz, fun p hp => cv _ _ _ _ _ (h1 p (ok1.fresh hp).2) (s1.trans (ok1.stS hp)) (ok1.newS hp ⟨vs, rfl, r1⟩) rfl⟩, cx⟩⟩
theorem pd_tup {z : Nat} (h : PDa X es r) : PD X (.Tuple es z pos) (wTup r) :=
  ⟨fun Wx tk => PE.imp (pe_tup (h.run Wx tk)) fun σ H Q ⟨W, env, S, Q0, X1, ok, sl, hw, cv, cx⟩ => ⟨W, env, S, _, X1, ok, sl, hw, fun ds S1 vs W1 H1 ⟨hz, h1⟩ s1 ok1 r1 =>
    ⟨by rw [r1.length]; exact hz, fun p hp => cv _ S1 _ _ _ h1 (s1.trans (ok1.stW hp)) (ok1.newW hp) ⟨p, vs, rfl, SqT.of upd_same, r1.mono (same_new (ok1.fresh hp).1)⟩⟩, cx⟩⟩
end

/-! ### calls of own defs -/
abbrev FnD (P : Program) (w : World) (K : PySem.W.Frag) (mg : Str → Option Value) (base : Heap) (k : Nat) (f : Addr) (fd : FuncData) (ps : List Str) (spec : Ctr) : Prop := FnOk P w K mg base (L2.CX P w) k f fd ps (lSp K spec)
def wCall (spec : Ctr) (wa : WPa) : WPe := fun env S Q X => wa env S (fun ds S1 => spec ds S1 Q X) X
/-- an instance of C whose fields are N -/
def isIns (C : Addr) (N : List Str) (S : Sto) (d : D) : Prop := match d with
  | .ref a => match S a with
    | some (.ins C' N' _) => C' = C ∧ N' = N
    | _ => False
  | .obj C' N' _ => C' = C ∧ N' = N
  | _ => False
def wMeth (C : Addr) (N : List Str) (spec : Ctr) (wo : WPe) (wa : WPa) : WPe := fun env S Q X => wo env S (fun o S1 => isIns C N S1 o ∧ wa env S1 (fun ds S2 => spec (o :: ds) S2 Q X) X) X
def noneV : List Str → DE
  | [] => []
  | _ :: r => none :: noneV r
def wMake (C : Addr) (N : List Str) (spec : Ctr) (wa : WPa) : WPe := fun env S Q X => wa env S (fun ds S1 => ∀ x, S1 x = none → spec (.ref x :: ds) (put S1 x (.ins C N (noneV N))) (fun r S2 => r = .non ∧ Q (.ref x) S2) X) X
theorem getV_noneV : ∀ {N : List Str} {i : Nat}, getV (noneV N) i = none
  | [], _ => rfl
  | _ :: _, 0 => rfl
  | _ :: r, i + 1 => getV_noneV (N := r) (i := i)
theorem noneV_length : ∀ {N : List Str}, (noneV N).length = N.length
  | [] => rfl
  | _ :: r => congrArg (· + 1) (noneV_length (N := r))
theorem frep_new {K : PySem.W.Frag} {W : Hp} {N : List Str} (hn : N.Nodup) (hf : N.length ≤ 900) : FRep K W N (noneV N) [] :=
  ⟨hn, hf, noneV_length, (fun i f d _ h => by
    rw [getV_noneV] at h
    cases h), (fun _ _ _ _ => rfl), (fun _ _ => rfl), Nat.zero_le _⟩
theorem Ok.junk {K : PySem.W.Frag} {W : Hp} {S : Sto} {H : Hp} {p : Addr} {o : HO} (ok : Ok K W S H) (h : H p = none) : Ok K W S (upd H p o) :=
  ⟨fun b x e => by rw [upd_ne (ne_of_none (ok.vis _ _ e) h)]; exact ok.vis _ _ e, fun a m e => by
    obtain ⟨x, e1, e2⟩ := ok.sto _ _ e
    exact ⟨x, by rw [upd_ne (ne_of_none e1 h)]; exact e1, e2⟩, ok.sep⟩
theorem isIns_rep {K : PySem.W.Frag} {W : Hp} {S : Sto} {H : Hp} {C : Addr} {N : List Str} {d : D} {v : V} (ok : Ok K W S H) (r : Rep K W d v) (h : isIns C N S d) {m : Str} (hm : m ∉ N) : ∃ a dx fs, v = .ref a ∧ H a = some (.ins C dx fs) ∧ fs.lookup m = none := by
  cases d with
  | ref a =>
    have h' : (match S a with | some (.ins C' N' _) => C' = C ∧ N' = N | _ => False) := h
    cases q : S a with
    | none => rw [q] at h'; exact h'.elim
    | some mo =>
      rw [q] at h'
      cases mo with
      | ins C' N' xs =>
        obtain ⟨e1, e2⟩ := h'
        subst e1 e2
        obtain ⟨o, e3, dx, gs, e4, fr⟩ := ok.sto _ _ q
        subst e4
        exact ⟨a, dx, gs, r, e3, fr.out m hm⟩
      | _ => exact h'.elim
  | obj C' N' xs =>
    obtain ⟨e1, e2⟩ := h
    subst e1 e2
    obtain ⟨a, dx, gs, vs, e1, e2, _, e4, _⟩ := r
    exact ⟨a, dx, gs, e1, ok.vis _ _ e2, e4 m hm⟩
  | _ => exact h.elim
section
variable {X : Cx} {k : Nat} {f C : Addr} {fd : FuncData} {ps : List Str} {spec : Ctr} {x m : Str} {p pos apos : Pos} {e o : Expr} {es : List Expr} {wo : WPe} {wa : WPa}
theorem call_go {Wx : WX} {σ : L2.St} {H : Hp} {Q : VK} {K : PySem.W.Frag} (h : lE K Wx (wCall spec wa) σ H Q) : tCallS (lSp K spec) (WE Wx) (lA K Wx wa) σ H Q := by
  obtain ⟨W, env, S, Q0, X1, ok, sl, hw, cv, cx⟩ := h
  exact ⟨W, env, S, _, X1, ok, sl, hw, fun ds S1 vs W1 H1 h1 s1 ok1 r1 => ⟨W1, S1, ds, Q0, X1, ok1, r1, h1, cv.mono s1, cx.mono s1⟩, cx⟩
theorem pd_call (F : FnD X.prog X.w X.K X.mg X.base k f fd ps spec) (hr : Room k X.A) (hm : X.mg x = some (.ref f)) (hk : PySem.W.keepIn X.K (.ref f) = true) (hb : Binds X.K fd ps [])
    (ha : PDa X (e :: es) wa) (hg : Gl X x := by rfl) (hdb : (x == ("__debug__" : Str)) = false := by decide) (he : starEach (e :: es) X.env = (false, eval e X.env) :: starEach es X.env := by rfl) (hpl : (backTo pos (starEach es X.env)).any (·.1) = false := by rfl) :
    PD X (.Call (.Name x p) (e :: es) [] pos) (wCall spec wa) :=
  ⟨fun Wx tk => PE.imp (pe_callS F hr hg hm hk hb (fun σ => passAt tk σ) (ha.run Wx tk) hdb he hpl) fun _ _ _ h => call_go h⟩
theorem pd_call0 (F : FnD X.prog X.w X.K X.mg X.base k f fd ps spec) (hr : Room k X.A) (hm : X.mg x = some (.ref f)) (hk : PySem.W.keepIn X.K (.ref f) = true) (hb : Binds X.K fd ps [])
    (hg : Gl X x := by rfl) (hdb : (x == ("__debug__" : Str)) = false := by decide) : PD X (.Call (.Name x p) [] [] pos) (wCall spec wNil) :=
  ⟨fun Wx tk => PE.imp (pe_call0S F hr hg hm hk hb (fun σ => passAt tk σ) hdb) fun σ H Q h => by
    obtain ⟨W, env, S, Q0, X1, ok, sl, hw, cv, cx⟩ := h
    exact ⟨W, S, [], Q0, X1, ok, rfl, hw, cv, cx⟩⟩
theorem pd_meth {N : List Str} {pl : Sem Bool} (c : Cls X.K C) (hm : Meth X.K C m f) (hN : m ∉ N) (F : FnD X.prog X.w X.K X.mg X.base k f fd ps spec) (hr : Room k X.A) (hb : Binds X.K fd ps []) (ho : PD X o wo) (ha : PDa X (e :: es) wa)
    (hst : starEach (e :: es) X.env = (false, eval e X.env) :: starEach es X.env := by rfl) (hpl : (backTo pos (starEach es X.env)).any (·.1) = false := by rfl)
    (ht : eval (.Call (.Attribute o m apos) (e :: es) [] pos) X.env = (do
      let ov ← eval o X.env
      standAt apos.atName
      let (f, first) ← holding [ov] (getMethod ov m pl)
      callWith pos f first (backTo pos (starEach (e :: es) X.env)) (backToKw pos (keywordEach [] X.env))) := by rfl) : PD X (.Call (.Attribute o m apos) (e :: es) [] pos) (wMeth C N spec wo wa) :=
  ⟨fun Wx tk => PE.imp (pe_methS (E := WE Wx) (ho.run Wx tk) c hm F hr hb (fun σ => passAt tk σ) (ha.run Wx tk) hst hpl ht) fun σ H Q ⟨W, env, S, Q0, X1, ok, sl, hw, cv, cx⟩ => ⟨W, env, S, _, X1, ok, sl, hw, fun d S1 v W1 H1 ⟨hi, h1⟩ s1 ok1 r1 => by
    obtain ⟨a, dx, fs, e1, e2, e3⟩ := isIns_rep ok1 r1 hi hN
    exact ⟨a, dx, fs, e1, e2, e3, W1, env, S1, _, X1, ok1, sl.mono s1.vis, h1, fun ds S2 vs W2 H2 h2 s2 ok2 r2 => ⟨W2, S2, d :: ds, Q0, X1, ok2, ⟨v, vs, rfl, r1.mono s2.vis, r2⟩, h2, cv.mono (s1.trans s2), cx.mono (s1.trans s2)⟩, cx.mono s1⟩, cx⟩⟩
theorem pd_meth0 {N : List Str} {pl : Sem Bool} (c : Cls X.K C) (hm : Meth X.K C m f) (hN : m ∉ N) (F : FnD X.prog X.w X.K X.mg X.base k f fd ps spec) (hr : Room k X.A) (hb : Binds X.K fd ps []) (ho : PD X o wo)
    (ht : eval (.Call (.Attribute o m apos) [] [] pos) X.env = (do
      let ov ← eval o X.env
      standAt apos.atName
      let (f, first) ← holding [ov] (getMethod ov m pl)
      callWith pos f first (backTo pos (starEach [] X.env)) (backToKw pos (keywordEach [] X.env))) := by rfl) : PD X (.Call (.Attribute o m apos) [] [] pos) (wMeth C N spec wo wNil) :=
  ⟨fun Wx tk => PE.imp (pe_meth0S (E := WE Wx) (ho.run Wx tk) c hm F hr hb (fun σ => passAt tk σ) ht) fun σ H Q ⟨W, env, S, Q0, X1, ok, sl, hw, cv, cx⟩ => ⟨W, env, S, _, X1, ok, sl, hw, fun d S1 v W1 H1 ⟨hi, h1⟩ s1 ok1 r1 => by
    obtain ⟨a, dx, fs, e1, e2, e3⟩ := isIns_rep ok1 r1 hi hN
    exact ⟨a, dx, fs, e1, e2, e3, W1, S1, [d], Q0, X1, ok1, ⟨v, [], rfl, r1, rfl⟩, h1, cv.mono s1, cx.mono s1⟩, cx⟩⟩
theorem pd_make {N : List Str} (M : Mk X.K C f) (hN : N.Nodup) (hl : N.length ≤ 900) (F : FnD X.prog X.w X.K X.mg X.base k f fd ps spec) (hr : Room (k + 1) X.A) (hm : X.mg x = some (.ref C)) (hb : Binds X.K fd ps [])
    (ha : PDa X (e :: es) wa) (hg : Gl X x := by rfl) (hdb : (x == ("__debug__" : Str)) = false := by decide) (he : starEach (e :: es) X.env = (false, eval e X.env) :: starEach es X.env := by rfl) (hpl : (backTo pos (starEach es X.env)).any (·.1) = false := by rfl) :
    PD X (.Call (.Name x p) (e :: es) [] pos) (wMake C N spec wa) :=
  ⟨fun Wx tk => PE.imp (pe_makeS (E := WE Wx) M F hr hg hm hb (fun σ => passAt tk σ) (ha.run Wx tk) hdb he hpl) fun σ H Q ⟨W, env, S, Q0, X1, ok, sl, hw, cv, cx⟩ => ⟨W, env, S, _, X1, ok, sl, hw, fun ds S1 vs W1 H1 h1 s1 ok1 r1 y dy hy hdy hne => by
    have hy2 : (upd H1 dy (HO.own y)) y = none := by rw [upd_ne (Ne.symm hne)]; exact hy
    have ok2 := (ok1.junk (o := .own y) hdy).newS (m := .ins C N (noneV N)) (o := .ins C dy []) hy2 ⟨dy, [], rfl, frep_new hN hl⟩
    have st := (ok1.stJ (o := .own y) hdy).trans (Ok.stS (m := .ins C N (noneV N)) (o := .ins C dy []) (ok1.junk (o := .own y) hdy) hy2)
    exact ⟨W1, _, .ref y :: ds, _, X1, ok2, ⟨_, _, rfl, rfl, r1⟩, h1 y (ok1.fresh hy).2, fun d S2 v W2 H2 ⟨hd, h2⟩ s2 ok3 r2 => by
      subst hd
      exact ⟨r2, cv _ S2 _ W2 H2 h2 (s1.trans (st.trans s2)) ok3 rfl⟩, cx.mono (s1.trans st)⟩, cx⟩⟩
end

/-! ### a mutable object as data from now on; a mutable list lent as data -/
def allV : DE → Option (List D)
  | [] => some []
  | none :: _ => none
  | some d :: r => (allV r).map (d :: ·)
def frzD (S : Sto) (d : D) (Q : Qd) : Prop := match d with
  | .ref a => match S a with
    | some (.lst xs) => Q (.lst xs) (del S a)
    | some (.ins C N xs) => some! (allV xs) fun ys => Q (.obj C N ys) (del S a)
    | _ => False
  | _ => Q d S
def wFrz (w : WPe) : WPe := fun env S Q X => w env S (fun d S1 => frzD S1 d Q) X
theorem allV_get : ∀ {xs : DE} {ys : List D}, allV xs = some ys → ys.length = xs.length ∧ ∀ i, getV xs i = ys[i]?
  | [], ys, h => by
    cases h
    exact ⟨rfl, fun i => by simp [getV]⟩
  | none :: _, ys, h => by cases h
  | some d :: r, ys, h => by
    have h' : (allV r).map (d :: ·) = some ys := h
    cases q : allV r with
    | none => rw [q] at h'; cases h'
    | some zs =>
      rw [q] at h'
      cases h'
      obtain ⟨a, b⟩ := allV_get q
      refine ⟨congrArg (· + 1) a, fun i => ?_⟩
      cases i with
      | zero => rfl
      | succ i => exact b i
theorem reps_of_get {K : PySem.W.Frag} {W : Hp} : ∀ {ys : List D} {g : Nat → Option V}, (∀ i d, ys[i]? = some d → ∃ v, g i = some v ∧ Rep K W d v) → (∀ i, ys.length ≤ i → g i = none) → ∃ vs : List V, Reps K W ys vs ∧ ∀ i, g i = vs[i]?
  | [], g, _, h2 => ⟨[], rfl, fun i => by rw [h2 i (Nat.zero_le _)]; simp⟩
  | d :: r, g, h1, h2 => by
    obtain ⟨v, e, rv⟩ := h1 0 d rfl
    obtain ⟨vs, rr, q⟩ := reps_of_get (ys := r) (g := fun i => g (i + 1)) (fun i d h => h1 (i + 1) d h) (fun i h => h2 (i + 1) (Nat.succ_le_succ h))
    refine ⟨v :: vs, ⟨v, vs, rfl, rv, rr⟩, fun i => ?_⟩
    cases i with
    | zero => exact e
    | succ i => exact q i
theorem frz_go {K : PySem.W.Frag} {W : Hp} {S : Sto} {H : Hp} {d : D} {v : V} {Q0 : Qd} {Q : VK} (ok : Ok K W S H) (r : Rep K W d v) (h : frzD S d Q0) (cv : CV K W S H Q0 Q) : Q v H := by
  cases d with
  | ref a =>
    have r' : v = .ref a := r
    subst r'
    cases q : S a with
    | none => unfold frzD at h; simp only [q] at h
    | some mo =>
      obtain ⟨o, e1, e2⟩ := ok.sto _ _ q
      have hW := ok.sep _ _ q
      cases mo with
      | lst xs =>
        unfold frzD at h
        simp only [q] at h
        obtain ⟨vs, e3, e4⟩ := e2
        subst e3
        exact cv _ _ _ _ _ h (ok.stF q) (ok.frz q e1) ⟨a, vs, rfl, upd_same, e4.mono (same_new hW)⟩
      | ins C N xs =>
        unfold frzD at h
        simp only [q] at h
        obtain ⟨ys, e5, h⟩ := some!_ex h
        obtain ⟨dx, gs, e3, fr⟩ := e2
        subst e3
        obtain ⟨l1, g1⟩ := allV_get e5
        have hlen : N.length = ys.length := by rw [l1, fr.len]
        obtain ⟨vs, rv, gv⟩ := reps_of_get (K := K) (W := W) (ys := ys) (g := fun i => (N[i]?).bind fun f => gs.lookup f) (fun i d hd => by
          have hi : i < N.length := by rw [hlen]; exact lt_of_some hd
          obtain ⟨v, c, rr⟩ := fr.is i N[i] d (List.getElem?_eq_getElem hi) (by rw [g1]; exact hd)
          exact ⟨v, by rw [List.getElem?_eq_getElem hi]; exact c, rr⟩) (fun i hi => by
          rw [List.getElem?_eq_none (by omega)]; rfl)
        refine cv _ _ _ _ _ h (ok.stF q) (ok.frz q e1) ⟨a, dx, gs, vs, rfl, upd_same, fun i f hf => ?_, fr.out, rv.mono (same_new hW)⟩
        rw [← gv i]
        show _ = (N[i]?).bind _
        rw [hf]; rfl
      | _ =>
        unfold frzD at h
        simp only [q] at h
  | _ => exact cv _ _ _ _ _ h Stp.refl ok r
section
variable {X : Cx} {e : Expr} {w : WPe}
theorem pd_frz (h : PD X e w) : PD X e (wFrz w) := ⟨fun Wx tk => PE.imp (h.run Wx tk) fun σ H Q ⟨W, env, S, Q0, X1, ok, sl, hw, cv, cx⟩ => ⟨W, env, S, _, X1, ok, sl, hw, fun d S1 v W1 H1 h1 s1 ok1 r1 => frz_go ok1 r1 h1 (cv.mono s1), cx⟩⟩
end
end DL
set_option Elab.async false
set_option linter.all false
set_option maxRecDepth 100000
set_option maxHeartbeats 2000000
/-! The data layer, part d: operations of values. -/
namespace DL
open PySem PySem.Spec PyProof.Rows L2

/-! ### lists and tuples, however held -/
def seqM (S : Sto) (d : D) : Option (List D) := match d with
  | .lst xs => some xs
  | .ref a => match S a with
    | some (.lst xs) => some xs
    | _ => none
  | _ => none
def seqL (S : Sto) (d : D) : Option (List D) := match d with
  | .fro xs => some xs
  | d => seqM S d
/-- a list or a tuple -/
def seqA (S : Sto) (d : D) : Option (List D) := match d with
  | .tup xs => some xs
  | d => seqL S d
section
variable {K : PySem.W.Frag} {W : Hp} {S : Sto} {H : Hp} {d : D} {v : V} {xs : List D}
theorem seqM_rep (ok : Ok K W S H) (r : Rep K W d v) (h : seqM S d = some xs) : ∃ a vs, v = .ref a ∧ H a = some (.lst vs) ∧ Reps K W xs vs := by
  cases d with
  | lst ys =>
    cases h
    obtain ⟨a, vs, e1, e2, e3⟩ := r
    exact ⟨a, vs, e1, ok.vis _ _ e2, e3⟩
  | ref a =>
    have h' : (match S a with | some (.lst xs) => some xs | _ => none) = some xs := h
    cases q : S a with
    | none => rw [q] at h'; cases h'
    | some m =>
      rw [q] at h'
      cases m with
      | lst ys =>
        cases h'
        obtain ⟨o, e1, vs, e2, e3⟩ := ok.sto _ _ q
        subst e2
        exact ⟨a, vs, r, e1, e3⟩
      | _ => cases h'
  | _ => cases h
theorem seqL_rep (ok : Ok K W S H) (r : Rep K W d v) (h : seqL S d = some xs) : ∃ a vs, v = .ref a ∧ SqL K H a vs ∧ Reps K W xs vs := by
  cases d with
  | fro ys =>
    cases h
    obtain ⟨a, vs, e1, e2, e3⟩ := r
    exact ⟨a, vs, e1, sqL_mono ok.vis e2, e3⟩
  | lst ys =>
    obtain ⟨a, vs, e1, e2, e3⟩ := seqM_rep ok r h
    exact ⟨a, vs, e1, SqL.of e2, e3⟩
  | ref a =>
    obtain ⟨a, vs, e1, e2, e3⟩ := seqM_rep ok r h
    exact ⟨a, vs, e1, SqL.of e2, e3⟩
  | _ => cases h
theorem seqA_rep (ok : Ok K W S H) (r : Rep K W d v) (h : seqA S d = some xs) : ∃ a vs, v = .ref a ∧ (SqL K H a vs ∨ SqT K H a vs) ∧ Reps K W xs vs := by
  cases d with
  | tup ys =>
    cases h
    obtain ⟨a, vs, e1, e2, e3⟩ := r
    exact ⟨a, vs, e1, .inr (sqT_mono ok.vis e2), e3⟩
  | fro ys =>
    obtain ⟨a, vs, e1, e2, e3⟩ := seqL_rep ok r h
    exact ⟨a, vs, e1, .inl e2, e3⟩
  | lst ys =>
    obtain ⟨a, vs, e1, e2, e3⟩ := seqL_rep ok r h
    exact ⟨a, vs, e1, .inl e2, e3⟩
  | ref a =>
    obtain ⟨a, vs, e1, e2, e3⟩ := seqL_rep ok r h
    exact ⟨a, vs, e1, .inl e2, e3⟩
  | _ => cases h
theorem seqM_put {p : Addr} {m : MO} (h : seqM S d = some xs) (hp : S p = none) : seqM (put S p m) d = some xs := by
  cases d with
  | ref a =>
    have h' : (match S a with | some (.lst xs) => some xs | _ => none) = some xs := h
    have ne : a ≠ p := fun e => by subst e; rw [hp] at h'; cases h'
    show (match put S p m a with | some (.lst xs) => some xs | _ => none) = some xs
    rw [put_ne ne]; exact h'
  | _ => exact h
theorem seqL_put {p : Addr} {m : MO} (h : seqL S d = some xs) (hp : S p = none) : seqL (put S p m) d = some xs := by
  cases d with
  | fro ys => exact h
  | ref a => exact seqM_put (d := .ref a) h hp
  | lst ys => exact h
  | _ => cases h
theorem seqA_put {p : Addr} {m : MO} (h : seqA S d = some xs) (hp : S p = none) : seqA (put S p m) d = some xs := by
  cases d with
  | tup ys => exact h
  | fro ys => exact h
  | ref a => exact seqM_put (d := .ref a) h hp
  | lst ys => exact h
  | _ => cases h
/-- a change at p, which is not this list -/
theorem seqA_chg {p : Addr} {m : MO} (h : seqA S d = some xs) (hp : ∀ a, d = .ref a → a ≠ p) : seqA (put S p m) d = some xs := by
  cases d with
  | ref a =>
    have h' : (match S a with | some (.lst xs) => some xs | _ => none) = some xs := h
    show (match put S p m a with | some (.lst xs) => some xs | _ => none) = some xs
    rw [put_ne (hp a rfl)]; exact h'
  | _ => exact h
theorem vals_le {P : Program} {w : World} {h : Heap} {a : Addr} {vs : List V} (hok : HOk P w H h) (e : H a = some (.lst vs)) : vs.length ≤ sizeLine := (hok a _ e).1
end

/-! ### ints in data -/
def toInts : List D → Option (List Int)
  | [] => some []
  | .int i :: r => (toInts r).map (i :: ·)
  | _ :: _ => none
theorem toInts_map : ∀ ns : List Int, toInts (ns.map D.int) = some ns
  | [] => rfl
  | i :: r => by
    show (toInts (r.map D.int)).map (i :: ·) = some (i :: r)
    rw [toInts_map r]; rfl
theorem toInts_rep {K : PySem.W.Frag} {W : Hp} : ∀ {xs : List D} {ns : List Int} {vs : List V}, toInts xs = some ns → Reps K W xs vs → vs = ns.map V.int
  | [], ns, vs, h, r => by
    cases h
    exact r
  | .int i :: xs, ns, vs, h, ⟨v, q, e1, e2, e3⟩ => by
    have h' : (toInts xs).map (i :: ·) = some ns := h
    cases z : toInts xs with
    | none => rw [z] at h'; cases h'
    | some ms =>
      rw [z] at h'
      cases h'
      subst e1
      have e2' : v = .int i := e2
      rw [toInts_rep z e3, e2']; rfl
  | .non :: _, _, _, h, _ => by cases h
  | .bl _ :: _, _, _, h, _ => by cases h
  | .str _ :: _, _, _, h, _ => by cases h
  | .ref _ :: _, _, _, h, _ => by cases h
  | .lst _ :: _, _, _, h, _ => by cases h
  | .tup _ :: _, _, _, h, _ => by cases h
  | .fro _ :: _, _, _, h, _ => by cases h
  | .obj _ _ _ :: _, _, _, h, _ => by cases h
  | .exc _ _ _ _ _ :: _, _, _, h, _ => by cases h
def toBls : List D → Option (List Bool)
  | [] => some []
  | .bl i :: r => (toBls r).map (i :: ·)
  | _ :: _ => none
theorem toBls_map : ∀ ns : List Bool, toBls (ns.map D.bl) = some ns
  | [] => rfl
  | i :: r => by
    show (toBls (r.map D.bl)).map (i :: ·) = some (i :: r)
    rw [toBls_map r]; rfl
theorem toBls_rep {K : PySem.W.Frag} {W : Hp} : ∀ {xs : List D} {ns : List Bool} {vs : List V}, toBls xs = some ns → Reps K W xs vs → vs = ns.map V.bl
  | [], ns, vs, h, r => by
    cases h
    exact r
  | .bl i :: xs, ns, vs, h, ⟨v, q, e1, e2, e3⟩ => by
    have h' : (toBls xs).map (i :: ·) = some ns := h
    cases z : toBls xs with
    | none => rw [z] at h'; cases h'
    | some ms =>
      rw [z] at h'
      cases h'
      subst e1
      have e2' : v = .bl i := e2
      rw [toBls_rep z e3, e2']; rfl
  | .non :: _, _, _, h, _ => by cases h
  | .int _ :: _, _, _, h, _ => by cases h
  | .str _ :: _, _, _, h, _ => by cases h
  | .ref _ :: _, _, _, h, _ => by cases h
  | .lst _ :: _, _, _, h, _ => by cases h
  | .tup _ :: _, _, _, h, _ => by cases h
  | .fro _ :: _, _, _, h, _ => by cases h
  | .obj _ _ _ :: _, _, _, h, _ => by cases h
  | .exc _ _ _ _ _ :: _, _, _, h, _ => by cases h

/-! ### operators on ints -/
section
variable {X : Cx}
def oI (C : Int → Int → Prop) (g : Int → Int → D) : O2 := fun S x y Q => match x, y with
  | .int i, .int j => C i j ∧ Q (g i j) S
  | _, _ => False
def oI0 (g : Int → Int → D) : O2 := fun S x y Q => match x, y with
  | .int i, .int j => Q (g i j) S
  | _, _ => False
theorem OpR.imp {f : Value → Value → Sem Value} {r r' : R2} (h : OpR X f r) (i : ∀ x y H Q, r' x y H Q → r x y H Q) : OpR X f r' := fun pins s σ H x y v u Q I rx ry q => h pins s σ H x y v u Q I rx ry (i _ _ _ _ q)
theorem opI_of {f : Value → Value → Sem Value} {C : Int → Int → Prop} {g : Int → Int → D} {gv : Int → Int → V} (h : OpR X f (rI C gv)) (r : ∀ i j W, Rep X.K W (g i j) (gv i j)) : OpR X f (lOp X.K (oI C g)) :=
  OpR.imp h fun x y H Q ⟨W, S, a, b, Q0, ok, ra, rb, ho, cv⟩ => by
    cases a with
    | int i =>
      cases b with
      | int j => exact ⟨i, j, ra, rb, ho.1, cv _ S _ W H ho.2 Stp.refl ok (r i j W)⟩
      | _ => exact ho.elim
    | _ => exact ho.elim
theorem opI0_of {f : Value → Value → Sem Value} {g : Int → Int → D} {gv : Int → Int → V} (h : OpR X f (rI0 gv)) (r : ∀ i j W, Rep X.K W (g i j) (gv i j)) : OpR X f (lOp X.K (oI0 g)) :=
  OpR.imp h fun x y H Q ⟨W, S, a, b, Q0, ok, ra, rb, ho, cv⟩ => by
    cases a with
    | int i =>
      cases b with
      | int j => exact ⟨i, j, ra, rb, cv _ S _ W H ho Stp.refl ok (r i j W)⟩
      | _ => exact ho.elim
    | _ => exact ho.elim
abbrev oSub : O2 := oI0 fun i j => .int (i - j)
abbrev oMul : O2 := oI CMulW fun i j => .int (i * j)
abbrev oDiv : O2 := oI CDivW fun i j => .int (i / j)
abbrev oMod : O2 := oI (fun _ j => 0 < j) fun i j => .int (i % j)
abbrev oPow : O2 := oI CPow fun i j => .int (i ^ j.toNat)
abbrev oLt : O2 := oI0 fun i j => .bl (decide (i < j))
abbrev oLe : O2 := oI0 fun i j => .bl (decide (i ≤ j))
abbrev oGt : O2 := oI0 fun i j => .bl (decide (j < i))
abbrev oGe : O2 := oI0 fun i j => .bl (decide (j ≤ i))
theorem opd_sub : OpR X (binaryOp .Sub) (lOp X.K oSub) := opI0_of op_sub fun _ _ _ => rfl
theorem opd_mul : OpR X (binaryOp .Mult) (lOp X.K oMul) := opI_of op_mulW fun _ _ _ => rfl
theorem opd_div : OpR X (binaryOp .FloorDiv) (lOp X.K oDiv) := opI_of op_fdivW fun _ _ _ => rfl
theorem opd_mod : OpR X (binaryOp .Mod) (lOp X.K oMod) := opI_of op_mod fun _ _ _ => rfl
theorem opd_pow : OpR X (binaryOp .Pow) (lOp X.K oPow) := opI_of op_pow fun _ _ _ => rfl
theorem opd_lt : OpR X (compareOp .Lt) (lOp X.K oLt) := opI0_of op_lt fun _ _ _ => rfl
theorem opd_le : OpR X (compareOp .LtE) (lOp X.K oLe) := opI0_of op_le fun _ _ _ => rfl
theorem opd_gt : OpR X (compareOp .Gt) (lOp X.K oGt) := opI0_of op_gt fun _ _ _ => rfl
theorem opd_ge : OpR X (compareOp .GtE) (lOp X.K oGe) := opI0_of op_ge fun _ _ _ => rfl
theorem iopd_add : OpR X (inplaceOp .Add) (lOp X.K (oI0 fun i j => .int (i + j))) := opI0_of iop_add fun _ _ _ => rfl
theorem iopd_sub : OpR X (inplaceOp .Sub) (lOp X.K oSub) := opI0_of iop_sub fun _ _ _ => rfl
/-- -i -/
def oNeg : O1 := fun S x Q => match x with
  | .int i => Q (.int (-i)) S
  | _ => False
theorem und_neg : UnR X (unaryOp .USub) (lU X.K oNeg) := fun pins s σ H x v Q I rx h => by
  obtain ⟨W, S, a, Q0, ok, ra, ho, cv⟩ := h
  cases a with
  | int i => exact un_neg pins s σ H x v Q I rx ⟨i, ra, cv _ S _ W H ho Stp.refl ok rfl⟩
  | _ => exact ho.elim

/-! ### + of ints, texts, lists, tuples -/
def oCatL : O2 := fun S x y Q => some! (seqM S x) fun xs => some! (seqM S y) fun ys => xs.length + ys.length ≤ sizeLine ∧ Q (.lst (xs ++ ys)) S
def oAdd : O2 := fun S x y Q => match x, y with
  | .int i, .int j => Q (.int (i + j)) S
  | .str a, .str b => a.length + b.length ≤ sizeLine ∧ Q (.str (a ++ b)) S
  | .tup xs, .tup ys => xs.length + ys.length ≤ sizeLine ∧ Q (.tup (xs ++ ys)) S
  | x, y => oCatL S x y Q
theorem opd_add : OpR X (binaryOp .Add) (lOp X.K oAdd) := fun pins s σ H x y v u Q I rx ry h => by
  obtain ⟨W, S, a, b, Q0, ok, ra, rb, ho, cv⟩ := h
  have catL : oCatL S a b Q0 → wpAny (model X.prog X.w) X.A (binaryOp .Add v u) (EP X pins σ Q) X.xe s := fun z => by
    obtain ⟨xs, e1, z⟩ := some!_ex z
    obtain ⟨ys, e2, hz, z⟩ := some!_ex z
    obtain ⟨p, vs, rfl, hp, r1⟩ := seqM_rep ok ra e1
    obtain ⟨q, ws, rfl, hq, r2⟩ := seqM_rep ok rb e2
    refine op_cat pins s σ H _ _ v u Q I rx ry ⟨p, q, vs, ws, rfl, rfl, hp, hq, by rw [r1.length, r2.length]; exact hz, fun o no => ?_⟩
    have n := ok.fresh no
    exact cv _ S _ _ _ z (ok.stW no) (ok.newW no) ⟨o, _, rfl, upd_same, (r1.append r2).mono (same_new n.1)⟩
  cases a with
  | int i =>
    cases b with
    | int j => exact op_add pins s σ H _ _ v u Q I rx ry ⟨i, j, ra, rb, cv _ S _ W H ho Stp.refl ok rfl⟩
    | _ => exact catL ho
  | str i =>
    cases b with
    | str j => exact op_add_str pins s σ H _ _ v u Q I rx ry ⟨i, j, ra, rb, ho.1, cv _ S _ W H ho.2 Stp.refl ok rfl⟩
    | _ => exact catL ho
  | tup xs =>
    cases b with
    | tup ys =>
      obtain ⟨p, vs, rfl, hp, r1⟩ := id ra
      obtain ⟨q, ws, rfl, hq, r2⟩ := id rb
      have hp' := sqT_mono ok.vis hp
      have hq' := sqT_mono ok.vis hq
      refine op_catA pins s σ H _ _ v u Q I rx ry ⟨p, q, vs, ws, rfl, rfl, hp', hq', by rw [r1.length, r2.length]; exact ho.1, fun z => ?_, fun z1 z2 => ?_, fun z1 z2 o no => ?_⟩
      · subst z
        have e : xs = [] := List.eq_nil_of_length_eq_zero (by rw [← r1.length]; rfl)
        subst e
        exact cv _ S _ W H ho.2 Stp.refl ok ⟨q, ws, rfl, hq, r2⟩
      · subst z2
        have e : ys = [] := List.eq_nil_of_length_eq_zero (by rw [← r2.length]; rfl)
        subst e
        refine cv _ S _ W H ho.2 Stp.refl ok ⟨p, vs, rfl, hp, ?_⟩
        rw [List.append_nil]; exact r1
      · have n := ok.fresh no
        exact cv _ S _ _ _ ho.2 (ok.stW no) (ok.newW no) ⟨o, _, rfl, SqT.of upd_same, (r1.append r2).mono (same_new n.1)⟩
    | _ => exact catL ho
  | _ => exact catL ho

/-! ### == and != of data -/
mutual
def toP : D → PyData
  | .non => .none
  | .bl b => .bool b
  | .int i => .int i
  | .str x => .str x
  | .lst xs => .list (toPs xs)
  | .fro xs => .list (toPs xs)
  | .tup xs => .tuple (toPs xs)
  | .ref _ => .dict []
  | .obj _ _ _ => .dict []
  | .exc _ _ _ _ _ => .dict []
def toPs : List D → List PyData
  | [] => []
  | d :: r => toP d :: toPs r
end
mutual
theorem dp_of {K : PySem.W.Frag} {W H : Hp} (e : Same W H) : ∀ {d : D} {v : V}, Rep K W d v → (toP d).canLay0 = true → Dp K H v (toP d)
  | .non, _, h, _ => by rw [show _ = V.non from h]; exact .non
  | .bl b, _, h, _ => by rw [show _ = V.bl b from h]; exact .bl b
  | .int i, _, h, _ => by rw [show _ = V.int i from h]; exact .int i
  | .str x, _, h, _ => by rw [show _ = V.str x from h]; exact .str x
  | .lst xs, _, ⟨a, vs, e1, e2, e3⟩, c => by subst e1; exact .lst (SqL.of (e _ _ e2)) (dps_of e e3 c)
  | .fro xs, _, ⟨a, vs, e1, e2, e3⟩, c => by subst e1; exact .lst (sqL_mono e e2) (dps_of e e3 c)
  | .tup xs, _, ⟨a, vs, e1, e2, e3⟩, c => by subst e1; exact .tup (sqT_mono e e2) (dps_of e e3 c)
  | .ref _, _, _, c => by cases c
  | .obj _ _ _, _, _, c => by cases c
  | .exc _ _ _ _ _, _, _, c => by cases c
theorem dps_of {K : PySem.W.Frag} {W H : Hp} (e : Same W H) : ∀ {d : List D} {v : List V}, Reps K W d v → PyData.canLayAll0 (toPs d) = true → DpAll K H v (toPs d)
  | [], _, h, _ => by rw [show _ = ([] : List V) from h]; exact .nil
  | d :: ds, _, ⟨v, r, e1, e2, e3⟩, c => by
    subst e1
    have c' : ((toP d).canLay0 && PyData.canLayAll0 (toPs ds)) = true := c
    rw [Bool.and_eq_true] at c'
    exact .cons (dp_of e e2 c'.1) (dps_of e e3 c'.2)
end
/-- a mutable list by what it holds -/
def resD (S : Sto) (d : D) : D := match d with
  | .ref a => match S a with
    | some (.lst xs) => .lst xs
    | _ => .ref a
  | _ => d
theorem dp_res {K : PySem.W.Frag} {W H : Hp} {S : Sto} (ok : Ok K W S H) {d : D} {v : V} (r : Rep K W d v) (c : SeqAt.shaped (toP (resD S d)) = true) : Dp K H v (toP (resD S d)) := by
  have c0 := SeqAt.canLay_of_shaped c
  cases d with
  | ref a =>
    have e : resD S (.ref a) = (match S a with | some (.lst xs) => .lst xs | _ => .ref a) := rfl
    cases q : S a with
    | none => rw [e, q] at c0; cases c0
    | some m =>
      cases m with
      | lst xs =>
        rw [e, q] at c0 ⊢
        obtain ⟨o, e1, vs, e2, e3⟩ := ok.sto _ _ q
        subst e2
        have r' : v = .ref a := r
        subst r'
        exact .lst (SqL.of e1) (dps_of ok.vis e3 c0)
      | _ => rw [e, q] at c0; cases c0
  | _ => exact dp_of ok.vis r c0
def eqD (S : Sto) (x y : D) : Bool := PyData.eqv (toP (resD S x)) (toP (resD S y))
def shD (S : Sto) (x : D) : Bool := SeqAt.shaped (toP (resD S x))
def oEq : O2 := fun S x y Q => shD S x = true ∧ shD S y = true ∧ Q (.bl (eqD S x y)) S
def oNe : O2 := fun S x y Q => shD S x = true ∧ shD S y = true ∧ Q (.bl (!eqD S x y)) S
theorem opd_eq (hu : X.A.units + 64 < cLine) : OpR X (compareOp .Eq) (lOp X.K oEq) := OpR.imp (op_eqD hu) fun x y H Q ⟨W, S, a, b, Q0, ok, ra, rb, ho, cv⟩ =>
  ⟨_, _, dp_res ok ra ho.1, dp_res ok rb ho.2.1, ho.1, ho.2.1, cv _ S _ W H ho.2.2 Stp.refl ok rfl⟩
theorem opd_ne (hu : X.A.units + 64 < cLine) : OpR X (compareOp .NotEq) (lOp X.K oNe) := OpR.imp (op_neD hu) fun x y H Q ⟨W, S, a, b, Q0, ok, ra, rb, ho, cv⟩ =>
  ⟨_, _, dp_res ok ra ho.1, dp_res ok rb ho.2.1, ho.1, ho.2.1, cv _ S _ W H ho.2.2 Stp.refl ok rfl⟩
/-- x is None, x is not None -/
def isNon : D → Bool
  | .non => true
  | _ => false
def oIsN : O2 := fun S x y Q => match y with
  | .non => Q (.bl (isNon x)) S
  | _ => False
def oNotN : O2 := fun S x y Q => match y with
  | .non => Q (.bl (!isNon x)) S
  | _ => False
theorem isNon_rep {K : PySem.W.Frag} {W : Hp} {d : D} {v : V} (r : Rep K W d v) : decide (v = .non) = isNon d := by
  cases d with
  | non => rw [show v = V.non from r]; rfl
  | bl b => rw [show v = V.bl b from r]; rfl
  | int b => rw [show v = V.int b from r]; rfl
  | str b => rw [show v = V.str b from r]; rfl
  | ref b => rw [show v = V.ref b from r]; rfl
  | lst xs => obtain ⟨a, vs, e1, _⟩ := r; rw [e1]; rfl
  | fro xs => obtain ⟨a, vs, e1, _⟩ := r; rw [e1]; rfl
  | tup xs => obtain ⟨a, vs, e1, _⟩ := r; rw [e1]; rfl
  | obj C N xs => obtain ⟨a, dx, gs, vs, e1, _⟩ := r; rw [e1]; rfl
  | exc a dd C f x => rw [show v = V.ref a from r.1]; rfl
theorem opd_isN : OpR X (compareOp .Is) (lOp X.K oIsN) := OpR.imp op_isN fun x y H Q ⟨W, S, a, b, Q0, ok, ra, rb, ho, cv⟩ => by
  cases b with
  | non => exact ⟨rb, by rw [isNon_rep ra]; exact cv _ S _ W H ho Stp.refl ok rfl⟩
  | _ => exact ho.elim
theorem opd_notN : OpR X (compareOp .IsNot) (lOp X.K oNotN) := OpR.imp op_notN fun x y H Q ⟨W, S, a, b, Q0, ok, ra, rb, ho, cv⟩ => by
  cases b with
  | non => exact ⟨rb, by rw [isNon_rep ra]; exact cv _ S _ W H ho Stp.refl ok rfl⟩
  | _ => exact ho.elim

/-! ### items, slices -/
def oIx : O2 := fun S x y Q => match y with
  | .int i => some! (seqA S x) fun xs => some! (atI xs i) fun d => Q d S
  | _ => False
theorem reps_at {K : PySem.W.Frag} {W : Hp} {xs : List D} {vs : List V} {i : Int} {d : D} (r : Reps K W xs vs) (h : atI xs i = some d) : ∃ v, atI vs i = some v ∧ Rep K W d v := by
  unfold atI at h ⊢
  rw [r.length]
  cases q : ixN xs.length i with
  | none => rw [q] at h; cases h
  | some j =>
    rw [q] at h
    obtain ⟨v, e, rv⟩ := r.get (i := j) (d := d) h
    exact ⟨v, e, rv⟩
theorem IxR.imp {r r' : R2} (h : IxR X r) (i : ∀ x y H Q, r' x y H Q → r x y H Q) : IxR X r' := fun va sl pins s σ H x y v u Q I rx ry q hs => h va sl pins s σ H x y v u Q I rx ry (i _ _ _ _ q) hs
theorem ixd : IxR X (lOp X.K oIx) := IxR.imp (ix_list.or ix_tup) fun x y H Q ⟨W, S, a, b, Q0, ok, ra, rb, ho, cv⟩ => by
  cases b with
  | int i =>
    obtain ⟨xs, e1, ho⟩ := some!_ex ho
    obtain ⟨d, e2, ho⟩ := some!_ex ho
    obtain ⟨p, vs, rfl, hq, r1⟩ := seqA_rep ok ra e1
    obtain ⟨v, e3, rv⟩ := reps_at r1 e2
    rcases hq with hq | hq
    · exact .inl ⟨p, vs, i, v, rfl, rb, hq, e3, cv d S v W H ho Stp.refl ok rv⟩
    · exact .inr ⟨p, vs, i, v, rfl, rb, hq, e3, cv d S v W H ho Stp.refl ok rv⟩
  | _ => exact ho.elim
def cutD (xs : List D) (lo hi : Option Int) : List D := (xs.drop (HT.sIx xs.length 0 lo)).take (HT.sIx xs.length xs.length hi - HT.sIx xs.length 0 lo)
theorem reps_cut {K : PySem.W.Frag} {W : Hp} {xs : List D} {vs : List V} {lo hi : Option Int} (r : Reps K W xs vs) : Reps K W (cutD xs lo hi) (cutV vs lo hi) := by
  unfold cutD cutV
  rw [r.length]
  exact (r.drop _).take _
/-- a slice: of a list a new list, of a tuple a tuple -/
def oSl (S : Sto) (x : D) (lo hi : Option Int) (Q : Qd) : Prop := match x with
  | .tup xs => Q (.tup (cutD xs lo hi)) S
  | x => some! (seqL S x) fun xs => Q (.lst (cutD xs lo hi)) S
def lSl (K : PySem.W.Frag) : V → Option Int → Option Int → Hp → VK → Prop := fun x lo hi H Q => ∃ W S a Q0, Ok K W S H ∧ Rep K W a x ∧ oSl S a lo hi Q0 ∧ CV K W S H Q0 Q
theorem sld : SlR X (lSl X.K) := by
  intro pins s σ H x v vl vu lo hi sl Q I rx hs pl pu h
  obtain ⟨W, S, a, Q0, ok, ra, ho, cv⟩ := h
  have onL : some! (seqL S a) (fun xs => Q0 (.lst (cutD xs lo hi)) S) → ∃ T id, typeLookup (.type T) "__getitem__" = pure (some (.builtin id)) ∧ s.TypeIs v T ∧ wpAny (model X.prog X.w) X.A (getItem v (.ref sl)) (EP X pins σ Q) X.xe s := fun z => by
    obtain ⟨xs, e1, z⟩ := some!_ex z
    obtain ⟨p, vs, rfl, hp, r1⟩ := seqL_rep ok ra e1
    refine sl_list pins s σ H _ v vl vu lo hi sl Q I rx hs pl pu ⟨p, vs, rfl, hp, fun o no => ?_⟩
    have n := ok.fresh no
    exact cv _ S _ _ _ z (ok.stW no) (ok.newW no) ⟨o, _, rfl, upd_same, (reps_cut r1).mono (same_new n.1)⟩
  cases a with
  | tup xs =>
    obtain ⟨p, vs, rfl, hp, r1⟩ := id ra
    have hp' := sqT_mono ok.vis hp
    refine sl_tupA pins s σ H _ v vl vu lo hi sl Q I rx hs pl pu ⟨p, vs, rfl, hp', fun z => ?_, fun z o no => ?_⟩
    · refine cv _ S _ W H ho Stp.refl ok ⟨p, vs, rfl, hp, ?_⟩
      have e : cutD xs lo hi = xs := by
        unfold cutD
        rw [r1.length] at z
        rw [z.1, z.2, Nat.sub_zero, List.drop_zero, List.take_length]
      rw [e]; exact r1
    · have n := ok.fresh no
      exact cv _ S _ _ _ ho (ok.stW no) (ok.newW no) ⟨o, _, rfl, SqT.of upd_same, (reps_cut r1).mono (same_new n.1)⟩
  | _ => exact onL ho
end
end DL
set_option Elab.async false
set_option linter.all false
set_option maxRecDepth 100000
set_option maxHeartbeats 400000
/-! The data layer, part e: slices' parts, built-in functions. -/
namespace DL
open PySem PySem.Spec PyProof.Rows L2
section
variable {X : Cx}
/-- the parts of a slice -/
abbrev WPo := DE → Sto → (Option Int → Sto → Prop) → XQ → Prop
def lO (K : PySem.W.Frag) (Wx : WX) (w : WPo) : TO := fun σ H Q => ∃ W env S Q0 X0, Ok K W S H ∧ Sl K W env σ ∧ w env S Q0 X0 ∧ (∀ o S' W' H', Q0 o S' → Stp W S H W' S' H' → Ok K W' S' H' → Q o H') ∧ CXc K W S H X0 (fun c d H' => Wx c d σ H')
structure PDo (X : Cx) (e : Option Expr) (w : WPo) : Prop where
  run : ∀ Wx, Takes X Wx → PO X e (lO X.K Wx w)
def wNoP : WPo := fun _ S Q _ => Q none S
def wP (w : WPe) : WPo := fun env S Q X => w env S (fun d S1 => match d with | .int i => Q (some i) S1 | _ => False) X
theorem PO.imp {e : Option Expr} {t t' : TO} (h : PO X e t) (i : ∀ σ H Q, t' σ H Q → t σ H Q) : PO X e t' := ⟨fun pins s σ H Q I q => h.run pins s σ H Q I (i σ H Q q)⟩
theorem pdo_none : PDo X none wNoP := ⟨fun Wx tk => PO.imp po_none fun σ H Q ⟨W, env, S, Q0, X1, ok, sl, hw, cv, cx⟩ => cv none S W H hw Stp.refl ok⟩
variable {e : Expr} {w : WPe} {wl wu : WPo} {lo hi : Option Expr} {pos p2 : Pos}
theorem pdo_some (h : PD X e w) : PDo X (some e) (wP w) := ⟨fun Wx tk => PO.imp (po_some (h.run Wx tk)) fun σ H Q ⟨W, env, S, Q0, X1, ok, sl, hw, cv, cx⟩ => ⟨W, env, S, _, X1, ok, sl, hw, fun d S1 v W1 H1 h1 s1 ok1 r1 => by
  cases d with
  | int i => exact ⟨i, r1, cv (some i) S1 W1 H1 h1 s1 ok1⟩
  | _ => exact h1.elim, cx⟩⟩
def wSl (we : WPe) (wl wu : WPo) : WPe := fun env S Q X => we env S (fun x S1 => wl env S1 (fun lo S2 => wu env S2 (fun hi S3 => oSl S3 x lo hi Q) X) X) X
theorem pd_slice (he : PD X e w) (hl : PDo X lo wl) (hu : PDo X hi wu) : PD X (.Subscript e (.Slice lo hi none p2) pos) (wSl w wl wu) :=
  ⟨fun Wx tk => PE.imp (pe_slice sld (he.run Wx tk) (hl.run Wx tk) (hu.run Wx tk)) fun σ H Q ⟨W, env, S, Q0, X1, ok, sl, hw, cv, cx⟩ => ⟨W, env, S, _, X1, ok, sl, hw, fun d S1 v W1 H1 h1 s1 ok1 r1 =>
    ⟨W1, env, S1, _, X1, ok1, sl.mono s1.vis, h1, fun o S2 W2 H2 h2 s2 ok2 => ⟨W2, env, S2, _, X1, ok2, sl.mono (s1.trans s2).vis, h2, fun o2 S3 W3 H3 h3 s3 ok3 =>
      ⟨W3, S3, d, Q0, ok3, r1.mono (s2.trans s3).vis, h3, cv.mono (s1.trans (s2.trans s3))⟩, cx.mono (s1.trans s2)⟩, cx.mono s1⟩, cx⟩⟩

/-! ### built-in functions -/
def wCB (o : OC) (wa : WPa) : WPe := fun env S Q X => wa env S (fun ds S1 => o S1 ds Q) X
variable {x : Str} {p : Pos} {es : List Expr} {wa : WPa} {fid T : String} {o : OC}
theorem cb_go {K : PySem.W.Frag} {Wx : WX} {σ : L2.St} {H : Hp} {Q : VK} (h : lE K Wx (wCB o wa) σ H Q) : tCB (lC K o) (lA K Wx wa) σ H Q := by
  obtain ⟨W, env, S, Q0, X1, ok, sl, hw, cv, cx⟩ := h
  exact ⟨W, env, S, _, X1, ok, sl, hw, fun ds S1 vs W1 H1 h1 s1 ok1 r1 => ⟨W1, S1, ds, Q0, ok1, r1, h1, cv.mono s1⟩, cx⟩
theorem pd_callB (hc : CallR X (.builtin fid) (lC X.K o)) (hm : X.mg x = none) (hv : bootBuiltins x = some (.builtin fid)) (ha : PDa X (e :: es) wa) (hg : Gl X x := by rfl) (hn : x ≠ "__name__" := by decide) (hdb : (x == ("__debug__" : Str)) = false := by decide)
    (he : starEach (e :: es) X.env = (false, eval e X.env) :: starEach es X.env := by rfl) (hpl : (backTo pos (starEach es X.env)).any (·.1) = false := by rfl) : PD X (.Call (.Name x p) (e :: es) [] pos) (wCB o wa) :=
  ⟨fun Wx tk => PE.imp (pe_callB hc hg hm hv (ha.run Wx tk) hn hdb he hpl) fun _ _ _ h => cb_go h⟩
theorem pd_callTy (hc : CallR X (.type T) (lC X.K o)) (hm : X.mg x = none) (hv : bootBuiltins x = some (.type T)) (ha : PDa X (e :: es) wa) (hg : Gl X x := by rfl) (hn : x ≠ "__name__" := by decide) (hdb : (x == ("__debug__" : Str)) = false := by decide)
    (he : starEach (e :: es) X.env = (false, eval e X.env) :: starEach es X.env := by rfl) (hpl : (backTo pos (starEach es X.env)).any (·.1) = false := by rfl) : PD X (.Call (.Name x p) (e :: es) [] pos) (wCB o wa) :=
  ⟨fun Wx tk => PE.imp (pe_callTy hc hg hm hv (ha.run Wx tk) hn hdb he hpl) fun _ _ _ h => cb_go h⟩
theorem CallR.imp {f : Value} {r r' : List V → Hp → VK → Prop} (h : CallR X f r) (i : ∀ xs H Q, r' xs H Q → r xs H Q) : CallR X f r' := fun pins s σ H xs us Q I rv q => h pins s σ H xs us Q I rv (i _ _ _ q)
theorem reps1 {K : PySem.W.Frag} {W : Hp} {d : D} {vs : List V} (r : Reps K W [d] vs) : ∃ v, vs = [v] ∧ Rep K W d v := by
  obtain ⟨v, q, e1, e2, e3⟩ := r
  have e3' : q = [] := e3
  subst e1 e3'
  exact ⟨v, rfl, e2⟩
theorem reps2 {K : PySem.W.Frag} {W : Hp} {d e : D} {vs : List V} (r : Reps K W [d, e] vs) : ∃ v u, vs = [v, u] ∧ Rep K W d v ∧ Rep K W e u := by
  obtain ⟨v, q, e1, e2, e3⟩ := r
  obtain ⟨u, rfl, e4⟩ := reps1 e3
  exact ⟨v, u, e1, e2, e4⟩
def one (ds : List D) (k : D → Prop) : Prop := match ds with
  | [d] => k d
  | _ => False
def two (ds : List D) (k : D → D → Prop) : Prop := match ds with
  | [d, e] => k d e
  | _ => False
def asI (d : D) (k : Int → Prop) : Prop := match d with
  | .int i => k i
  | _ => False
theorem one_ex {ds : List D} {k : D → Prop} (h : one ds k) : ∃ d, ds = [d] ∧ k d := by
  cases ds with
  | nil => exact h.elim
  | cons d r =>
    cases r with
    | nil => exact ⟨d, rfl, h⟩
    | cons e r => exact h.elim
theorem two_ex {ds : List D} {k : D → D → Prop} (h : two ds k) : ∃ d e, ds = [d, e] ∧ k d e := by
  cases ds with
  | nil => exact h.elim
  | cons d r =>
    cases r with
    | nil => exact h.elim
    | cons e r =>
      cases r with
      | nil => exact ⟨d, e, rfl, h⟩
      | cons f r => exact h.elim
theorem asI_ex {d : D} {k : Int → Prop} (h : asI d k) : ∃ i, d = .int i ∧ k i := by
  cases d with
  | int i => exact ⟨i, rfl, h⟩
  | _ => exact h.elim
/-- len of a list, a tuple, a text -/
def oLen : OC := fun S ds Q => one ds fun d => match d with
  | .str x => x.length ≤ sizeLine ∧ Q (.int (x.length : Nat)) S
  | d => some! (seqA S d) fun xs => Q (.int (xs.length : Nat)) S
theorem cd_len : CallR X (.builtin "len") (lC X.K oLen) := CallR.imp (call_len_seq.or call_len_str) fun vs H Q ⟨W, S, ds, Q0, ok, r, ho, cv⟩ => by
  obtain ⟨d, rfl, ho⟩ := one_ex ho
  obtain ⟨v, rfl, rv⟩ := reps1 r
  have key : some! (seqA S d) (fun xs => Q0 (.int (xs.length : Nat)) S) → (∃ p ys, [v] = [.ref p] ∧ (SqL X.K H p ys ∨ SqT X.K H p ys) ∧ Q (.int ys.length) H) := fun z => by
    obtain ⟨xs, e1, z⟩ := some!_ex z
    obtain ⟨q, ws, rfl, hq, r1⟩ := seqA_rep ok rv e1
    refine ⟨q, ws, rfl, hq, ?_⟩
    rw [r1.length]
    exact cv _ S _ W H z Stp.refl ok rfl
  cases d with
  | str x => exact .inr ⟨x, by rw [show v = .str x from rv], ho.1, cv _ S _ W H ho.2 Stp.refl ok rfl⟩
  | _ => exact .inl (key ho)
/-- int(n) -/
def oInt : OC := fun S ds Q => one ds fun d => match d with
  | .int i => Q (.int i) S
  | .bl k => Q (.int (if k = true then 1 else 0)) S
  | _ => False
theorem cd_int : CallR X (.type "int") (lC X.K oInt) := CallR.imp call_int1 fun vs H Q ⟨W, S, ds, Q0, ok, r, ho, cv⟩ => by
  obtain ⟨d, rfl, ho⟩ := one_ex ho
  obtain ⟨v, rfl, rv⟩ := reps1 r
  cases d with
  | int i => exact .inl ⟨i, by rw [show v = .int i from rv], cv _ S _ W H ho Stp.refl ok rfl⟩
  | bl k =>
    refine .inr ⟨k, by rw [show v = .bl k from rv], cv _ S _ W H ho Stp.refl ok ?_⟩
    cases k <;> rfl
  | _ => exact ho.elim
/-- max, min of two ints -/
def oMax2 : OC := fun S ds Q => two ds fun a b => asI a fun i => asI b fun j => Q (.int (max i j)) S
def oMin2 : OC := fun S ds Q => two ds fun a b => asI a fun i => asI b fun j => Q (.int (min i j)) S
theorem cd_max2 (hc : X.calm = true) : CallR X (.builtin "max") (lC X.K oMax2) := CallR.imp (call_max2 hc) fun vs H Q ⟨W, S, ds, Q0, ok, r, ho, cv⟩ => by
  obtain ⟨a, b, rfl, ho⟩ := two_ex ho
  obtain ⟨i, rfl, ho⟩ := asI_ex ho
  obtain ⟨j, rfl, ho⟩ := asI_ex ho
  obtain ⟨v, u, rfl, rv, ru⟩ := reps2 r
  have e : (if j > i then j else i) = max i j := by
    by_cases h : j > i
    · rw [if_pos h]; omega
    · rw [if_neg h]; omega
  exact ⟨i, j, by rw [show v = .int i from rv, show u = .int j from ru], by rw [e]; exact cv _ S _ W H ho Stp.refl ok rfl⟩
theorem cd_min2 (hc : X.calm = true) : CallR X (.builtin "min") (lC X.K oMin2) := CallR.imp (call_min2 hc) fun vs H Q ⟨W, S, ds, Q0, ok, r, ho, cv⟩ => by
  obtain ⟨a, b, rfl, ho⟩ := two_ex ho
  obtain ⟨i, rfl, ho⟩ := asI_ex ho
  obtain ⟨j, rfl, ho⟩ := asI_ex ho
  obtain ⟨v, u, rfl, rv, ru⟩ := reps2 r
  have e : (if j < i then j else i) = min i j := by
    by_cases h : j < i
    · rw [if_pos h]; omega
    · rw [if_neg h]; omega
  exact ⟨i, j, by rw [show v = .int i from rv, show u = .int j from ru], by rw [e]; exact cv _ S _ W H ho Stp.refl ok rfl⟩
/-- list(xs), tuple(xs) -/
def oList : OC := fun S ds Q => one ds fun d => some! (seqA S d) fun xs => Q (.lst xs) S
def oListM : OC := fun S ds Q => one ds fun d => some! (seqA S d) fun xs => ∀ p, S p = none → Q (.ref p) (put S p (.lst xs))
def oTuple : OC := fun S ds Q => one ds fun d => some! (seqA S d) fun xs => Q (.tup xs) S
theorem cd_list : CallR X (.type "list") (lC X.K oList) := CallR.imp call_list_of fun vs H Q ⟨W, S, ds, Q0, ok, r, ho, cv⟩ => by
  obtain ⟨d, rfl, ho⟩ := one_ex ho
  obtain ⟨v, rfl, rv⟩ := reps1 r
  obtain ⟨xs, e1, z⟩ := some!_ex ho
  obtain ⟨q, ws, rfl, hq, r1⟩ := seqA_rep ok rv e1
  refine ⟨q, ws, rfl, hq, fun l hl => ?_⟩
  have n := ok.fresh hl
  exact cv _ S _ _ _ z (ok.stW hl) (ok.newW hl) ⟨l, ws, rfl, upd_same, r1.mono (same_new n.1)⟩
theorem cd_listM : CallR X (.type "list") (lC X.K oListM) := CallR.imp call_list_of fun vs H Q ⟨W, S, ds, Q0, ok, r, ho, cv⟩ => by
  obtain ⟨d, rfl, ho⟩ := one_ex ho
  obtain ⟨v, rfl, rv⟩ := reps1 r
  obtain ⟨xs, e1, z⟩ := some!_ex ho
  obtain ⟨q, ws, rfl, hq, r1⟩ := seqA_rep ok rv e1
  refine ⟨q, ws, rfl, hq, fun l hl => ?_⟩
  exact cv _ _ _ _ _ (z l (ok.fresh hl).2) (ok.stS hl) (ok.newS hl ⟨ws, rfl, r1⟩) rfl
theorem cd_tuple : CallR X (.type "tuple") (lC X.K oTuple) := CallR.imp call_tuple_of fun vs H Q ⟨W, S, ds, Q0, ok, r, ho, cv⟩ => by
  obtain ⟨d, rfl, ho⟩ := one_ex ho
  obtain ⟨v, rfl, rv⟩ := reps1 r
  obtain ⟨xs, e1, z⟩ := some!_ex ho
  have onL : seqL S d = some xs → ∃ p ys, [v] = [.ref p] ∧ ((SqL X.K H p ys ∧ ∀ l, H l = none → Q (.ref l) (upd H l (.tup ys))) ∨ (SqT X.K H p ys ∧ Q (.ref p) H)) := fun e2 => by
    obtain ⟨q, ws, rfl, hq, r1⟩ := seqL_rep ok rv e2
    refine ⟨q, ws, rfl, .inl ⟨hq, fun l hl => ?_⟩⟩
    have n := ok.fresh hl
    exact cv _ S _ _ _ z (ok.stW hl) (ok.newW hl) ⟨l, ws, rfl, SqT.of upd_same, r1.mono (same_new n.1)⟩
  cases d with
  | tup ys =>
    cases e1
    obtain ⟨q, ws, rfl, hq, r1⟩ := id rv
    exact ⟨q, ws, rfl, .inr ⟨sqT_mono ok.vis hq, cv _ S _ W H z Stp.refl ok rv⟩⟩
  | _ => exact onL e1
/-- all, any of a list of bools; sum, max, min, sorted of a list of ints -/
def oAll : OC := fun S ds Q => one ds fun d => some! (seqL S d) fun xs => some! (toBls xs) fun bs => Q (.bl (bs.all id)) S
def oAny : OC := fun S ds Q => one ds fun d => some! (seqL S d) fun xs => some! (toBls xs) fun bs => Q (.bl (bs.any id)) S
def oSum : OC := fun S ds Q => one ds fun d => some! (seqL S d) fun xs => some! (toInts xs) fun bs => Q (.int bs.sum) S
def oMaxL : OC := fun S ds Q => one ds fun d => some! (seqL S d) fun xs => some! (toInts xs) fun bs => 0 < bs.length ∧ ∀ m, m ∈ bs → (∀ y, y ∈ bs → y ≤ m) → Q (.int m) S
def oMinL : OC := fun S ds Q => one ds fun d => some! (seqL S d) fun xs => some! (toInts xs) fun bs => 0 < bs.length ∧ ∀ m, m ∈ bs → (∀ y, y ∈ bs → m ≤ y) → Q (.int m) S
def oSorted : OC := fun S ds Q => one ds fun d => some! (seqL S d) fun xs => some! (toInts xs) fun bs => ∀ ms : List Int, ms.Perm bs → ms.Pairwise (· ≤ ·) → Q (.lst (ms.map D.int)) S
theorem reps_ints {K : PySem.W.Frag} {W : Hp} : ∀ {ns : List Int}, Reps K W (ns.map D.int) (ns.map V.int)
  | [] => rfl
  | i :: r => ⟨_, _, rfl, rfl, reps_ints⟩
theorem listI {K : PySem.W.Frag} {W : Hp} {S : Sto} {H : Hp} {d : D} {v : V} {k : List Int → Prop} (ok : Ok K W S H) (r : Rep K W d v) (h : some! (seqL S d) fun xs => some! (toInts xs) k) : ∃ a ns, v = .ref a ∧ SqL K H a (ns.map V.int) ∧ k ns := by
  obtain ⟨xs, e1, h⟩ := some!_ex h
  obtain ⟨ns, e2, h⟩ := some!_ex h
  obtain ⟨q, ws, rfl, hq, r1⟩ := seqL_rep ok r e1
  rw [toInts_rep e2 r1] at hq
  exact ⟨q, ns, rfl, hq, h⟩
theorem listB {K : PySem.W.Frag} {W : Hp} {S : Sto} {H : Hp} {d : D} {v : V} {k : List Bool → Prop} (ok : Ok K W S H) (r : Rep K W d v) (h : some! (seqL S d) fun xs => some! (toBls xs) k) : ∃ a ns, v = .ref a ∧ SqL K H a (ns.map V.bl) ∧ k ns := by
  obtain ⟨xs, e1, h⟩ := some!_ex h
  obtain ⟨ns, e2, h⟩ := some!_ex h
  obtain ⟨q, ws, rfl, hq, r1⟩ := seqL_rep ok r e1
  rw [toBls_rep e2 r1] at hq
  exact ⟨q, ns, rfl, hq, h⟩
theorem cd_all (hc : X.calm = true) : CallR X (.builtin "all") (lC X.K oAll) := CallR.imp (cr_all hc) fun vs H Q ⟨W, S, ds, Q0, ok, r, ho, cv⟩ => by
  obtain ⟨d, rfl, ho⟩ := one_ex ho
  obtain ⟨v, rfl, rv⟩ := reps1 r
  obtain ⟨a, bs, rfl, h1, h2⟩ := listB ok rv ho
  exact ⟨a, bs, rfl, h1, cv _ S _ W H h2 Stp.refl ok rfl⟩
theorem cd_any (hc : X.calm = true) : CallR X (.builtin "any") (lC X.K oAny) := CallR.imp (cr_any hc) fun vs H Q ⟨W, S, ds, Q0, ok, r, ho, cv⟩ => by
  obtain ⟨d, rfl, ho⟩ := one_ex ho
  obtain ⟨v, rfl, rv⟩ := reps1 r
  obtain ⟨a, bs, rfl, h1, h2⟩ := listB ok rv ho
  exact ⟨a, bs, rfl, h1, cv _ S _ W H h2 Stp.refl ok rfl⟩
theorem cd_sum (hc : X.calm = true) : CallR X (.builtin "sum") (lC X.K oSum) := CallR.imp (cr_sum hc) fun vs H Q ⟨W, S, ds, Q0, ok, r, ho, cv⟩ => by
  obtain ⟨d, rfl, ho⟩ := one_ex ho
  obtain ⟨v, rfl, rv⟩ := reps1 r
  obtain ⟨a, bs, rfl, h1, h2⟩ := listI ok rv ho
  exact ⟨a, bs, rfl, h1, cv _ S _ W H h2 Stp.refl ok rfl⟩
theorem cd_maxL (hc : X.calm = true) : CallR X (.builtin "max") (lC X.K oMaxL) := CallR.imp (cr_max hc) fun vs H Q ⟨W, S, ds, Q0, ok, r, ho, cv⟩ => by
  obtain ⟨d, rfl, ho⟩ := one_ex ho
  obtain ⟨v, rfl, rv⟩ := reps1 r
  obtain ⟨a, bs, rfl, h1, h2, h3⟩ := listI ok rv ho
  exact ⟨a, bs, rfl, h1, h2, fun m q1 q2 => cv _ S _ W H (h3 m q1 q2) Stp.refl ok rfl⟩
theorem cd_minL (hc : X.calm = true) : CallR X (.builtin "min") (lC X.K oMinL) := CallR.imp (cr_min hc) fun vs H Q ⟨W, S, ds, Q0, ok, r, ho, cv⟩ => by
  obtain ⟨d, rfl, ho⟩ := one_ex ho
  obtain ⟨v, rfl, rv⟩ := reps1 r
  obtain ⟨a, bs, rfl, h1, h2, h3⟩ := listI ok rv ho
  exact ⟨a, bs, rfl, h1, h2, fun m q1 q2 => cv _ S _ W H (h3 m q1 q2) Stp.refl ok rfl⟩
theorem cd_sorted : CallR X (.builtin "sorted") (lC X.K oSorted) := CallR.imp cr_sortedI fun vs H Q ⟨W, S, ds, Q0, ok, r, ho, cv⟩ => by
  obtain ⟨d, rfl, ho⟩ := one_ex ho
  obtain ⟨v, rfl, rv⟩ := reps1 r
  obtain ⟨a, bs, rfl, h1, h2⟩ := listI ok rv ho
  refine ⟨a, bs, rfl, h1, fun ms p q1 q2 hp => ?_⟩
  have n := ok.fresh hp
  exact cv _ S _ _ _ (h2 ms q1 q2) (ok.stW hp) (ok.newW hp) ⟨p, _, rfl, upd_same, reps_ints⟩

/-! ### isinstance of a built-in class -/
/-- the name of a value's type -/
def tyN (S : Sto) (d : D) : Option String := match d with
  | .non => some "NoneType"
  | .bl _ => some "bool"
  | .int _ => some "int"
  | .str _ => some "str"
  | .tup _ => some "tuple"
  | d => (seqL S d).map fun _ => "list"
theorem tyN_rep {K : PySem.W.Frag} {W : Hp} {S : Sto} {H : Hp} {d : D} {v : V} {n : String} (ok : Ok K W S H) (r : Rep K W d v) (h : tyN S d = some n) : TyX K H v (.type n) := by
  have onL : (seqL S d).map (fun _ => "list") = some n → TyX K H v (.type n) := fun z => by
    cases q : seqL S d with
    | none => rw [q] at z; cases z
    | some xs =>
      rw [q] at z
      cases z
      obtain ⟨a, vs, rfl, hq, _⟩ := seqL_rep ok r q
      rcases hq with (hq | ⟨o, hq⟩) | ⟨o, its, m, hk, hc, _⟩
      · exact .base (.lst hq)
      · exact .base (.frz hq)
      · exact .kList hk hc
  cases d with
  | non => cases h; rw [show v = V.non from r]; exact .base .non
  | bl b => cases h; rw [show v = V.bl b from r]; exact .base (.bl b)
  | int b => cases h; rw [show v = V.int b from r]; exact .base (.int b)
  | str b => cases h; rw [show v = V.str b from r]; exact .base (.str b)
  | tup xs =>
    cases h
    obtain ⟨a, vs, rfl, hq, _⟩ := r
    have hq' := sqT_mono ok.vis hq
    rcases hq' with (hq | ⟨o, hq⟩) | ⟨o, its, m, hk, hc, _⟩
    · exact .base (.tup hq)
    · exact .fTuple hq
    · exact .kTuple hk hc
  | _ => exact onL h
/-- isinstance(e, T) -/
def wIsi (T : String) (w : WPe) : WPe := fun env S Q X => w env S (fun d S1 => some! (tyN S1 d) fun n => some! (kitB n T) fun b => Q (.bl b) S1) X
theorem pd_isi {e2 : Expr} (he : PD X e w) (hc : PE X e2 (tC (.ty T))) (hm : X.mg "isinstance" = none) (hg : Gl X "isinstance" := by rfl)
    (hs : starEach [e, e2] X.env = (false, eval e X.env) :: starEach [e2] X.env := by rfl) (hs2 : starEach [e2] X.env = [(false, eval e2 X.env)] := by rfl) (hpl : (backTo pos (starEach [e2] X.env)).any (·.1) = false := by rfl) :
    PD X (.Call (.Name "isinstance" p) [e, e2] [] pos) (wIsi T w) :=
  ⟨fun Wx tk => PE.imp (pe_callB call_isi hg hm (by decide +kernel) (pa_cons (he.run Wx tk) (pa_cons hc pa_nil hs2) hs) (by decide) (by decide) hs hpl) fun σ H Q ⟨W, env, S, Q0, X1, ok, sl, hw, cv, cx⟩ => ⟨W, env, S, _, X1, ok, sl, hw, fun d S1 v W1 H1 h1 s1 ok1 r1 => by
    obtain ⟨n, e1, h1⟩ := some!_ex h1
    obtain ⟨b, e2, h1⟩ := some!_ex h1
    exact ⟨v, .ty T, _, _, b, rfl, .ty T, tyN_rep ok1 r1 e1, kit_ty e2, cv _ S1 _ W1 H1 h1 s1 ok1 rfl⟩, cx⟩⟩
end
end DL
set_option Elab.async false
set_option linter.all false
set_option maxRecDepth 100000
set_option maxHeartbeats 1000000
/-! The data layer, part f: fields, methods of lists, statements, defs. -/
namespace DL
open PySem PySem.Spec PyProof.Rows L2

/-! ### chains -/
section
variable {X : Cx} {a b c : Expr} {pos : Pos} {wa wb wc : WPe} {o o' : O2} {op op' : CmpOp}
theorem chain_go {K : PySem.W.Frag} {Wx : WX} {σ : L2.St} {H : Hp} {Q : VK} (h : lE K Wx (wChain o o' wa wb wc) σ H Q) : tChain (lOp K o) (lOp K o') (lE K Wx wa) (lE K Wx wb) (lE K Wx wc) σ H Q := by
  obtain ⟨W, env, S, Q0, X1, ok, sl, hw, cv, cx⟩ := h
  refine ⟨W, env, S, _, X1, ok, sl, hw, fun x S1 v W1 H1 h1 s1 ok1 r1 => ?_, cx⟩
  refine ⟨W1, env, S1, _, X1, ok1, sl.mono s1.vis, h1, fun y S2 u W2 H2 h2 s2 ok2 r2 => ?_, cx.mono s1⟩
  refine ⟨W2, S2, x, y, _, ok2, r1.mono s2.vis, r2, h2, fun k S3 t W3 H3 h3 s3 ok3 r3 => ?_⟩
  cases k with
  | bl k =>
    refine ⟨k, r3, ?_⟩
    cases k with
    | true =>
      refine iteT ⟨W3, env, S3, _, X1, ok3, sl.mono (s1.trans (s2.trans s3)).vis, (if_pos rfl).mp h3, fun z S4 v4 W4 H4 h4 s4 ok4 r4 => ?_, cx.mono (s1.trans (s2.trans s3))⟩
      exact ⟨W4, S4, y, z, Q0, ok4, r2.mono (s3.trans s4).vis, r4, h4, cv.mono (s1.trans (s2.trans (s3.trans s4)))⟩
    | false => exact iteF (cv _ S3 _ W3 H3 ((if_neg Bool.false_ne_true).mp h3) (s1.trans (s2.trans s3)) ok3 rfl)
  | _ => exact h3.elim
theorem pd_chain (ho : OpR X (compareOp op) (lOp X.K o)) (ho' : OpR X (compareOp op') (lOp X.K o')) (ha : PD X a wa) (hb : PD X b wb) (hc : PD X c wc) (hm : lastMarks [op, op'] [b, c] = false := by with_unfolding_all rfl) :
    PD X (.Compare a [op, op'] [b, c] pos) (wChain o o' wa wb wc) := ⟨fun Wx tk => PE.imp (pe_chain ho ho' (ha.run Wx tk) (hb.run Wx tk) (hc.run Wx tk) hm) fun _ _ _ h => chain_go h⟩
theorem pdt_chain (ho : OpR X (compareOp op) (lOp X.K o)) (ho' : OpR X (compareOp op') (lOp X.K o')) (ha : PD X a wa) (hb : PD X b wb) (hc : PD X c wc) (hm : lastMarks [op, op'] [b, c] = false := by with_unfolding_all rfl) :
    PDt X (.Compare a [op, op'] [b, c] pos) (wTest (wChain o o' wa wb wc)) := ⟨fun Wx tk => PT.imp (pt_chain ho ho' (ha.run Wx tk) (hb.run Wx tk) (hc.run Wx tk) hm) fun σ H Q ⟨W, env, S, Q0, X1, ok, sl, hw, cv, cx⟩ => chain_go ⟨W, env, S, _, X1, ok, sl, hw, fun d S1 v W1 H1 h1 s1 ok1 r1 => by
    cases d with
    | bl k =>
      have e : v = .bl k := r1
      exact ⟨k, e, cv k S1 W1 H1 h1 s1 ok1⟩
    | _ => exact h1.elim, cx⟩⟩
end

/-! ### fields -/
/-- field i of an instance of C with the fields N -/
def fldD (C : Addr) (N : List Str) (i : Nat) (S : Sto) (d : D) (k : D → Prop) : Prop := match d with
  | .ref a => match S a with
    | some (.ins C' N' xs) => (C' = C ∧ N' = N) ∧ some! (getV xs i) k
    | _ => False
  | .obj C' N' xs => (C' = C ∧ N' = N) ∧ some! xs[i]? k
  | _ => False
theorem fldD_rep {K : PySem.W.Frag} {W : Hp} {S : Sto} {H : Hp} {C : Addr} {N : List Str} {i : Nat} {f : Str} {d : D} {v : V} {k : D → Prop} (ok : Ok K W S H) (r : Rep K W d v) (hi : N[i]? = some f) (h : fldD C N i S d k) :
    ∃ a dx gs x u, v = .ref a ∧ H a = some (.ins C dx gs) ∧ gs.lookup f = some u ∧ Rep K W x u ∧ k x := by
  cases d with
  | ref a =>
    have h' : (match S a with | some (.ins C' N' xs) => (C' = C ∧ N' = N) ∧ some! (getV xs i) k | _ => False) := h
    cases q : S a with
    | none => rw [q] at h'; exact h'.elim
    | some mo =>
      rw [q] at h'
      cases mo with
      | ins C' N' xs =>
        obtain ⟨⟨rfl, rfl⟩, h'⟩ := h'
        obtain ⟨x, e, h'⟩ := some!_ex h'
        obtain ⟨o, e3, dx, gs, rfl, fr⟩ := ok.sto _ _ q
        obtain ⟨u, e5, ru⟩ := fr.is i f x hi e
        exact ⟨a, dx, gs, x, u, r, e3, e5, ru, h'⟩
      | _ => exact h'.elim
  | obj C' N' xs =>
    obtain ⟨⟨rfl, rfl⟩, h'⟩ := h
    obtain ⟨x, e, h'⟩ := some!_ex h'
    obtain ⟨a, dx, gs, vs, rfl, e2, e3, _, rr⟩ := r
    obtain ⟨u, e5, ru⟩ := rr.get e
    exact ⟨a, dx, gs, x, u, rfl, ok.vis _ _ e2, (e3 i f hi).trans e5, ru, h'⟩
  | _ => exact h.elim
def wFld (C : Addr) (N : List Str) (i : Nat) (w : WPe) : WPe := fun env S Q X => w env S (fun o S1 => fldD C N i S1 o fun d => Q d S1) X
/-- o.f = e -/
def setD (C : Addr) (N : List Str) (i : Nat) (S : Sto) (o : D) (d : D) (k : Sto → Prop) : Prop := match o with
  | .ref a => match S a with
    | some (.ins C' N' xs) => (C' = C ∧ N' = N) ∧ k (put S a (.ins C N (setV xs i d)))
    | _ => False
  | _ => False
theorem setD_rep {K : PySem.W.Frag} {W : Hp} {S : Sto} {H : Hp} {C : Addr} {N : List Str} {i : Nat} {f : Str} {o d : D} {v u : V} {k : Sto → Prop} (ok : Ok K W S H) (r : Rep K W o v) (rd : Rep K W d u) (hi : N[i]? = some f) (h : setD C N i S o d k) :
    ∃ a dx gs S', v = .ref a ∧ H a = some (.ins C dx gs) ∧ gs.length < 1000 ∧ Stp W S H W S' (upd H a (.ins C dx (putF f u gs))) ∧ Ok K W S' (upd H a (.ins C dx (putF f u gs))) ∧ k S' := by
  cases o with
  | ref a =>
    have h' : (match S a with | some (.ins C' N' xs) => (C' = C ∧ N' = N) ∧ k (put S a (.ins C N (setV xs i d))) | _ => False) := h
    cases q : S a with
    | none => rw [q] at h'; exact h'.elim
    | some mo =>
      rw [q] at h'
      cases mo with
      | ins C' N' xs =>
        obtain ⟨⟨rfl, rfl⟩, h'⟩ := h'
        obtain ⟨o, e3, dx, gs, rfl, fr⟩ := ok.sto _ _ q
        exact ⟨a, dx, gs, _, r, e3, fr.lt, ok.stC (m := .ins C' N' (setV xs i d)) q, ok.chg (m := .ins C' N' (setV xs i d)) q ⟨dx, _, rfl, fr.put hi rd⟩, h'⟩
      | _ => exact h'.elim
  | _ => exact h.elim

/-! ### statements -/
def wSeq (w u : WPs) : WPs := fun env S q => w env S { q with nx := fun e s => u e s q }
def wNext : WPs := fun env S q => q.nx env S
def xcQ (q : QS) (env : DE) : XQ := fun C fs S => q.xc C fs env S
def wSet (i : Nat) (w : WPe) : WPs := fun env S q => w env S (fun d S1 => q.nx (setV env i d) S1) (xcQ q env)
def wDrop (w : WPe) : WPs := fun env S q => w env S (fun _ S1 => q.nx env S1) (xcQ q env)
def wRet (w : WPe) : WPs := fun env S q => w env S q.rt (xcQ q env)
def wRetN : WPs := fun _ S q => q.rt .non S
def wIf (t : WPt) (u v : WPs) : WPs := fun env S q => t env S (fun k S1 => if k = true then u env S1 q else v env S1 q) (xcQ q env)
def wBreak : WPs := fun env S q => q.bk env S
def wCont : WPs := fun env S q => q.ct env S
def wAug (i : Nat) (o : O2) (w : WPe) : WPs := fun env S q => some! (getV env i) fun x => w env S (fun y S1 => o S1 x y fun z S2 => q.nx (setV env i z) S2) (xcQ q env)
def wSetF (C : Addr) (N : List Str) (i : Nat) (wo we : WPe) : WPs := fun env S q => we env S (fun d S1 => wo env S1 (fun o S2 => setD C N i S2 o d fun S3 => q.nx env S3) (xcQ q env)) (xcQ q env)
def wAugF (C : Addr) (N : List Str) (i : Nat) (op : O2) (wo we : WPe) : WPs := fun env S q => wo env S (fun o S1 => fldD C N i S1 o fun x => we env S1 (fun y S2 => op S2 x y fun z S3 => setD C N i S3 o z fun S4 => q.nx env S4) (xcQ q env)) (xcQ q env)
/-- o[i] = e for a list -/
def setIx (S : Sto) (o i d : D) (k : Sto → Prop) : Prop := match o, i with
  | .ref a, .int j => match S a with
    | some (.lst xs) => some! (ixN xs.length j) fun n => k (put S a (.lst (xs.set n d)))
    | _ => False
  | _, _ => False
def wSetI (wo wi we : WPe) : WPs := fun env S q => we env S (fun d S1 => wo env S1 (fun o S2 => wi env S2 (fun i S3 => setIx S3 o i d fun S4 => q.nx env S4) (xcQ q env)) (xcQ q env)) (xcQ q env)
section
variable {X : Cx} {e o i' : Expr} {st : Stmt} {rest : List Stmt} {pos pos' tpos : Pos} {w we wo wi : WPe} {ws u v : WPs} {t : WPt} {i : Nat} {x f : Str} {C : Addr} {N : List Str}
theorem CXc.of {K : PySem.W.Frag} {W : Hp} {S : Sto} {H : Hp} {Wx : WX} {q : QS} {D : Ends} {env : DE} {σ : L2.St} (h : CS K Wx W S H q D) (sl : Sl K W env σ) : CXc K W S H (xcQ q env) (fun c d H' => Wx c d σ H') :=
  fun C fs S' dd gs W' H' q1 s1 ok1 e1 r1 => h.xc C fs env S' dd gs σ W' H' q1 s1 ok1 (sl.mono s1.vis) e1 r1
theorem pss_nilD : PDss X [] wNext := ⟨fun Wx tk => PSs.imp pss_nil fun D σ H ⟨W, env, S, q, ok, sl, hl, hw, cs⟩ => cs.nx env S σ W H hw Stp.refl ok sl hl⟩
theorem pss_consD (h1 : PDs X st ws) (h2 : PDss X rest u) : PDss X (st :: rest) (wSeq ws u) :=
  ⟨fun Wx tk => PSs.imp (pss_cons (h1.run Wx tk) (h2.run Wx tk)) fun D σ H ⟨W, env, S, q, ok, sl, hl, hw, cs⟩ =>
    ⟨W, env, S, _, ok, sl, hl, hw, fun e S1 σ1 W1 H1 h1 s1 ok1 sl1 hl1 => ⟨W1, e, S1, q, ok1, sl1, hl1, h1, cs.mono s1⟩, cs.rt, cs.bk, cs.ct, cs.xc⟩⟩
theorem pss_oneD (h1 : PDs X st ws) : PDss X [st] ws := ⟨fun Wx tk => pss_one (h1.run Wx tk)⟩
theorem pds_set (hN : X.N.Nodup) (hi : X.N[i]? = some x) (hx : Loc X.env.scope x) (he : PD X e w) (hs : swapsWith e (some (.Name x pos')) pos.line X.env = pure false := by rfl) (hf : X.fn x = true ∨ X.env.scope.names.lookup x = some .local := by first | exact .inl rfl | exact .inr rfl | assumption) :
    PDs X (.Assign [.Name x pos'] e pos) (wSet i w) :=
  ⟨fun Wx tk => PS.imp (ps_set hN hi hx (he.run Wx tk) hs hf) fun D σ H ⟨W, env, S, q, ok, sl, hl, hw, cs⟩ => ⟨W, env, S, _, _, ok, sl, hw, fun d S1 v W1 H1 h1 s1 ok1 r1 =>
    cs.nx _ S1 _ W1 H1 h1 s1 ok1 ((sl.mono s1.vis).set (by rw [hl]; exact lt_of_some hi) r1) (by rw [List.length_set]; exact hl), CXc.of cs sl⟩⟩
theorem pds_drop (he : PD X e w) (hs : swapsWith e none pos.line X.env = pure false := by rfl) : PDs X (.Expr e pos) (wDrop w) :=
  ⟨fun Wx tk => PS.imp (ps_expr (he.run Wx tk) hs) fun D σ H ⟨W, env, S, q, ok, sl, hl, hw, cs⟩ => ⟨W, env, S, _, _, ok, sl, hw, fun d S1 v W1 H1 h1 s1 ok1 r1 => cs.nx _ S1 _ W1 H1 h1 s1 ok1 (sl.mono s1.vis) hl, CXc.of cs sl⟩⟩
theorem pds_ret (he : PD X e w) : PDs X (.Return (some e) pos) (wRet w) :=
  ⟨fun Wx tk => PS.imp (ps_ret (he.run Wx tk)) fun D σ H ⟨W, env, S, q, ok, sl, hl, hw, cs⟩ => ⟨W, env, S, _, _, ok, sl, hw, fun d S1 v W1 H1 h1 s1 ok1 r1 => cs.rt d S1 v W1 H1 h1 s1 ok1 r1, CXc.of cs sl⟩⟩
theorem pds_retN : PDs X (.Return none pos) wRetN := ⟨fun Wx tk => PS.imp ps_retN fun D σ H ⟨W, env, S, q, ok, sl, hl, hw, cs⟩ => cs.rt .non S .non W H hw Stp.refl ok rfl⟩
theorem pds_pass : PDs X (.Pass pos) wNext := ⟨fun Wx tk => PS.imp ps_pass fun D σ H ⟨W, env, S, q, ok, sl, hl, hw, cs⟩ => cs.nx env S σ W H hw Stp.refl ok sl hl⟩
theorem pds_doc {y : Str} {j : Nat} : PDs X (.Expr (.Constant (.str y) j pos) pos') wNext := ⟨fun Wx tk => PS.imp ps_doc fun D σ H ⟨W, env, S, q, ok, sl, hl, hw, cs⟩ => cs.nx env S σ W H hw Stp.refl ok sl hl⟩
theorem pds_break : PDs X (.Break pos) wBreak := ⟨fun Wx tk => PS.imp ps_break fun D σ H ⟨W, env, S, q, ok, sl, hl, hw, cs⟩ => cs.bk env S σ W H hw Stp.refl ok sl hl⟩
theorem pds_cont : PDs X (.Continue pos) wCont := ⟨fun Wx tk => PS.imp ps_continue fun D σ H ⟨W, env, S, q, ok, sl, hl, hw, cs⟩ => cs.ct env S σ W H hw Stp.refl ok sl hl⟩
theorem pds_if {a b : List Stmt} (hc : PDt X e t) (ha : PDss X a u) (hb : PDss X b v) : PDs X (.If e a b pos) (wIf t u v) :=
  ⟨fun Wx tk => PS.imp (ps_if (hc.run Wx tk) (ha.run Wx tk) (hb.run Wx tk)) fun D σ H ⟨W, env, S, q, ok, sl, hl, hw, cs⟩ => ⟨W, env, S, _, _, ok, sl, hw, fun k S1 W1 H1 h1 s1 ok1 => by
    cases k with
    | true => exact iteT ⟨W1, env, S1, q, ok1, sl.mono s1.vis, hl, (if_pos rfl).mp h1, cs.mono s1⟩
    | false => exact iteF ⟨W1, env, S1, q, ok1, sl.mono s1.vis, hl, (if_neg Bool.false_ne_true).mp h1, cs.mono s1⟩, CXc.of cs sl⟩⟩
theorem pds_aug {op : Operator} {ob : O2} (hN : X.N.Nodup) (hi : X.N[i]? = some x) (hx : Loc X.env.scope x) (he : PD X e w) (ho : OpR X (inplaceOp op) (lOp X.K ob)) (hf : X.fn x = true ∨ X.env.scope.names.lookup x = some .local := by first | exact .inl rfl | exact .inr rfl | assumption) :
    PDs X (.AugAssign (.Name x pos') op e pos) (wAug i ob w) :=
  ⟨fun Wx tk => PS.imp (ps_aug hN hi hx (he.run Wx tk) ho hf) fun D σ H ⟨W, env, S, q, ok, sl, hl, hw, cs⟩ => by
    obtain ⟨d, e1, hw⟩ := some!_ex hw
    obtain ⟨v, e2, rv⟩ := sl i d e1
    refine ⟨v, e2, W, env, S, _, _, ok, sl, hw, fun y S1 u W1 H1 h1 s1 ok1 r1 => ?_, CXc.of cs sl⟩
    refine ⟨W1, S1, d, y, _, ok1, rv.mono s1.vis, r1, h1, fun z S2 t W2 H2 h2 s2 ok2 r2 => ?_⟩
    exact cs.nx _ S2 _ W2 H2 h2 (s1.trans s2) ok2 ((sl.mono (s1.trans s2).vis).set (by rw [hl]; exact lt_of_some hi) r2) (by rw [List.length_set]; exact hl)⟩
theorem pd_fld (c : Cls X.K C) (n : NoAttr X.K C f) (hi : N[i]? = some f) (he : PD X e w) (hb : attributeBase e f X.env (eval e X.env) = eval e X.env := by rfl) : PD X (.Attribute e f pos) (wFld C N i w) :=
  ⟨fun Wx tk => PE.imp (pe_fld (he.run Wx tk) hb) fun σ H Q ⟨W, env, S, Q0, X1, ok, sl, hw, cv, cx⟩ => ⟨W, env, S, _, X1, ok, sl, hw, fun d S1 v W1 H1 h1 s1 ok1 r1 => by
    obtain ⟨a, dx, gs, y, u, rfl, e1, e2, ru, h2⟩ := fldD_rep ok1 r1 hi h1
    exact ⟨a, C, dx, gs, u, rfl, e1, c, n, e2, cv y S1 u W1 H1 h2 s1 ok1 ru⟩, cx⟩⟩
theorem pds_setF (c : Cls X.K C) (n : NoAttr X.K C f) (hi : N[i]? = some f) (ho : PD X o wo) (he : PD X e we) (hs : swapsWith e (some (.Attribute o f pos')) pos.line X.env = pure false := by rfl) : PDs X (.Assign [.Attribute o f pos'] e pos) (wSetF C N i wo we) :=
  ⟨fun Wx tk => PS.imp (ps_fld (ho.run Wx tk) (he.run Wx tk) hs) fun D σ H ⟨W, env, S, q, ok, sl, hl, hw, cs⟩ => ⟨W, env, S, _, _, ok, sl, hw, fun d S1 v W1 H1 h1 s1 ok1 r1 =>
    ⟨W1, env, S1, _, _, ok1, sl.mono s1.vis, h1, fun y S2 u W2 H2 h2 s2 ok2 r2 => by
      obtain ⟨a, dx, gs, S3, rfl, e1, e2, st3, ok3, h3⟩ := setD_rep ok2 r2 (r1.mono s2.vis) hi h2
      exact ⟨a, C, dx, gs, rfl, e1, c, n, e2, cs.nx _ S3 _ W2 _ h3 (s1.trans (s2.trans st3)) ok3 (sl.mono (s1.trans s2).vis) hl⟩, CXc.of (cs.mono s1) (sl.mono s1.vis)⟩, CXc.of cs sl⟩⟩
theorem inop_of {op : Operator} {rd : V → V → Hp → VK → Prop} (h : OpR X (inplaceOp op) rd) : InOp X op rd := fun pins s σ H x y u v Q I rx ry q => h pins s σ H x y u v Q I rx ry q
theorem pds_augF {op : Operator} {ob : O2} (c : Cls X.K C) (n : NoAttr X.K C f) (hi : N[i]? = some f) (ho : PD X o wo) (he : PD X e we) (hop : OpR X (inplaceOp op) (lOp X.K ob)) : PDs X (.AugAssign (.Attribute o f tpos) op e pos) (wAugF C N i ob wo we) :=
  ⟨fun Wx tk => PS.imp (ps_fldaug (ho.run Wx tk) (he.run Wx tk) (inop_of hop)) fun D σ H ⟨W, env, S, q, ok, sl, hl, hw, cs⟩ => ⟨W, env, S, _, _, ok, sl, hw, fun d S1 v W1 H1 h1 s1 ok1 r1 => by
    obtain ⟨a, dx, gs, y, u, rfl, e1, e2, ru, h2⟩ := fldD_rep ok1 r1 hi h1
    refine ⟨a, C, dx, gs, u, rfl, e1, c, n, e2, W1, env, S1, _, _, ok1, sl.mono s1.vis, h2, fun z S2 t W2 H2 h3 s2 ok2 r2 => ?_, CXc.of (cs.mono s1) (sl.mono s1.vis)⟩
    refine ⟨W2, S2, y, z, _, ok2, ru.mono s2.vis, r2, h3, fun z2 S3 t2 W3 H3 h4 s3 ok3 r3 => ?_⟩
    obtain ⟨a2, dx2, gs2, S4, e3, e4, e5, st4, ok4, h5⟩ := setD_rep ok3 (r1.mono (s2.trans s3).vis) r3 hi h4
    cases e3
    exact ⟨dx2, gs2, e4, e5, cs.nx _ S4 _ W3 _ h5 (s1.trans (s2.trans (s3.trans st4))) ok4 (sl.mono (s1.trans (s2.trans s3)).vis) hl⟩, CXc.of cs sl⟩⟩
theorem setIx_rep {K : PySem.W.Frag} {W : Hp} {S : Sto} {H : Hp} {o i d : D} {v vi u : V} {k : Sto → Prop} (ok : Ok K W S H) (r : Rep K W o v) (ri : Rep K W i vi) (rd : Rep K W d u) (h : setIx S o i d k) :
    ∃ a xs n j S', v = .ref a ∧ vi = .int j ∧ H a = some (.lst xs) ∧ ixN xs.length j = some n ∧ Stp W S H W S' (upd H a (.lst (xs.set n u))) ∧ Ok K W S' (upd H a (.lst (xs.set n u))) ∧ k S' := by
  cases o with
  | ref a =>
    cases i with
    | int j =>
      have h' : (match S a with | some (.lst xs) => some! (ixN xs.length j) fun n => k (put S a (.lst (xs.set n d))) | _ => False) := h
      cases q : S a with
      | none => rw [q] at h'; exact h'.elim
      | some mo =>
        rw [q] at h'
        cases mo with
        | lst xs =>
          obtain ⟨n, e1, h'⟩ := some!_ex h'
          obtain ⟨o, e3, vs, rfl, rv⟩ := ok.sto _ _ q
          exact ⟨a, vs, n, j, _, r, ri, e3, by rw [rv.length]; exact e1, ok.stC (m := .lst (xs.set n d)) q, ok.chg (m := .lst (xs.set n d)) q ⟨_, rfl, rv.set rd n⟩, h'⟩
        | _ => exact h'.elim
    | _ => exact h.elim
  | _ => exact h.elim
theorem pds_setI {ip : Expr} {p2 : Pos} (ho : PD X o wo) (hi : PD X ip wi) (he : PD X e we) (hs : swapsWithSole [.Subscript o ip p2] e pos.line X.env = pure false := by rfl) (hw : swappedStores [.Subscript o ip p2] e X.env = pure none := by rfl)
    (h1 : (assignEach [.Subscript o ip p2] X.env).map (·.2) = [assign (.Subscript o ip p2) X.env] := by rfl)
    (ha : ∀ v, assign (.Subscript o ip p2) X.env v = (do
      let ov ← holding [v] (eval o X.env)
      let iv ← holding [v, ov] (eval ip X.env)
      standAt p2
      holding [v, ov, iv] (setItem ov iv v)
      release [v, ov, iv] []) := by intro _; rfl) : PDs X (.Assign [.Subscript o ip p2] e pos) (wSetI wo wi we) :=
  ⟨fun Wx tk => PS.imp (ps_asg (he.run Wx tk) (pg_sub (ho.run Wx tk) (hi.run Wx tk) set_list ha) hs hw h1) fun D σ H ⟨W, env, S, q, ok, sl, hl, hw, cs⟩ => ⟨W, env, S, _, _, ok, sl, hw, fun d S1 v W1 H1 h1 s1 ok1 r1 =>
    ⟨W1, env, S1, _, _, ok1, sl.mono s1.vis, h1, fun o1 S2 u W2 H2 h2 s2 ok2 r2 => ⟨W2, env, S2, _, _, ok2, sl.mono (s1.trans s2).vis, h2, fun i1 S3 t W3 H3 h3 s3 ok3 r3 => by
      obtain ⟨a, xs, n, j, S4, rfl, rfl, e1, e2, st4, ok4, h4⟩ := setIx_rep ok3 (r2.mono s3.vis) r3 (r1.mono (s2.trans s3).vis) h3
      exact ⟨a, xs, j, n, rfl, rfl, e1, e2, cs.nx _ S4 _ W3 _ h4 (s1.trans (s2.trans (s3.trans st4))) ok4 (sl.mono (s1.trans (s2.trans s3)).vis) hl⟩, CXc.of (cs.mono (s1.trans s2)) (sl.mono (s1.trans s2).vis)⟩, CXc.of (cs.mono s1) (sl.mono s1.vis)⟩, CXc.of cs sl⟩⟩
end

/-! ### methods of a mutable list -/
def mutL (S : Sto) (d : D) (k : Addr → List D → Prop) : Prop := match d with
  | .ref a => match S a with
    | some (.lst xs) => k a xs
    | _ => False
  | _ => False
theorem mutL_rep {K : PySem.W.Frag} {W : Hp} {S : Sto} {H : Hp} {d : D} {v : V} {k : Addr → List D → Prop} (ok : Ok K W S H) (r : Rep K W d v) (h : mutL S d k) : ∃ a xs vs, d = .ref a ∧ v = .ref a ∧ S a = some (.lst xs) ∧ H a = some (.lst vs) ∧ Reps K W xs vs ∧ k a xs := by
  cases d with
  | ref a =>
    have h' : (match S a with | some (.lst xs) => k a xs | _ => False) := h
    cases q : S a with
    | none => rw [q] at h'; exact h'.elim
    | some mo =>
      rw [q] at h'
      cases mo with
      | lst xs =>
        obtain ⟨o, e3, vs, rfl, rv⟩ := ok.sto _ _ q
        exact ⟨a, xs, vs, rfl, r, q, e3, rv, h'⟩
      | _ => exact h'.elim
  | _ => exact h.elim
def lM (K : PySem.W.Frag) (o : OM) : V → List V → Hp → VK → Prop := fun x xs H Q => ∃ W S d ds Q0, Ok K W S H ∧ Rep K W d x ∧ Reps K W ds xs ∧ o S d ds Q0 ∧ CV K W S H Q0 Q
def wMt (o : OM) (wo : WPe) (wa : WPa) : WPe := fun env S Q X => wo env S (fun x S1 => mutL S1 x fun _ _ => wa env S1 (fun ds S2 => o S2 x ds Q) X) X
theorem MtR.imp {X : Cx} {id : String} {r r' : V → List V → Hp → VK → Prop} (h : MtR X id r) (i : ∀ x xs H Q, r' x xs H Q → r x xs H Q) : MtR X id r' := fun pins s σ H x xs v us Q I rx rs q => h pins s σ H x xs v us Q I rx rs (i _ _ _ _ q)
section
variable {X : Cx} {o e : Expr} {es : List Expr} {name : Str} {apos cpos : Pos} {mid : String} {om : OM} {wo : WPe} {wa : WPa}
theorem pd_lm (slot : Slot "list" name mid) (hty : typeOf (.builtin mid) = pure (.type "method_descriptor")) (hm : MtR X mid (lM X.K om)) (ho : PD X o wo) (ha : PDa X (e :: es) wa)
    (hbase : attributeBase o name X.env (eval o X.env) = eval o X.env := by rfl)
    (hfew : ((backTo cpos (starEach (e :: es) X.env)).all (fun x => !x.1) && (backToKw cpos (keywordEach [] X.env)).all (fun x => x.1.isSome)
      && decide ((e :: es).length + ([] : List Keyword).length + (if ([] : List Keyword).isEmpty then 0 else 1) < 30)) = true := by rfl)
    (hline : (apos.endLine == cpos.line) = true := by rfl) (hs : starEach (e :: es) X.env = (false, eval e X.env) :: starEach es X.env := by rfl) (hplain : (backTo cpos (starEach es X.env)).any (·.1) = false := by rfl) :
    PD X (.Call (.Attribute o name apos) (e :: es) [] cpos) (wMt om wo wa) :=
  ⟨fun Wx tk => PE.imp (pe_bm PySem.F.plainAttrs_list slot hty hm (ho.run Wx tk) (ha.run Wx tk) hbase hfew hline hs hplain) fun σ H Q ⟨W, env, S, Q0, X1, ok, sl, hw, cv, cx⟩ => ⟨W, env, S, _, X1, ok, sl, hw, fun d S1 v W1 H1 h1 s1 ok1 r1 => by
    obtain ⟨a, xs, vs, rfl, rfl, e1, e2, rv, h2⟩ := mutL_rep ok1 r1 h1
    exact ⟨.inl ⟨rfl, vs, SqL.of e2⟩, W1, env, S1, _, X1, ok1, sl.mono s1.vis, h2, fun ds S2 us W2 H2 h3 s2 ok2 r2 => ⟨W2, S2, _, ds, Q0, ok2, r1.mono s2.vis, r2, h3, cv.mono (s1.trans s2)⟩, cx.mono s1⟩, cx⟩⟩
theorem pd_lm0 (slot : Slot "list" name mid) (hty : typeOf (.builtin mid) = pure (.type "method_descriptor")) (hm : MtR X mid (lM X.K om)) (ho : PD X o wo)
    (hbase : attributeBase o name X.env (eval o X.env) = eval o X.env := by rfl) (hline : (apos.endLine == cpos.line) = true := by rfl) :
    PD X (.Call (.Attribute o name apos) [] [] cpos) (wMt om wo wNil) :=
  ⟨fun Wx tk => PE.imp (pe_bm0 PySem.F.plainAttrs_list slot hty hm (ho.run Wx tk) hbase hline) fun σ H Q ⟨W, env, S, Q0, X1, ok, sl, hw, cv, cx⟩ => ⟨W, env, S, _, X1, ok, sl, hw, fun d S1 v W1 H1 h1 s1 ok1 r1 => by
    obtain ⟨a, xs, vs, rfl, rfl, e1, e2, rv, h2⟩ := mutL_rep ok1 r1 h1
    exact ⟨.inl ⟨rfl, vs, SqL.of e2⟩, W1, S1, _, [], Q0, ok1, r1, rfl, h2, cv.mono s1⟩, cx⟩⟩
def oAppend : OM := fun S d ds Q => mutL S d fun a xs => one ds fun e => xs.length < sizeLine ∧ Q .non (put S a (.lst (xs ++ [e])))
theorem md_append : MtR X "list.append" (lM X.K oAppend) := MtR.imp mt_append fun x vs H Q ⟨W, S, d, ds, Q0, ok, r, rs, ho, cv⟩ => by
  obtain ⟨a, xs, us, rfl, rfl, e1, e2, rv, h⟩ := mutL_rep ok r ho
  obtain ⟨y, rfl, hz, h⟩ := one_ex h
  obtain ⟨t, rfl, rt⟩ := reps1 rs
  exact ⟨a, us, t, rfl, rfl, e2, by rw [rv.length]; exact hz, cv _ _ _ _ _ h (ok.stC e1) (ok.chg e1 ⟨_, rfl, rv.append (Reps.one rt)⟩) rfl⟩
def oExtend : OM := fun S d ds Q => mutL S d fun a xs => one ds fun e => some! (seqM S e) fun ys => xs.length + ys.length ≤ sizeLine ∧ Q .non (put S a (.lst (xs ++ ys)))
theorem md_extend : MtR X "list.extend" (lM X.K oExtend) := MtR.imp mt_extend fun x vs H Q ⟨W, S, d, ds, Q0, ok, r, rs, ho, cv⟩ => by
  obtain ⟨a, xs, us, rfl, rfl, e1, e2, rv, h⟩ := mutL_rep ok r ho
  obtain ⟨y, rfl, h⟩ := one_ex h
  obtain ⟨ys, e3, hz, h⟩ := some!_ex h
  obtain ⟨t, rfl, rt⟩ := reps1 rs
  obtain ⟨b, zs, rfl, e4, rz⟩ := seqM_rep ok rt e3
  exact ⟨a, b, us, zs, rfl, rfl, e2, e4, by rw [rv.length, rz.length]; exact hz, cv _ _ _ _ _ h (ok.stC e1) (ok.chg e1 ⟨_, rfl, rv.append rz⟩) rfl⟩
theorem reps_dropLast {K : PySem.W.Frag} {W : Hp} {xs : List D} {vs : List V} (r : Reps K W xs vs) : Reps K W xs.dropLast vs.dropLast := by
  rw [List.dropLast_eq_take, List.dropLast_eq_take, r.length]
  exact r.take _
def oPop : OM := fun S d ds Q => mutL S d fun a xs => ds = [] ∧ some! xs[xs.length - 1]? fun y => Q y (put S a (.lst xs.dropLast))
theorem md_pop : MtR X "list.pop" (lM X.K oPop) := MtR.imp mt_pop fun x vs H Q ⟨W, S, d, ds, Q0, ok, r, rs, ho, cv⟩ => by
  obtain ⟨a, xs, us, rfl, rfl, e1, e2, rv, rfl, h⟩ := mutL_rep ok r ho
  obtain ⟨y, e3, h⟩ := some!_ex h
  obtain ⟨t, e4, rt⟩ := rv.get e3
  have e5 : vs = [] := rs
  exact ⟨a, us, t, rfl, e5, e2, by rw [rv.length]; exact e4, cv _ _ _ _ _ h (ok.stC e1) (ok.chg e1 ⟨_, rfl, reps_dropLast rv⟩) rt⟩
end

/-! ### defs -/
section
variable {P : Program} {w : World} {K : PySem.W.Frag} {mg : Str → Option Value} {base : Heap}
def startD (N : List Str) (ds : List D) : DE := ds.map some ++ List.replicate (N.length - ds.length) none
theorem getV_map : ∀ {ds : List D} {m : Nat} {i : Nat} {d : D}, getV (ds.map some ++ List.replicate m none) i = some d → ds[i]? = some d
  | [], 0, i, d, h => by cases h
  | [], m + 1, 0, d, h => by cases h
  | [], m + 1, i + 1, d, h => by
    have h' := getV_map (ds := []) (m := m) (i := i) h
    simp at h'
  | x :: r, m, 0, d, h => h
  | x :: r, m, i + 1, d, h => getV_map (ds := r) (m := m) (i := i) h
theorem sl_start {W : Hp} {N : List Str} {ds : List D} {vs : List V} (r : Reps K W ds vs) : Sl K W (startD N ds) (L2.start N vs) := fun i d h => by
  obtain ⟨v, e, rv⟩ := r.get (getV_map h)
  refine ⟨v, ?_, rv⟩
  unfold L2.start
  rw [List.getElem?_append_left (by rw [List.length_map]; exact lt_of_some e), List.getElem?_map, e]
  rfl
/-- THE RULE for a def: its body as a derivation, and its reading over data -/
theorem Fun.okD {x qual : Str} {st : Stmt} {f : Addr} {fd : FuncData} {N ps : List Str} {k : Nat} {spec : Ctr} (F : Fun K x qual st f fd) (S : FnScope N ps (defScope st)) (hle : ps.length ≤ N.length)
    (len : ∀ ds S Q E, spec ds S Q E → ds.length = ps.length)
    (hbody : ∀ (cdv : Value) (A : Around) (outer : List Env) (s : Shared) (H : Hp) (E : XK), Room k (A.deeper (envOfC qual (defScope st) s.heap.objs.size f cdv)) →
      ∃ ws, PDss (cxOf (L2.CX P w) P w K mg base N qual (defScope st) f cdv A outer s H E) (defBody st) ws ∧ ∀ ds S Q X1, spec ds S Q X1 → ws (startD N ds) S { nx := fun _ S' => Q .non S', rt := Q, bk := fun _ _ => False, ct := fun _ _ => False, xc := fun C fs _ S' => X1 C fs S' }) :
    FnD P w K mg base (k + 1) f fd ps spec := by
  refine F.okX S (fun vs H Q E ⟨W, S', ds, Q0, X1, ok, r, h, _⟩ => ?_) (fun cdv A outer s H vs Q E hr ⟨W, S', ds, Q0, X1, ok, r, h, cv, cx⟩ => ?_)
  · rw [r.length]; exact len ds S' Q0 X1 h
  · obtain ⟨ws, hp, hq⟩ := hbody cdv A outer s H E hr
    refine ⟨_, hp.run (fun c d σ H' => E c d H') (takes_of rfl rfl rfl rfl), W, _, S', _, ok, sl_start r, ?_, hq ds S' Q0 X1 h, ?_, ?_, ?_, ?_, ?_⟩
    · have e := r.length
      have e2 := len ds S' Q0 X1 h
      show (L2.start N vs).length = N.length
      unfold L2.start
      rw [List.length_append, List.length_map, List.length_replicate]
      omega
    · exact fun _ S1 σ1 W1 H1 h1 s1 ok1 _ _ => cv .non S1 .non W1 H1 h1 s1 ok1 rfl
    · exact fun d S1 v W1 H1 h1 s1 ok1 r1 => cv d S1 v W1 H1 h1 s1 ok1 r1
    · exact fun _ _ _ _ _ h1 _ _ _ => h1.elim
    · exact fun _ _ _ _ _ h1 _ _ _ => h1.elim
    · exact fun C fs _ S1 dd gs _ W1 H1 h1 s1 ok1 _ e1 r1 => cx C fs S1 dd gs W1 H1 h1 s1 ok1 e1 r1
end
end DL
set_option Elab.async false
set_option linter.all false
set_option maxRecDepth 100000
set_option maxHeartbeats 1000000
/-! The data layer, part g: targets, loops, comprehensions. -/
namespace DL
open PySem PySem.Spec PyProof.Rows L2

/-! ### targets: names and tuples of names -/
abbrev WPg := D → DE → (DE → Prop) → Prop
def gN (i : Nat) : WPg := fun d env k => k (setV env i d)
def gAll : List WPg → List D → DE → (DE → Prop) → Prop
  | [], [], env, k => k env
  | g :: gs, d :: ds, env, k => g d env fun e => gAll gs ds e k
  | _, _, _, _ => False
def gT (gs : List WPg) : WPg := fun d env k => match d with
  | .tup xs => xs.length = gs.length ∧ gAll gs xs env k
  | _ => False
def lG (K : PySem.W.Frag) (n : Nat) (vs : List Nat) (t : WPg) : TG := fun v σ H Q => ∃ W S env d k, Ok K W S H ∧ Sl K W env σ ∧ σ.length = n ∧ Rep K W d v ∧ t d env k ∧
  ∀ e σ', k e → Sl K W e σ' → σ'.length = n → wipe σ' vs = wipe σ vs → Q σ' H
def lGs (K : PySem.W.Frag) (n : Nat) (vs : List Nat) (ts : List WPg) : TGs := fun v σ H Q => ∃ W S env d k, Ok K W S H ∧ Sl K W env σ ∧ σ.length = n ∧ Reps K W d v ∧ gAll ts d env k ∧
  ∀ e σ', k e → Sl K W e σ' → σ'.length = n → wipe σ' vs = wipe σ vs → Q σ' H
structure PDg (X : Cx) (tg : Expr) (vs : List Nat) (t : WPg) : Prop where
  run : PG X tg (lG X.K X.N.length vs t)
structure PDgs (X : Cx) (tg : List Expr) (vs : List Nat) (t : List WPg) : Prop where
  run : PGs X tg (lGs X.K X.N.length vs t)
theorem wipe_set : ∀ {vs : List Nat} {σ : L2.St} {i : Nat} {o : Option V}, i ∈ vs → wipe (σ.set i o) vs = wipe σ vs
  | [], _, _, _, h => by cases h
  | v :: vs, σ, i, o, h => by
    show (wipe (σ.set i o) vs).set v none = (wipe σ vs).set v none
    by_cases hi : i ∈ vs
    · rw [wipe_set hi]
    · have e : i = v := by
        cases h with
        | head => rfl
        | tail _ h => exact absurd h hi
      subst e
      have key : ∀ {us : List Nat} {τ : L2.St}, i ∉ us → wipe (τ.set i o) us = (wipe τ us).set i o := fun {us τ} => by
        induction us with
        | nil => intro _; rfl
        | cons u us ih =>
          intro hu
          have h1 : i ≠ u := fun z => hu (by rw [z]; exact List.mem_cons_self)
          show (wipe (τ.set i o) us).set u none = ((wipe τ us).set u none).set i o
          rw [ih (fun z => hu (List.mem_cons_of_mem _ z)), List.set_comm _ _ h1]
      rw [key hi, List.set_set]
theorem PG.imp {X : Cx} {tg : Expr} {g g' : TG} (h : PG X tg g) (i : ∀ v σ H Q, g' v σ H Q → g v σ H Q) : PG X tg g' := ⟨fun pins s σ H v u Q I r q => h.run pins s σ H v u Q I r (i _ _ _ _ q)⟩
theorem PGs.imp {X : Cx} {tg : List Expr} {g g' : TGs} (h : PGs X tg g) (i : ∀ v σ H Q, g' v σ H Q → g v σ H Q) : PGs X tg g' := ⟨fun pins s σ H v u Q I r q => h.run pins s σ H v u Q I r (i _ _ _ _ q)⟩
section
variable {X : Cx} {pos : Pos} {vs : List Nat} {x : Str} {i : Nat} {e : Expr} {es : List Expr} {t : WPg} {ts : List WPg}
theorem pdg_name (hN : X.N.Nodup) (hi : X.N[i]? = some x) (hx : Loc X.env.scope x) (hv : i ∈ vs) (hf : X.fn x = true ∨ X.env.scope.names.lookup x = some .local := by first | exact .inl rfl | exact .inr rfl | assumption) : PDg X (.Name x pos) vs (gN i) :=
  ⟨PG.imp (pg_name hN hi hx hf) fun v σ H Q ⟨W, S, env, d, k, ok, sl, hl, r, ht, hq⟩ => hq _ _ ht (sl.set (by rw [hl]; exact lt_of_some hi) r) (by rw [List.length_set]; exact hl) (wipe_set hv)⟩
theorem pdgs_nil : PDgs X [] vs [] := ⟨PGs.imp pgs_nil fun v σ H Q ⟨W, S, env, d, k, ok, sl, hl, r, ht, hq⟩ => by
  cases d with
  | nil => exact ⟨r, hq _ _ ht sl hl rfl⟩
  | cons _ _ => exact ht.elim⟩
theorem pdgs_cons (h1 : PDg X e vs t) (h2 : PDgs X es vs ts) (hs : (assignEach (e :: es) X.env).map (·.2) = assign e X.env :: (assignEach es X.env).map (·.2) := by rfl) : PDgs X (e :: es) vs (t :: ts) :=
  ⟨PGs.imp (pgs_cons h1.run h2.run hs) fun v σ H Q ⟨W, S, env, d, k, ok, sl, hl, r, ht, hq⟩ => by
    cases d with
    | nil => exact ht.elim
    | cons d ds =>
      obtain ⟨u, us, e1, r1, r2⟩ := r
      refine ⟨u, us, e1, W, S, env, d, _, ok, sl, hl, r1, ht, fun e σ1 h1 sl1 hl1 hw1 => ⟨W, S, e, ds, k, ok, sl1, hl1, r2, h1, fun e2 σ2 h2 sl2 hl2 hw2 => hq e2 σ2 h2 sl2 hl2 (hw2.trans hw1)⟩⟩⟩
theorem pdg_tup {z : Nat} (hc : X.calm = true) (h : PDgs X es vs ts) (hn : (assignEach es X.env).length = ts.length := by rfl) (hst : (assignEach es X.env).findIdx? (·.1) = none := by rfl) : PDg X (.Tuple es z pos) vs (gT ts) :=
  ⟨PG.imp (pg_tup hc h.run hn hst) fun v σ H Q ⟨W, S, env, d, k, ok, sl, hl, r, ht, hq⟩ => by
    cases d with
    | tup xs =>
      obtain ⟨a, us, e1, e2, e3⟩ := r
      exact ⟨a, us, e1, sqT_mono ok.vis e2, by rw [e3.length]; exact ht.1, W, S, env, xs, k, ok, sl, hl, e3, ht.2, hq⟩
    | _ => exact ht.elim⟩
end

/-! ### what is walked -/
abbrev WPi := DE → Sto → (List D → (Sto → Prop) → Sto → Prop) → XQ → Prop
structure JOk (K : PySem.W.Frag) (J : It) (W0 : Hp) (items : List D) (g : Sto → Prop) : Prop where
  step : ∀ (i : Nat) W S H d, items[i]? = some d → Same W0 W → Ok K W S H → g S → J.go i H ∧ ∀ x H', J.yld i H x H' → ∃ W', Stp W S H W' S H' ∧ Ok K W' S H' ∧ Rep K W' d x
  stop : ∀ W S H, Same W0 W → Ok K W S H → g S → J.stop items.length H
def lI (K : PySem.W.Frag) (Wx : WX) (w : WPi) : TI := fun σ H R => ∃ W env S Q0 X0, Ok K W S H ∧ Sl K W env σ ∧ w env S Q0 X0 ∧
  (∀ items g S' W' H' J, Q0 items g S' → Stp W S H W' S' H' → Ok K W' S' H' → JOk K J W' items g → R J H') ∧ CXc K W S H X0 (fun c d H' => Wx c d σ H')
structure PDi (X : Cx) (tg e : Expr) (w : WPi) : Prop where
  run : ∀ Wx, Takes X Wx → PI X tg e (lI X.K Wx w)
theorem PI.imp {X : Cx} {tg e : Expr} {t t' : TI} (h : PI X tg e t) (i : ∀ σ H R, t' σ H R → t σ H R) : PI X tg e t' := ⟨fun pins s σ H R I q => h.run pins s σ H R I (i _ _ _ q)⟩
/-- a list or a tuple -/
def iSeq (K : PySem.W.Frag) (tl : TE) : TI := fun σ H R => tl σ H fun x H1 => ∃ a, x = .ref a ∧ (((∃ xs, SqL K H1 a xs) ∧ R (Itl K a) H1) ∨ ((∃ xs, SqT K H1 a xs) ∧ R (Itt K a) H1))
theorem pi_seq {X : Cx} {tg l : Expr} {tl : TE} (hl : PE X l tl) : PI X tg l (iSeq X.K tl) := by
  refine ⟨fun pins s σ H R I h => ?_⟩
  refine thn (hl.run pins s σ H _ I h) fun v s1 ⟨x, H1, I1, r1, q1⟩ => ?_
  obtain ⟨a, e, ⟨⟨xs, hq⟩, q⟩ | ⟨⟨xs, hq⟩, q⟩⟩ := q1
  · subst e
    cases r1
    obtain ⟨its, rv, p, hz⟩ := I1.list hq
    refine wpAny_pyIter_list p.isList ?_
    refine ⟨s1.heap.objs.size, [s1.heap.objs.size], _, _, H1, rfl, I1.kept (t' := s1.toks) fun b o e => Heap.get?_push_of_some _ e, turn_list a _, ⟨_, Heap.get?_push_size _ rfl, rfl, rfl⟩, fun b hb => ?_, q⟩
    have e : b = s1.heap.objs.size := by simpa using hb
    subst e
    exact I1.fpOk (Nat.le_refl _) (I1.hok.fresh (Nat.le_refl _))
  · subst e
    cases r1
    obtain ⟨its, rv, p, hz⟩ := I1.tuple hq
    refine wpAny_pyIter_tuple (show s1.heap.IsTuple a its.toArray from p) ?_
    refine ⟨s1.heap.objs.size, [s1.heap.objs.size], _, _, H1, rfl, I1.kept (t' := s1.toks) fun b o e => Heap.get?_push_of_some _ e, turn_tuple a _, ⟨_, Heap.get?_push_size _ rfl, rfl, rfl⟩, fun b hb => ?_, q⟩
    have e : b = s1.heap.objs.size := by simpa using hb
    subst e
    exact I1.fpOk (Nat.le_refl _) (I1.hok.fresh (Nat.le_refl _))
def wIt (w : WPe) : WPi := fun env S Q X => w env S (fun d S1 => some! (seqA S1 d) fun xs => Q xs (fun S' => seqA S' d = some xs) S1) X
section
variable {K : PySem.W.Frag}
theorem jok_list {W0 : Hp} {S0 : Sto} {H0 : Hp} {d : D} {a : Addr} {xs : List D} (ok : Ok K W0 S0 H0) (r : Rep K W0 d (.ref a)) (hL : seqL S0 d = some xs) (hA : ∀ {S}, seqA S d = seqL S d) :
    (∃ vs, SqL K H0 a vs) ∧ JOk K (Itl K a) W0 xs (fun S' => seqA S' d = some xs) := by
  obtain ⟨b, ws, e1, e2, e3⟩ := seqL_rep ok r hL
  cases e1
  refine ⟨⟨ws, e2⟩, ⟨fun i W S H d hd s1 ok1 g => ?_, fun W S H s1 ok1 g => ?_⟩⟩
  · rw [hA] at g
    obtain ⟨c, zs, e7, e8, e9⟩ := seqL_rep ok1 (r.mono s1) g
    cases e7
    obtain ⟨u, hu, ru⟩ := e9.get hd
    refine ⟨⟨zs, u, e8, hu⟩, fun x H' ⟨e4, e5⟩ => ?_⟩
    subst e4
    have e6 := e5 zs e8
    rw [hu] at e6
    cases e6
    exact ⟨W, Stp.refl, ok1, ru⟩
  · rw [hA] at g
    obtain ⟨c, zs, e7, e8, e9⟩ := seqL_rep ok1 (r.mono s1) g
    cases e7
    exact ⟨zs, e8, Nat.le_of_eq e9.length⟩
theorem jok_seq {W0 : Hp} {S0 : Sto} {H0 : Hp} {d : D} {v : V} {xs : List D} (ok : Ok K W0 S0 H0) (r : Rep K W0 d v) (h : seqA S0 d = some xs) :
    ∃ a, v = .ref a ∧ (((∃ vs, SqL K H0 a vs) ∧ JOk K (Itl K a) W0 xs (fun S' => seqA S' d = some xs)) ∨ ((∃ vs, SqT K H0 a vs) ∧ JOk K (Itt K a) W0 xs (fun S' => seqA S' d = some xs))) := by
  obtain ⟨a, vs, rfl, hq, rv⟩ := seqA_rep ok r h
  refine ⟨a, rfl, ?_⟩
  cases d with
  | tup ys =>
    cases h
    obtain ⟨b, ws, e1, e2, e3⟩ := r
    cases e1
    refine .inr ⟨⟨ws, sqT_mono ok.vis e2⟩, ⟨fun i W S H d hd s1 ok1 _ => ?_, fun W S H s1 ok1 _ => ?_⟩⟩
    · obtain ⟨u, hu, ru⟩ := e3.get hd
      have hT := sqT_mono (s1.trans ok1.vis) e2
      refine ⟨⟨ws, u, hT, hu⟩, fun x H' ⟨e4, e5⟩ => ?_⟩
      subst e4
      have e6 := e5 ws hT
      rw [hu] at e6
      cases e6
      exact ⟨W, Stp.refl, ok1, ru.mono s1⟩
    · exact ⟨ws, sqT_mono (s1.trans ok1.vis) e2, Nat.le_of_eq e3.length⟩
  | lst ys => exact .inl (jok_list ok r h rfl)
  | fro ys => exact .inl (jok_list ok r h rfl)
  | ref b => exact .inl (jok_list ok r h rfl)
  | _ => cases h
end
section
variable {X : Cx} {tg e a b : Expr} {w wa wb : WPe} {p pos : Pos}
theorem pdi_seq (h : PD X e w) : PDi X tg e (wIt w) :=
  ⟨fun Wx tk => PI.imp (pi_seq (h.run Wx tk)) fun σ H R ⟨W, env, S, Q0, X1, ok, sl, hw, cv, cx⟩ => ⟨W, env, S, _, X1, ok, sl, hw, fun d S1 v W1 H1 h1 s1 ok1 r1 => by
    obtain ⟨xs, e1, h1⟩ := some!_ex h1
    obtain ⟨a, rfl, ⟨q, j⟩ | ⟨q, j⟩⟩ := jok_seq ok1 r1 e1
    · exact ⟨a, rfl, .inl ⟨q, cv _ _ S1 W1 H1 _ h1 s1 ok1 j⟩⟩
    · exact ⟨a, rfl, .inr ⟨q, cv _ _ S1 W1 H1 _ h1 s1 ok1 j⟩⟩, cx⟩⟩
def rngD (lo : Int) (n : Nat) : List D := (List.range n).map fun (i : Nat) => D.int (lo + (i : Int))
theorem rngD_get {lo : Int} {n i : Nat} {d : D} (h : (rngD lo n)[i]? = some d) : i < n ∧ d = .int (lo + (i : Int)) := by
  unfold rngD at h
  rw [List.getElem?_map] at h
  by_cases hi : i < n
  · rw [List.getElem?_range hi] at h
    exact ⟨hi, (Option.some.inj h).symm⟩
  · rw [List.getElem?_eq_none (by rw [List.length_range]; omega)] at h
    cases h
theorem rngD_length {lo : Int} {n : Nat} : (rngD lo n).length = n := by
  unfold rngD
  rw [List.length_map, List.length_range]
theorem jok_rng {K : PySem.W.Frag} {W0 : Hp} {lo : Int} {n : Nat} : JOk K (Itr lo n) W0 (rngD lo n) (fun _ => True) :=
  ⟨fun i W S H d hd s1 ok1 _ => by
    obtain ⟨hi, rfl⟩ := rngD_get hd
    exact ⟨hi, fun x H' ⟨e1, e2⟩ => by subst e1; exact ⟨W, Stp.refl, ok1, e2⟩⟩, fun W S H _ _ _ => by rw [rngD_length]; exact Nat.le_refl _⟩
def wRg1 (wa : WPe) : WPi := fun env S Q X => wa env S (fun a S1 => asI a fun j => (-(2 ^ 62) ≤ j ∧ j < 2 ^ 62) ∧ Q (rngD 0 j.toNat) (fun _ => True) S1) X
def wRg2 (wa wb : WPe) : WPi := fun env S Q X => wa env S (fun a S1 => asI a fun i => wb env S1 (fun b S2 => asI b fun j => (-(2 ^ 62) ≤ i ∧ i < 2 ^ 62 ∧ -(2 ^ 62) ≤ j ∧ j < 2 ^ 62) ∧ Q (rngD i (j - i).toNat) (fun _ => True) S2) X) X
theorem pdi_rg1 (hm : X.mg "range" = none) (ha : PD X a wa) (hg : Gl X "range" := by rfl) (hs : starEach [a] X.env = [(false, eval a X.env)] := by rfl) : PDi X tg (.Call (.Name "range" p) [a] [] pos) (wRg1 wa) :=
  ⟨fun Wx tk => PI.imp (pi_range1 hg hm (pa_cons (ha.run Wx tk) pa_nil hs) hs) fun σ H R ⟨W, env, S, Q0, X1, ok, sl, hw, cv, cx⟩ => ⟨W, env, S, _, X1, ok, sl, hw, fun d S1 v W1 H1 h1 s1 ok1 r1 => by
    obtain ⟨j, rfl, ⟨h2, h3⟩, h4⟩ := asI_ex h1
    exact ⟨j, by rw [show v = .int j from r1], h2, h3, cv _ _ S1 W1 H1 _ h4 s1 ok1 jok_rng⟩, cx⟩⟩
theorem pdi_rg2 (hm : X.mg "range" = none) (ha : PD X a wa) (hb : PD X b wb) (hg : Gl X "range" := by rfl) (hs : starEach [a, b] X.env = [(false, eval a X.env), (false, eval b X.env)] := by rfl) (hs2 : starEach [b] X.env = [(false, eval b X.env)] := by rfl) :
    PDi X tg (.Call (.Name "range" p) [a, b] [] pos) (wRg2 wa wb) :=
  ⟨fun Wx tk => PI.imp (pi_range2 hg hm (pa_cons (ha.run Wx tk) (pa_cons (hb.run Wx tk) pa_nil hs2) (by rw [hs, hs2])) hs hs2) fun σ H R ⟨W, env, S, Q0, X1, ok, sl, hw, cv, cx⟩ => ⟨W, env, S, _, X1, ok, sl, hw, fun d S1 v W1 H1 h1 s1 ok1 r1 => by
    obtain ⟨i, rfl, h1⟩ := asI_ex h1
    refine ⟨W1, env, S1, _, X1, ok1, sl.mono s1.vis, h1, fun d2 S2 u W2 H2 h2 s2 ok2 r2 => ?_, cx.mono s1⟩
    obtain ⟨j, rfl, h3, h4⟩ := asI_ex h2
    exact ⟨i, j, by rw [show v = .int i from r1, show u = .int j from r2], h3, cv _ _ S2 W2 H2 _ h4 (s1.trans s2) ok2 jok_rng⟩, cx⟩⟩
end

/-! ### for -/
/-- by an invariant over (turn, slots, store) -/
def forI (t : WPg) (body : WPs) (g : Sto → Prop) (items : List D) (env : DE) (S : Sto) (q : QS) : Prop := ∃ P : Nat → DE → Sto → Prop, P 0 env S ∧ (∀ i e S, i ≤ items.length → P i e S → g S) ∧
  (∀ i d e S, items[i]? = some d → P i e S → t d e fun e1 => body e1 S { q with nx := P (i + 1), ct := P (i + 1), bk := q.nx }) ∧ ∀ e S, P items.length e S → q.nx e S
/-- turn by turn -/
def forL (t : WPg) (body : WPs) (g : Sto → Prop) : List D → WPs
  | [], env, S, q => g S ∧ q.nx env S
  | d :: r, env, S, q => g S ∧ t d env fun e => body e S { q with nx := fun e2 S2 => forL t body g r e2 S2 q, ct := fun e2 S2 => forL t body g r e2 S2 q, bk := q.nx }
theorem forI_of {t : WPg} {body : WPs} {g : Sto → Prop} {items : List D} {env : DE} {S : Sto} {q : QS} (h : forL t body g items env S q) : forI t body g items env S q := by
  refine ⟨fun i e S => forL t body g (items.drop i) e S q, h, fun i e S hi h => ?_, fun i d e S hd h => ?_, fun e S h => ?_⟩
  · dsimp only at h
    by_cases hlt : i < items.length
    · rw [List.drop_eq_getElem_cons hlt] at h
      exact h.1
    · rw [List.drop_eq_nil_of_le (by omega)] at h
      exact h.1
  · dsimp only at h
    obtain ⟨hlt, e1⟩ := List.getElem?_eq_some_iff.mp hd
    subst e1
    rw [List.drop_eq_getElem_cons hlt] at h
    exact h.2
  · dsimp only at h
    rw [List.drop_length] at h
    exact h.2
/-- a fold -/
theorem forI_fold {α : Type} {t : WPg} {body : WPs} {g : Sto → Prop} {items : List D} {env : DE} {S : Sto} {q : QS} (st : α → DE → Sto → Prop) (step : α → D → α) (init : α) (h0 : st init env S) (hg : ∀ a e S, st a e S → g S)
    (hs : ∀ i d a e S, items[i]? = some d → a = (items.take i).foldl step init → st a e S → t d e fun e1 => body e1 S { q with nx := st (step a d), ct := st (step a d), bk := q.nx }) (hd : ∀ e S, st (items.foldl step init) e S → q.nx e S) : forI t body g items env S q := by
  refine ⟨fun i e S => st ((items.take i).foldl step init) e S, by simpa using h0, fun i e S _ h => hg _ e S h, fun i d e S hi h => ?_, fun e S h => hd e S (by simpa using h)⟩
  have key : (items.take (i + 1)).foldl step init = step ((items.take i).foldl step init) d := by
    rw [List.take_add_one, hi]
    simp
  dsimp only
  rw [key]
  exact hs i d _ e S hi rfl h
/-- .. what follows the body told by what it wants -/
theorem forI_foldq {α : Type} {t : WPg} {body : WPs} {g : Sto → Prop} {items : List D} {env : DE} {S : Sto} {q : QS} (st : α → DE → Sto → Prop) (step : α → D → α) (init : α) (h0 : st init env S) (hg : ∀ a e S, st a e S → g S)
    (hs : ∀ i d a e S, items[i]? = some d → a = (items.take i).foldl step init → st a e S → ∀ q' : QS, (∀ e S, st (step a d) e S → q'.nx e S) → q'.rt = q.rt → q'.bk = q.nx → q'.ct = q'.nx → q'.xc = q.xc → t d e fun e1 => body e1 S q') (hd : ∀ e S, st (items.foldl step init) e S → q.nx e S) : forI t body g items env S q :=
  forI_fold st step init h0 hg (fun i d a e S hi ha h => hs i d a e S hi ha h _ (fun _ _ z => z) rfl rfl rfl rfl) hd
/-- .. by an invariant -/
theorem forI_invq {t : WPg} {body : WPs} {g : Sto → Prop} {items : List D} {env : DE} {S : Sto} {q : QS} (P : Nat → DE → Sto → Prop) (h0 : P 0 env S) (hg : ∀ i e S, P i e S → g S)
    (hs : ∀ i d e S, items[i]? = some d → P i e S → ∀ q' : QS, (∀ e S, P (i + 1) e S → q'.nx e S) → q'.rt = q.rt → q'.bk = q.nx → q'.ct = q'.nx → q'.xc = q.xc → t d e fun e1 => body e1 S q') (hd : ∀ e S, P items.length e S → q.nx e S) : forI t body g items env S q :=
  ⟨P, h0, fun i e S _ h => hg i e S h, fun i d e S hi h => hs i d e S hi h _ (fun _ _ z => z) rfl rfl rfl rfl, hd⟩
def wFor (wi : WPi) (t : WPg) (body : WPs) : WPs := fun env S q => wi env S (fun items g S1 => forI t body g items env S1 q) (xcQ q env)
section
variable {X : Cx} {tg iter : Expr} {body : List Stmt} {wi : WPi} {t : WPg} {ws : WPs} {pos : Pos} {vs : List Nat}
theorem pds_for (hc : X.calm = true) (hp : PassesOwn (model X.prog X.w) X.A X.env X.xe) (hi : PDi X tg iter wi) (hg : PDg X tg vs t) (hb : PDss X body ws) (hs : ∀ x, foldedSetIterable iter X.env x = pure x := by intro _; rfl) : PDs X (.For tg iter body [] pos) (wFor wi t ws) :=
  ⟨fun Wx tk => PS.imp (ps_for hp hc (hi.run Wx tk) hg.run (hb.run Wx tk) hs) fun D σ H ⟨W, env, S, q, ok, sl, hl, hw, cs⟩ => by
    refine ⟨W, env, S, _, _, ok, sl, hw, fun items g S1 W1 H1 J ⟨P, h0, hg0, hs0, hd0⟩ s1 ok1 jok => ?_, CXc.of cs sl⟩
    refine ⟨fun i m σ' H' => m = items.length - i ∧ i ≤ items.length ∧ σ'.length = X.N.length ∧ ∃ W' env' S', Stp W1 S1 H1 W' S' H' ∧ Ok X.K W' S' H' ∧ Sl X.K W' env' σ' ∧ P i env' S',
      ⟨items.length, rfl, Nat.zero_le _, hl, W1, env, S1, Stp.refl, ok1, sl.mono s1.vis, h0⟩, ?_⟩
    rintro i m σ' H' ⟨rfl, hi2, hl', W', env', S', s2, ok2, sl2, h2⟩
    have hgS := hg0 i env' S' hi2 h2
    by_cases hlt : i < items.length
    · have hd := List.getElem?_eq_getElem hlt
      obtain ⟨go, yl⟩ := jok.step i W' S' H' _ hd s2.vis ok2 hgS
      refine .inr ⟨go, fun σ2 H2 => σ2.length = X.N.length ∧ ∃ W2 env2 S2, Stp W1 S1 H1 W2 S2 H2 ∧ Ok X.K W2 S2 H2 ∧ Sl X.K W2 env2 σ2 ∧ P (i + 1) env2 S2,
        fun σ2 H2 ⟨hl2, h3⟩ => ⟨items.length - (i + 1), by omega, rfl, hlt, hl2, h3⟩, fun x H2 y => ?_⟩
      obtain ⟨W2, s3, ok3, rx⟩ := yl x H2 y
      refine ⟨W2, S', env', items[i], _, ok3, sl2.mono s3.vis, hl', rx, hs0 i _ env' S' hd h2, fun e2 σ3 h3 sl3 hl3 _ => ?_⟩
      have st := s1.trans (s2.trans s3)
      refine ⟨W2, e2, S', _, ok3, sl3, hl3, h3, ?_⟩
      have fin : ∀ {e4 : DE} {S4 : Sto} {σ4 : L2.St} {W4 H4 : Hp}, P (i + 1) e4 S4 → Stp W2 S' H2 W4 S4 H4 → Ok X.K W4 S4 H4 → Sl X.K W4 e4 σ4 → σ4.length = X.N.length →
          (σ4.length = X.N.length ∧ ∃ W2 env2 S2, Stp W1 S1 H1 W2 S2 H4 ∧ Ok X.K W2 S2 H4 ∧ Sl X.K W2 env2 σ4 ∧ P (i + 1) env2 S2) :=
        fun h4 s4 ok4 sl4 hl4 => ⟨hl4, _, _, _, s2.trans (s3.trans s4), ok4, sl4, h4⟩
      exact ⟨fun e4 S4 σ4 W4 H4 h4 s4 ok4 sl4 hl4 => fin h4 s4 ok4 sl4 hl4, (cs.mono st).rt, (cs.mono st).nx, fun e4 S4 σ4 W4 H4 h4 s4 ok4 sl4 hl4 => fin h4 s4 ok4 sl4 hl4, (cs.mono st).xc⟩
    · have e : i = items.length := by omega
      subst e
      exact .inl ⟨jok.stop W' S' H' s2.vis ok2 hgS, cs.nx env' S' σ' W' H' (hd0 _ _ h2) (s1.trans s2) ok2 sl2 hl'⟩⟩
end

/-! ### while -/
def wWhile (t : WPt) (body : WPs) : WPs := fun env S q => ∃ P : Nat → DE → Sto → Prop, (∃ m, P m env S) ∧ ∀ m e S, P m e S →
  t e S (fun b S1 => if b = true then body e S1 { q with nx := fun e2 S2 => ∃ m', m' < m ∧ P m' e2 S2, ct := fun e2 S2 => ∃ m', m' < m ∧ P m' e2 S2, bk := q.nx } else q.nx e S1) (xcQ q e)
theorem pds_while {X : Cx} {c : Expr} {body : List Stmt} {t : WPt} {ws : WPs} {pos : Pos} (hp : PassesOwn (model X.prog X.w) X.A X.env X.xe) (hc : PDt X c t) (hb : PDss X body ws) : PDs X (.While c body [] pos) (wWhile t ws) :=
  ⟨fun Wx tk => PS.imp (ps_while hp (hc.run Wx tk) (hb.run Wx tk)) fun D σ H ⟨W, env, S, q, ok, sl, hl, ⟨P, ⟨m0, h0⟩, hs⟩, cs⟩ => by
    refine ⟨fun m σ' H' => σ'.length = X.N.length ∧ ∃ W' env' S', Stp W S H W' S' H' ∧ Ok X.K W' S' H' ∧ Sl X.K W' env' σ' ∧ P m env' S', ⟨m0, hl, W, env, S, Stp.refl, ok, sl, h0⟩, ?_⟩
    rintro m σ' H' ⟨hl', W', env', S', s1, ok1, sl1, h1⟩
    refine ⟨W', env', S', _, _, ok1, sl1, hs m env' S' h1, fun b S2 W2 H2 h2 s2 ok2 => ?_, CXc.of (cs.mono s1) sl1⟩
    cases b with
    | true =>
      refine iteT ⟨fun σ3 H3 => ∃ m', m' < m ∧ σ3.length = X.N.length ∧ ∃ W' env' S', Stp W S H W' S' H3 ∧ Ok X.K W' S' H3 ∧ Sl X.K W' env' σ3 ∧ P m' env' S', fun σ3 H3 ⟨m', hm, h3⟩ => ⟨m', hm, h3⟩, W2, env', S2, _, ok2, sl1.mono s2.vis, hl', (if_pos rfl).mp h2, ?_⟩
      have st := s1.trans s2
      exact ⟨fun e4 S4 σ4 W4 H4 ⟨m', hm, h4⟩ s4 ok4 sl4 hl4 => ⟨m', hm, hl4, W4, e4, S4, st.trans s4, ok4, sl4, h4⟩, (cs.mono st).rt, (cs.mono st).nx, fun e4 S4 σ4 W4 H4 ⟨m', hm, h4⟩ s4 ok4 sl4 hl4 => ⟨m', hm, hl4, W4, e4, S4, st.trans s4, ok4, sl4, h4⟩, (cs.mono st).xc⟩
    | false => exact iteF (cs.nx env' S2 σ' W2 H2 ((if_neg Bool.false_ne_true).mp h2) (s1.trans s2) ok2 (sl1.mono s2.vis) hl')⟩

/-! ### list comprehensions -/
def wYes : WPt := fun _ S Q _ => Q true S
structure PDts (X : Cx) (ifs : List Expr) (w : WPt) : Prop where
  run : ∀ Wx, Takes X Wx → PTs X ifs (lT X.K Wx w)
theorem pdts_nil {X : Cx} : PDts X [] wYes := ⟨fun Wx tk => ⟨fun pins s σ H Q I ⟨W, env, S, Q0, X1, ok, sl, hw, cv, cx⟩ => pts_nil.run pins s σ H Q I (cv true S W H hw Stp.refl ok)⟩⟩
theorem pdts_one {X : Cx} {c : Expr} {w : WPt} (h : PDt X c w) : PDts X [c] w := ⟨fun Wx tk => pts_one (h.run Wx tk)⟩
def delVs (env : DE) : List Nat → DE
  | [] => env
  | v :: vs => delV (delVs env vs) v
theorem sl_wipe {K : PySem.W.Frag} {W : Hp} {env : DE} {σ : L2.St} (h : Sl K W env σ) : ∀ vs : List Nat, Sl K W (delVs env vs) (wipe σ vs)
  | [] => h
  | v :: vs => fun i d q => by
    obtain ⟨a, b⟩ := getV_delV q
    obtain ⟨u, c, r⟩ := sl_wipe h vs i d b
    refine ⟨u, ?_, r⟩
    show ((wipe σ vs).set v none)[i]? = _
    rw [List.getElem?_set_ne (Ne.symm a)]; exact c
theorem delVs_len {σ : L2.St} {vs : List Nat} {n : Nat} (h : σ.length = n) : (wipe σ vs).length = n := by rw [wipe_length]; exact h
theorem wipe_wipe {σ : L2.St} {vs : List Nat} : wipe (wipe σ vs) vs = wipe σ vs := by
  apply List.ext_getElem?
  intro i
  have key : ∀ {τ : L2.St} {us : List Nat}, (i ∈ us → i < τ.length → (wipe τ us)[i]? = some none) ∧ (i ∉ us → (wipe τ us)[i]? = τ[i]?) := fun {τ us} => by
    induction us with
    | nil => exact ⟨(fun h => by cases h), (fun _ => rfl)⟩
    | cons u us ih =>
      refine ⟨fun h hl => ?_, fun h => ?_⟩
      · show ((wipe τ us).set u none)[i]? = some none
        by_cases e : u = i
        · subst e
          exact List.getElem?_set_self (by rw [wipe_length]; exact hl)
        · rw [List.getElem?_set_ne e]
          exact ih.1 (by cases h with | head => exact absurd rfl e | tail _ h => exact h) hl
      · show ((wipe τ us).set u none)[i]? = _
        rw [List.getElem?_set_ne (fun e => h (by rw [e]; exact List.mem_cons_self))]
        exact ih.2 fun z => h (List.mem_cons_of_mem _ z)
  by_cases h : i ∈ vs
  · by_cases hl : i < σ.length
    · rw [(key (τ := wipe σ vs)).1 h (by rw [wipe_length]; exact hl), (key (τ := σ)).1 h hl]
    · rw [List.getElem?_eq_none (by rw [wipe_length, wipe_length]; omega), List.getElem?_eq_none (by rw [wipe_length]; omega)]
  · rw [(key (τ := wipe σ vs)).2 h]
def compI (t : WPg) (tt : WPt) (te : WPe) (g : Sto → Prop) (env : DE) (items : List D) (S : Sto) (Q : List D → Sto → Prop) : Prop := ∃ P : Nat → List D → Sto → Prop, P 0 [] S ∧ (∀ i acc S, i ≤ items.length → P i acc S → g S) ∧
  (∀ i d acc S, items[i]? = some d → P i acc S → t d env fun e => tt e S (fun b S1 => if b = true then te e S1 (fun y S2 => P (i + 1) (acc ++ [y]) S2) X0 else P (i + 1) acc S1) X0) ∧ ∀ acc S, P items.length acc S → Q acc S
/-- item by item -/
def compL (t : WPg) (tt : WPt) (te : WPe) (g : Sto → Prop) (env : DE) : List D → List D → Sto → (List D → Sto → Prop) → Prop
  | [], acc, S, Q => g S ∧ Q acc S
  | d :: r, acc, S, Q => g S ∧ t d env fun e => tt e S (fun b S1 => if b = true then te e S1 (fun y S2 => compL t tt te g env r (acc ++ [y]) S2 Q) X0 else compL t tt te g env r acc S1 Q) X0
theorem compI_of {t : WPg} {tt : WPt} {te : WPe} {g : Sto → Prop} {env : DE} {items : List D} {S : Sto} {Q : List D → Sto → Prop} (h : compL t tt te g env items [] S Q) : compI t tt te g env items S Q := by
  refine ⟨fun i acc S => compL t tt te g env (items.drop i) acc S Q, h, fun i acc S hi h => ?_, fun i d acc S hd h => ?_, fun acc S h => ?_⟩
  · dsimp only at h
    by_cases hlt : i < items.length
    · rw [List.drop_eq_getElem_cons hlt] at h
      exact h.1
    · rw [List.drop_eq_nil_of_le (by omega)] at h
      exact h.1
  · dsimp only at h
    obtain ⟨hlt, e1⟩ := List.getElem?_eq_some_iff.mp hd
    subst e1
    rw [List.drop_eq_getElem_cons hlt] at h
    exact h.2
  · dsimp only at h
    rw [List.drop_length] at h
    exact h.2
/-- each item's value told by a function -/
theorem compI_map {t : WPg} {tt : WPt} {te : WPe} {g : Sto → Prop} {env : DE} {items : List D} {S : Sto} {Q : List D → Sto → Prop} (f : D → Option D) (hg : g S)
    (h : ∀ d, d ∈ items → ∀ R : Option D → Sto → Prop, R (f d) S → t d env fun e => tt e S (fun b S1 => if b = true then te e S1 (fun y S2 => R (some y) S2) X0 else R none S1) X0) (hq : Q (items.filterMap f) S) : compI t tt te g env items S Q := by
  refine ⟨fun i acc S' => S' = S ∧ acc = (items.take i).filterMap f, ⟨rfl, by simp⟩, fun i acc S' _ h => by rw [h.1]; exact hg, fun i d acc S' hd ⟨e1, e2⟩ => ?_, fun acc S' ⟨e1, e2⟩ => ?_⟩
  · subst e1 e2
    refine h d (List.mem_of_getElem? hd) (fun o S2 => match o with
      | some y => S2 = S' ∧ (items.take i).filterMap f ++ [y] = (items.take (i + 1)).filterMap f
      | none => S2 = S' ∧ (items.take i).filterMap f = (items.take (i + 1)).filterMap f) ?_
    have key : (items.take (i + 1)).filterMap f = (items.take i).filterMap f ++ [d].filterMap f := by
      rw [List.take_add_one, hd]
      simp
    cases e : f d with
    | none =>
      refine ⟨rfl, ?_⟩
      rw [key]
      simp [e]
    | some y =>
      refine ⟨rfl, ?_⟩
      rw [key]
      simp [e]
  · subst e1 e2
    simpa using hq
/-- by an invariant of what is made so far -/
theorem compI_inv {t : WPg} {tt : WPt} {te : WPe} {g : Sto → Prop} {env : DE} {items : List D} {S : Sto} {Q : List D → Sto → Prop} (P : Nat → List D → Sto → Prop) (h0 : P 0 [] S) (hg : ∀ i acc S, P i acc S → g S)
    (hs : ∀ i d acc S, items[i]? = some d → P i acc S → t d env fun e => tt e S (fun b S1 => if b = true then te e S1 (fun y S2 => P (i + 1) (acc ++ [y]) S2) X0 else P (i + 1) acc S1) X0) (hd : ∀ acc S, P items.length acc S → Q acc S) : compI t tt te g env items S Q :=
  ⟨P, h0, fun i acc S _ h => hg i acc S h, hs, hd⟩
def wLc (wi : WPi) (t : WPg) (tt : WPt) (te : WPe) (vs : List Nat) : WPe := fun env S Q X => wi env S (fun items g S1 => items.length ≤ sizeLine ∧ compI t tt te g (delVs env vs) items S1 fun ds S2 => Q (.lst ds) S2) X
/-- .. a new mutable list -/
def wLcM (wi : WPi) (t : WPg) (tt : WPt) (te : WPe) (vs : List Nat) : WPe := fun env S Q X => wi env S (fun items g S1 => items.length ≤ sizeLine ∧ compI t tt te g (delVs env vs) items S1 fun ds S2 => ∀ p, S2 p = none → Q (.ref p) (put S2 p (.lst ds))) X
theorem takesF {X : Cx} {s : Shared} {H : Hp} {scope : Scope} {cenv : Env} {fp : List Addr} : Takes (X.blk s H scope cenv fp) (fun _ _ _ _ => False) := takes0
theorem Stp.see {W W' : Hp} {S S' : Sto} {H H' : Hp} {p : Addr} {o : HO} (st : Stp W S H W' S' H') (h : H p = none) (hW : W' p = none) : Stp W S H (upd W' p o) S' H' :=
  ⟨st.vis.trans (same_new hW), fun a x h1 h2 h3 => by
    have ne : a ≠ p := ne_of_none h1 h
    obtain ⟨y1, y2, y3⟩ := st.frm a x h1 h2 h3
    exact ⟨y1, by rw [upd_ne ne]; exact y2, y3⟩⟩
theorem Stp.see' {W W1 W' : Hp} {S S1 S' : Sto} {H H1 H' : Hp} {p : Addr} {o : HO} (st : Stp W S H W' S' H') (h : H1 p = none) (hW : W' p = none) (s1 : Stp W S H W1 S1 H1) : Stp W S H (upd W' p o) S' H' :=
  ⟨st.vis.trans (same_new hW), fun a x h1 h2 h3 => by
    have ne : a ≠ p := fun e => by
      subst e
      have := (s1.frm a x h1 h2 h3).1
      rw [h] at this; cases this
    obtain ⟨y1, y2, y3⟩ := st.frm a x h1 h2 h3
    exact ⟨y1, by rw [upd_ne ne]; exact y2, y3⟩⟩
theorem Stp.own {W W' : Hp} {S S' : Sto} {H H' : Hp} {p : Addr} {m : MO} (st : Stp W S H W' S' H') (h : H p = none) : Stp W S H W' (put S' p m) H' :=
  ⟨st.vis, fun a x h1 h2 h3 => by
    have ne : a ≠ p := ne_of_none h1 h
    obtain ⟨y1, y2, y3⟩ := st.frm a x h1 h2 h3
    exact ⟨y1, y2, by rw [put_ne ne]; exact y3⟩⟩
theorem Stp.out {W W' : Hp} {S S' : Sto} {H H' : Hp} {p : Addr} {o : HO} (st : Stp W S H W' S' H') (h : H p = none) : Stp W S H W' S' (upd H' p o) :=
  ⟨st.vis, fun a x h1 h2 h3 => by
    have ne : a ≠ p := ne_of_none h1 h
    obtain ⟨y1, y2, y3⟩ := st.frm a x h1 h2 h3
    exact ⟨by rw [upd_ne ne]; exact y1, y2, y3⟩⟩
theorem Ok.out {K : PySem.W.Frag} {W : Hp} {S : Sto} {H : Hp} {p : Addr} {o : HO} (ok : Ok K W S H) (hW : W p = none) (hS : S p = none) : Ok K W S (upd H p o) :=
  ⟨fun b x e => by rw [upd_ne (ne_of_none e hW)]; exact ok.vis _ _ e, fun a m e => by
    obtain ⟨x, e1, e2⟩ := ok.sto _ _ e
    exact ⟨x, by rw [upd_ne (ne_of_S e hS)]; exact e1, e2⟩, ok.sep⟩
theorem Ok.see {K : PySem.W.Frag} {W : Hp} {S : Sto} {H : Hp} {p : Addr} {o : HO} (ok : Ok K W S H) (hW : W p = none) (hS : S p = none) (hH : H p = some o) : Ok K (upd W p o) S H :=
  ⟨fun b x e => by
    by_cases q : b = p
    · subst q; rw [upd_same] at e; cases e; exact hH
    · rw [upd_ne q] at e; exact ok.vis _ _ e, fun a m e => by
    obtain ⟨x, e1, e2⟩ := ok.sto _ _ e
    exact ⟨x, e1, e2.mono (same_new hW)⟩, fun a m e => by
    rw [upd_ne (ne_of_S e hS)]; exact ok.sep _ _ e⟩
theorem Ok.own {K : PySem.W.Frag} {W : Hp} {S : Sto} {H : Hp} {p : Addr} {o : HO} {m : MO} (ok : Ok K W S H) (hW : W p = none) (hH : H p = some o) (r : MRep K W m o) : Ok K W (put S p m) H :=
  ⟨ok.vis, fun a n e => by
    by_cases q : a = p
    · subst q; rw [put_same] at e; cases e; exact ⟨o, hH, r⟩
    · rw [put_ne q] at e; exact ok.sto _ _ e, fun a n e => by
    by_cases q : a = p
    · subst q; exact hW
    · rw [put_ne q] at e; exact ok.sep _ _ e⟩
section
variable {X : Cx} {elt tg iter : Expr} {ifs : List Expr} {scope : Scope} {own : List (Str × Nat)} {pos : Pos} {wi : WPi} {t : WPg} {tt : WPt} {te : WPe}
/-- the made list stands at p, nobody else's -/
theorem lc_go {Wx : WX} {vs : List Nat} {σ : L2.St} {H : Hp} {Q : VK} {K : PySem.W.Frag} {n : Nat} {items : List D} {g : Sto → Prop} {env : DE} {W1 : Hp} {S1 : Sto} {H1 : Hp} {J : It} {Q1 : List D → Sto → Prop} (hl : σ.length = n) (hz : items.length ≤ sizeLine)
    (h : compI t tt te g (delVs env vs) items S1 Q1) (ok1 : Ok K W1 S1 H1) (sl : Sl K W1 env σ) (jok : JOk K J W1 items g)
    (fin : ∀ (p : Addr) acc ws W2 S2 H2, H1 p = none → Q1 acc S2 → Stp W1 S1 H1 W2 S2 H2 → Ok K W2 S2 H2 → W2 p = none → S2 p = none → H2 p = some (.lst ws) → Reps K W2 acc ws → Q (.ref p) H2) :
    ∀ p, H1 p = none → ∃ Wt : Nat → Nat → Hp → Prop, (∃ m, Wt 0 m (upd H1 p (.lst []))) ∧ ∀ i m H, Wt i m H →
      (J.stop i H ∧ Q (.ref p) H) ∨ (J.go i H ∧ ∃ Nx : Hp → Prop, (∀ H', Nx H' → ∃ m', m' < m ∧ Wt (i + 1) m' H') ∧ ∀ x H', J.yld i H x H' → lG K n vs t x (wipe σ vs) H' fun σ2 H2 => wipe σ2 vs = wipe σ vs ∧ lT K (fun _ _ _ _ => False) tt σ2 H2 fun b H3 =>
        if b = true then lE K (fun _ _ _ _ => False) te σ2 H3 fun y H4 => ∃ acc, H4 p = some (.lst acc) ∧ acc.length < sizeLine ∧ Nx (upd H4 p (.lst (acc ++ [y]))) else Nx H3) := by
  intro p hp
  obtain ⟨P, h0, hg, hs, hd⟩ := h
  have hf := ok1.fresh hp
  refine ⟨fun i m H' => m = items.length - i ∧ i ≤ items.length ∧ ∃ W' S' acc ws, Stp W1 S1 H1 W' S' H' ∧ Ok K W' S' H' ∧ W' p = none ∧ S' p = none ∧ H' p = some (.lst ws) ∧ Reps K W' acc ws ∧ acc.length ≤ i ∧ P i acc S',
    ⟨items.length, rfl, Nat.zero_le _, W1, S1, [], [], ok1.stJ hp, ok1.junk hp, hf.1, hf.2, upd_same, rfl, Nat.le_refl _, h0⟩, ?_⟩
  rintro i m H' ⟨rfl, hi, W', S', acc, ws, s2, ok2, hW', hS', hH', rw', hle, h2⟩
  have hgS := hg i acc S' hi h2
  by_cases hlt : i < items.length
  · have hdd := List.getElem?_eq_getElem hlt
    obtain ⟨go, yl⟩ := jok.step i W' S' H' _ hdd s2.vis ok2 hgS
    refine .inr ⟨go, fun H3 => ∃ W' S' acc ws, Stp W1 S1 H1 W' S' H3 ∧ Ok K W' S' H3 ∧ W' p = none ∧ S' p = none ∧ H3 p = some (.lst ws) ∧ Reps K W' acc ws ∧ acc.length ≤ i + 1 ∧ P (i + 1) acc S',
      fun H3 h3 => ⟨items.length - (i + 1), by omega, rfl, hlt, h3⟩, fun x H2 y => ?_⟩
    obtain ⟨W2, s3, ok3, rx⟩ := yl x H2 y
    obtain ⟨k1, k2, k3⟩ := s3.frm p _ hH' hW' hS'
    refine ⟨W2, S', delVs env vs, items[i], _, ok3, sl_wipe (sl.mono (s2.trans s3).vis) vs, delVs_len hl, rx, hs i _ acc S' hdd h2, fun e2 σ3 h3 sl3 hl3 hw3 => ⟨?_, ?_⟩⟩
    · rw [hw3]; exact wipe_wipe
    · refine ⟨W2, e2, S', _, _, ok3, sl3, h3, fun b S4 W4 H4 h4 s4 ok4 => ?_, CXc.no⟩
      obtain ⟨j1, j2, j3⟩ := s4.frm p _ k1 k2 k3
      cases b with
      | true =>
        refine iteT ⟨W4, e2, S4, _, _, ok4, sl3.mono s4.vis, (if_pos rfl).mp h4, fun d S5 v W5 H5 h5 s5 ok5 r5 => ?_, CXc.no⟩
        obtain ⟨l1, l2, l3⟩ := s5.frm p _ j1 j2 j3
        have st := s2.trans (s3.trans (s4.trans s5))
        have rlen := rw'.length
        refine ⟨ws, l1, by omega, W5, S5, acc ++ [d], ws ++ [v], st.out hp, ok5.out l2 l3, l2, l3, upd_same, (rw'.mono (s3.trans (s4.trans s5)).vis).append (Reps.one r5), ?_, h5⟩
        rw [List.length_append, List.length_singleton]; omega
      | false =>
        have st := s2.trans (s3.trans s4)
        exact iteF ⟨W4, S4, acc, ws, st, ok4, j2, j3, j1, rw'.mono (s3.trans s4).vis, by omega, (if_neg Bool.false_ne_true).mp h4⟩
  · have e : i = items.length := by omega
    subst e
    exact .inl ⟨jok.stop W' S' H' s2.vis ok2 hgS, fin p acc ws W' S' H' hp (hd _ _ h2) s2 ok2 hW' hS' hH' rw'⟩
theorem lc_lst {Wx : WX} {vs : List Nat} {σ : L2.St} {H : Hp} {Q : VK} {K : PySem.W.Frag} {n : Nat} (hl : σ.length = n) (h : lE K Wx (wLc wi t tt te vs) σ H Q) :
    tLc (lI K Wx wi) (lG K n vs t) (lT K (fun _ _ _ _ => False) tt) (lE K (fun _ _ _ _ => False) te) vs σ H Q := by
  obtain ⟨W, env, S, Q0, X1, ok, sl, hw, cv, cx⟩ := h
  refine ⟨W, env, S, _, X1, ok, sl, hw, fun items g S1 W1 H1 J ⟨hz, h1⟩ s1 ok1 jok => ?_, cx⟩
  exact lc_go (Wx := Wx) (H := H) hl hz h1 ok1 (sl.mono s1.vis) jok fun p acc ws W2 S2 H2 hp q s2 ok2 a b c r =>
    cv _ S2 _ _ H2 q ((s1.trans s2).see' hp a s1) (ok2.see a b c) ⟨p, ws, rfl, upd_same, r.mono (same_new a)⟩
theorem lc_lstM {Wx : WX} {vs : List Nat} {σ : L2.St} {H : Hp} {Q : VK} {K : PySem.W.Frag} {n : Nat} (hl : σ.length = n) (h : lE K Wx (wLcM wi t tt te vs) σ H Q) :
    tLc (lI K Wx wi) (lG K n vs t) (lT K (fun _ _ _ _ => False) tt) (lE K (fun _ _ _ _ => False) te) vs σ H Q := by
  obtain ⟨W, env, S, Q0, X1, ok, sl, hw, cv, cx⟩ := h
  refine ⟨W, env, S, _, X1, ok, sl, hw, fun items g S1 W1 H1 J ⟨hz, h1⟩ s1 ok1 jok => ?_, cx⟩
  exact lc_go (Wx := Wx) (H := H) hl hz h1 ok1 (sl.mono s1.vis) jok fun p acc ws W2 S2 H2 hp q s2 ok2 a b c r =>
    cv _ _ _ _ H2 (q p b) (s1.trans (s2.own hp)) (ok2.own (m := .lst acc) a c ⟨ws, rfl, r⟩) rfl
variable {pos2 : Pos} {i : Nat} {x : Str}
theorem pd_lcW {w : WPe} (hc : X.calm = true) (hN : X.N.Nodup) (hi : PDi X tg iter wi) (ok : BlkOk X.N X.env.scope scope own)
    (hg : ∀ (s : Shared) (H : Hp) (C : Addr) (cl : List (Str × Addr)) (fp : List Addr), PDg (X.blk s H scope (compEnvC scope cl C X.env) fp) tg (own.map (·.2)) t) (ht : ∀ (s : Shared) (H : Hp) (C : Addr) (cl : List (Str × Addr)) (fp : List Addr), PDts (X.blk s H scope (compEnvC scope cl C X.env) fp) ifs tt)
    (he : ∀ (s : Shared) (H : Hp) (C : Addr) (cl : List (Str × Addr)) (fp : List Addr), PD (X.blk s H scope (compEnvC scope cl C X.env) fp) elt te)
    (hw : ∀ Wx σ H Q, σ.length = X.N.length → lE X.K Wx w σ H Q → tLc (lI X.K Wx wi) (lG X.K X.N.length (own.map (·.2)) t) (lT X.K (fun _ _ _ _ => False) tt) (lE X.K (fun _ _ _ _ => False) te) (own.map (·.2)) σ H Q)
    (hs : ∀ x, foldedSetIterable iter X.env x = pure x := by intro _; rfl) : PD X (.ListComp elt [⟨tg, iter, ifs, 0⟩] scope pos) w :=
  ⟨fun Wx tk => ⟨fun pins s σ H Q I h => (pe_lc hc hN (hi.run Wx tk) ok (fun s H C cl fp => (hg s H C cl fp).run) (fun s H C cl fp => (ht s H C cl fp).run _ takesF) (fun s H C cl fp => (he s H C cl fp).run _ takesF) hs).run pins s σ H Q I (hw Wx σ H Q I.len h)⟩⟩
theorem pd_lc (hc : X.calm = true) (hN : X.N.Nodup) (hi : PDi X tg iter wi) (ok : BlkOk X.N X.env.scope scope own)
    (hg : ∀ (s : Shared) (H : Hp) (C : Addr) (cl : List (Str × Addr)) (fp : List Addr), PDg (X.blk s H scope (compEnvC scope cl C X.env) fp) tg (own.map (·.2)) t) (ht : ∀ (s : Shared) (H : Hp) (C : Addr) (cl : List (Str × Addr)) (fp : List Addr), PDts (X.blk s H scope (compEnvC scope cl C X.env) fp) ifs tt)
    (he : ∀ (s : Shared) (H : Hp) (C : Addr) (cl : List (Str × Addr)) (fp : List Addr), PD (X.blk s H scope (compEnvC scope cl C X.env) fp) elt te)
    (hs : ∀ x, foldedSetIterable iter X.env x = pure x := by intro _; rfl) : PD X (.ListComp elt [⟨tg, iter, ifs, 0⟩] scope pos) (wLc wi t tt te (own.map (·.2))) := pd_lcW hc hN hi ok hg ht he (fun _ _ _ _ hl h => lc_lst hl h) hs
theorem pd_lcM (hc : X.calm = true) (hN : X.N.Nodup) (hi : PDi X tg iter wi) (ok : BlkOk X.N X.env.scope scope own)
    (hg : ∀ (s : Shared) (H : Hp) (C : Addr) (cl : List (Str × Addr)) (fp : List Addr), PDg (X.blk s H scope (compEnvC scope cl C X.env) fp) tg (own.map (·.2)) t) (ht : ∀ (s : Shared) (H : Hp) (C : Addr) (cl : List (Str × Addr)) (fp : List Addr), PDts (X.blk s H scope (compEnvC scope cl C X.env) fp) ifs tt)
    (he : ∀ (s : Shared) (H : Hp) (C : Addr) (cl : List (Str × Addr)) (fp : List Addr), PD (X.blk s H scope (compEnvC scope cl C X.env) fp) elt te)
    (hs : ∀ x, foldedSetIterable iter X.env x = pure x := by intro _; rfl) : PD X (.ListComp elt [⟨tg, iter, ifs, 0⟩] scope pos) (wLcM wi t tt te (own.map (·.2))) := pd_lcW hc hN hi ok hg ht he (fun _ _ _ _ hl h => lc_lstM hl h) hs
/-- x = [..] on one line -/
theorem pds_setLcW {w : WPe} (hc : X.calm = true) (hN : X.N.Nodup) (hy : X.N[i]? = some x) (hyl : X.env.scope.names.lookup x = some .local) {px : Pos}
    (hsw : swapsWith (.ListComp elt [⟨tg, iter, ifs, 0⟩] scope pos) (some (.Name x px)) pos2.line X.env = pure true) (hi : PDi X tg iter wi) (ok : BlkOk X.N X.env.scope scope own)
    (hg : ∀ (s : Shared) (H : Hp) (C : Addr) (cl : List (Str × Addr)) (fp : List Addr), PDg (X.blk s H scope (compEnvC scope cl C X.env) fp) tg (own.map (·.2)) t) (ht : ∀ (s : Shared) (H : Hp) (C : Addr) (cl : List (Str × Addr)) (fp : List Addr), PDts (X.blk s H scope (compEnvC scope cl C X.env) fp) ifs tt)
    (he : ∀ (s : Shared) (H : Hp) (C : Addr) (cl : List (Str × Addr)) (fp : List Addr), PD (X.blk s H scope (compEnvC scope cl C X.env) fp) elt te)
    (hw : ∀ Wx σ H Q, σ.length = X.N.length → lE X.K Wx w σ H Q → tLc (lI X.K Wx wi) (lG X.K X.N.length (own.map (·.2)) t) (lT X.K (fun _ _ _ _ => False) tt) (lE X.K (fun _ _ _ _ => False) te) (own.map (·.2)) σ H Q)
    (hs : ∀ x, foldedSetIterable iter X.env x = pure x := by intro _; rfl) : PDs X (.Assign [.Name x px] (.ListComp elt [⟨tg, iter, ifs, 0⟩] scope pos) pos2) (wSet i w) :=
  ⟨fun Wx tk => PS.imp (ps_setLc hc hN hy hyl hsw (hi.run Wx tk) ok (fun s H C cl fp => (hg s H C cl fp).run) (fun s H C cl fp => (ht s H C cl fp).run _ takesF) (fun s H C cl fp => (he s H C cl fp).run _ takesF) hs) fun D σ H ⟨W, env, S, q, ok, sl, hl, hww, cs⟩ =>
    hw Wx σ H _ hl ⟨W, env, S, _, _, ok, sl, hww, fun d S1 v W1 H1 h1 s1 ok1 r1 => cs.nx _ S1 _ W1 H1 h1 s1 ok1 ((sl.mono s1.vis).set (by rw [hl]; exact lt_of_some hy) r1) (by rw [List.length_set]; exact hl), CXc.of cs sl⟩⟩
theorem pds_setLc (hc : X.calm = true) (hN : X.N.Nodup) (hy : X.N[i]? = some x) (hyl : X.env.scope.names.lookup x = some .local) {px : Pos}
    (hsw : swapsWith (.ListComp elt [⟨tg, iter, ifs, 0⟩] scope pos) (some (.Name x px)) pos2.line X.env = pure true) (hi : PDi X tg iter wi) (ok : BlkOk X.N X.env.scope scope own)
    (hg : ∀ (s : Shared) (H : Hp) (C : Addr) (cl : List (Str × Addr)) (fp : List Addr), PDg (X.blk s H scope (compEnvC scope cl C X.env) fp) tg (own.map (·.2)) t) (ht : ∀ (s : Shared) (H : Hp) (C : Addr) (cl : List (Str × Addr)) (fp : List Addr), PDts (X.blk s H scope (compEnvC scope cl C X.env) fp) ifs tt)
    (he : ∀ (s : Shared) (H : Hp) (C : Addr) (cl : List (Str × Addr)) (fp : List Addr), PD (X.blk s H scope (compEnvC scope cl C X.env) fp) elt te)
    (hs : ∀ x, foldedSetIterable iter X.env x = pure x := by intro _; rfl) : PDs X (.Assign [.Name x px] (.ListComp elt [⟨tg, iter, ifs, 0⟩] scope pos) pos2) (wSet i (wLc wi t tt te (own.map (·.2)))) :=
  pds_setLcW hc hN hy hyl hsw hi ok hg ht he (fun _ _ _ _ hl h => lc_lst hl h) hs
theorem pds_setLcM (hc : X.calm = true) (hN : X.N.Nodup) (hy : X.N[i]? = some x) (hyl : X.env.scope.names.lookup x = some .local) {px : Pos}
    (hsw : swapsWith (.ListComp elt [⟨tg, iter, ifs, 0⟩] scope pos) (some (.Name x px)) pos2.line X.env = pure true) (hi : PDi X tg iter wi) (ok : BlkOk X.N X.env.scope scope own)
    (hg : ∀ (s : Shared) (H : Hp) (C : Addr) (cl : List (Str × Addr)) (fp : List Addr), PDg (X.blk s H scope (compEnvC scope cl C X.env) fp) tg (own.map (·.2)) t) (ht : ∀ (s : Shared) (H : Hp) (C : Addr) (cl : List (Str × Addr)) (fp : List Addr), PDts (X.blk s H scope (compEnvC scope cl C X.env) fp) ifs tt)
    (he : ∀ (s : Shared) (H : Hp) (C : Addr) (cl : List (Str × Addr)) (fp : List Addr), PD (X.blk s H scope (compEnvC scope cl C X.env) fp) elt te)
    (hs : ∀ x, foldedSetIterable iter X.env x = pure x := by intro _; rfl) : PDs X (.Assign [.Name x px] (.ListComp elt [⟨tg, iter, ifs, 0⟩] scope pos) pos2) (wSet i (wLcM wi t tt te (own.map (·.2)))) :=
  pds_setLcW hc hN hy hyl hsw hi ok hg ht he (fun _ _ _ _ hl h => lc_lstM hl h) hs
end
end DL
set_option Elab.async false
set_option linter.all false
set_option maxRecDepth 100000
set_option maxHeartbeats 1000000
/-! The data layer, part h: contracts of defs by name. -/
namespace DL
open PySem PySem.Spec PyProof.Rows L2

def DefAt (K : PySem.W.Frag) (mg : Str → Option Value) (x qual : Str) (st : Stmt) (ps : List Str) : Prop := ∃ f fd, Fun K x qual st f fd ∧ mg x = some (.ref f) ∧ Binds K fd ps []
def MetAt (K : PySem.W.Frag) (C : Addr) (m qual : Str) (st : Stmt) (ps : List Str) : Prop := ∃ f fd, Fun K m qual st f fd ∧ Meth K C m f ∧ Binds K fd ps []
def MkAt (K : PySem.W.Frag) (C : Addr) (qual : Str) (st : Stmt) (ps : List Str) : Prop := ∃ f fd, Fun K "__init__" qual st f fd ∧ Mk K C f ∧ Binds K fd ps []
section
variable (P : Program) (w : World) (K : PySem.W.Frag) (mg : Str → Option Value) (base : Heap)
def FnC (k : Nat) (x : Str) (ps : List Str) (spec : Ctr) : Prop := ∃ f fd, FnD P w K mg base k f fd ps spec ∧ mg x = some (.ref f) ∧ PySem.W.keepIn K (.ref f) = true ∧ Binds K fd ps []
def MtC (C : Addr) (k : Nat) (m : Str) (ps : List Str) (spec : Ctr) : Prop := ∃ f fd, FnD P w K mg base k f fd ps spec ∧ Meth K C m f ∧ Binds K fd ps []
def MkC (C : Addr) (k : Nat) (ps : List Str) (spec : Ctr) : Prop := ∃ f fd, FnD P w K mg base k f fd ps spec ∧ Mk K C f ∧ Binds K fd ps []
end
/-- what a body is to end in -/
def endQ (Q : Qd) (X1 : XQ) : QS := { nx := fun _ S' => Q .non S', rt := Q, bk := fun _ _ => False, ct := fun _ _ => False, xc := fun C fs _ S' => X1 C fs S' }
section
variable {P : Program} {w : World} {K : PySem.W.Frag} {mg : Str → Option Value} {base : Heap} {x qual : Str} {st : Stmt} {N ps : List Str} {k : Nat} {spec : Ctr} {ws : WPs} {C : Addr}
theorem fnd_mk {f : Addr} {fd : FuncData} (F : Fun K x qual st f fd) (S : FnScope N ps (defScope st)) (hle : ps.length ≤ N.length) (len : ∀ ds S Q E, spec ds S Q E → ds.length = ps.length)
    (hd : ∀ (f : Addr) (cdv : Value) (A : Around) (outer : List Env) (s : Shared) (H : Hp) (E : XK), Room k (A.deeper (envOfC qual (defScope st) s.heap.objs.size f cdv)) → PDss (cxOf (L2.CX P w) P w K mg base N qual (defScope st) f cdv A outer s H E) (defBody st) ws)
    (hr : ∀ ds S Q X1, spec ds S Q X1 → ws (startD N ds) S (endQ Q X1)) : FnD P w K mg base (k + 1) f fd ps spec :=
  Fun.okD F S hle len fun cdv A outer s H E hrm => ⟨ws, hd f cdv A outer s H E hrm, hr⟩
theorem FnC.mk (D : DefAt K mg x qual st ps) (S : FnScope N ps (defScope st)) (hle : ps.length ≤ N.length) (len : ∀ ds S Q E, spec ds S Q E → ds.length = ps.length)
    (hd : ∀ (f : Addr) (cdv : Value) (A : Around) (outer : List Env) (s : Shared) (H : Hp) (E : XK), Room k (A.deeper (envOfC qual (defScope st) s.heap.objs.size f cdv)) → PDss (cxOf (L2.CX P w) P w K mg base N qual (defScope st) f cdv A outer s H E) (defBody st) ws)
    (hr : ∀ ds S Q X1, spec ds S Q X1 → ws (startD N ds) S (endQ Q X1)) : FnC P w K mg base (k + 1) x ps spec := by
  obtain ⟨f, fd, F, hm, hb⟩ := D
  exact ⟨f, fd, fnd_mk F S hle len hd hr, hm, F.kp, hb⟩
theorem MtC.mk {m : Str} (D : MetAt K C m qual st ps) (S : FnScope N ps (defScope st)) (hle : ps.length ≤ N.length) (len : ∀ ds S Q E, spec ds S Q E → ds.length = ps.length)
    (hd : ∀ (f : Addr) (cdv : Value) (A : Around) (outer : List Env) (s : Shared) (H : Hp) (E : XK), Room k (A.deeper (envOfC qual (defScope st) s.heap.objs.size f cdv)) → PDss (cxOf (L2.CX P w) P w K mg base N qual (defScope st) f cdv A outer s H E) (defBody st) ws)
    (hr : ∀ ds S Q X1, spec ds S Q X1 → ws (startD N ds) S (endQ Q X1)) : MtC P w K mg base C (k + 1) m ps spec := by
  obtain ⟨f, fd, F, hm, hb⟩ := D
  exact ⟨f, fd, fnd_mk F S hle len hd hr, hm, hb⟩
theorem MkC.mk (D : MkAt K C qual st ps) (S : FnScope N ps (defScope st)) (hle : ps.length ≤ N.length) (len : ∀ ds S Q E, spec ds S Q E → ds.length = ps.length)
    (hd : ∀ (f : Addr) (cdv : Value) (A : Around) (outer : List Env) (s : Shared) (H : Hp) (E : XK), Room k (A.deeper (envOfC qual (defScope st) s.heap.objs.size f cdv)) → PDss (cxOf (L2.CX P w) P w K mg base N qual (defScope st) f cdv A outer s H E) (defBody st) ws)
    (hr : ∀ ds S Q X1, spec ds S Q X1 → ws (startD N ds) S (endQ Q X1)) : MkC P w K mg base C (k + 1) ps spec := by
  obtain ⟨f, fd, F, hm, hb⟩ := D
  exact ⟨f, fd, fnd_mk F S hle len hd hr, hm, hb⟩
/-- a promise for no arguments at all: where a recursion begins -/
theorem FnC.zero (D : DefAt K mg x qual st ps) : FnC P w K mg base k x ps (fun _ _ _ _ => False) := by
  obtain ⟨f, fd, F, hm, hb⟩ := D
  exact ⟨f, fd, ⟨fun vs H Q E ⟨_, _, _, _, _, _, _, h, _⟩ => h.elim, fun A outer s H args us vs Q E _ _ _ _ ⟨_, _, _, _, _, _, _, h, _⟩ => h.elim⟩, hm, F.kp, hb⟩
theorem FnD.imp {f : Addr} {fd : FuncData} {spec' : Ctr} (F : FnD P w K mg base k f fd ps spec) (h : ∀ ds S Q X1, spec' ds S Q X1 → spec ds S Q X1) : FnD P w K mg base k f fd ps spec' :=
  FnOk.imp F fun vs H Q E ⟨W, S, ds, Q0, X1, ok, r, hs, cv, cx⟩ => ⟨W, S, ds, Q0, X1, ok, r, h _ _ _ _ hs, cv, cx⟩
theorem FnC.imp {spec' : Ctr} (F : FnC P w K mg base k x ps spec) (h : ∀ ds S Q X1, spec' ds S Q X1 → spec ds S Q X1) : FnC P w K mg base k x ps spec' := by
  obtain ⟨f, fd, F, a⟩ := F
  exact ⟨f, fd, FnD.imp F h, a⟩
theorem FnC.mono {k' : Nat} (F : FnC P w K mg base k x ps spec) (h : k ≤ k') : FnC P w K mg base k' x ps spec := by
  obtain ⟨f, fd, F, a⟩ := F
  exact ⟨f, fd, FnOk.mono F h, a⟩
end
section
variable {X : Cx} {k : Nat} {C : Addr} {ps : List Str} {spec : Ctr} {x m : Str} {p pos apos : Pos} {e o : Expr} {es : List Expr} {wo : WPe} {wa : WPa}
theorem pd_fn (G : FnC X.prog X.w X.K X.mg X.base k x ps spec) (hr : Room k X.A) (ha : PDa X (e :: es) wa) (hg : Gl X x := by rfl) (hdb : (x == ("__debug__" : Str)) = false := by decide)
    (he : starEach (e :: es) X.env = (false, eval e X.env) :: starEach es X.env := by rfl) (hpl : (backTo pos (starEach es X.env)).any (·.1) = false := by rfl) : PD X (.Call (.Name x p) (e :: es) [] pos) (wCall spec wa) := by
  obtain ⟨f, fd, F, hm, hk, hb⟩ := G
  exact pd_call F hr hm hk hb ha hg hdb he hpl
theorem pd_fn0 (G : FnC X.prog X.w X.K X.mg X.base k x ps spec) (hr : Room k X.A) (hg : Gl X x := by rfl) (hdb : (x == ("__debug__" : Str)) = false := by decide) : PD X (.Call (.Name x p) [] [] pos) (wCall spec wNil) := by
  obtain ⟨f, fd, F, hm, hk, hb⟩ := G
  exact pd_call0 F hr hm hk hb hg hdb
theorem pd_mt {N : List Str} {pl : Sem Bool} (c : Cls X.K C) (G : MtC X.prog X.w X.K X.mg X.base C k m ps spec) (hN : m ∉ N) (hr : Room k X.A) (ho : PD X o wo) (ha : PDa X (e :: es) wa)
    (hst : starEach (e :: es) X.env = (false, eval e X.env) :: starEach es X.env := by rfl) (hpl : (backTo pos (starEach es X.env)).any (·.1) = false := by rfl)
    (ht : eval (.Call (.Attribute o m apos) (e :: es) [] pos) X.env = (do
      let ov ← eval o X.env
      standAt apos.atName
      let (f, first) ← holding [ov] (getMethod ov m pl)
      callWith pos f first (backTo pos (starEach (e :: es) X.env)) (backToKw pos (keywordEach [] X.env))) := by rfl) : PD X (.Call (.Attribute o m apos) (e :: es) [] pos) (wMeth C N spec wo wa) := by
  obtain ⟨f, fd, F, hm, hb⟩ := G
  exact pd_meth c hm hN F hr hb ho ha hst hpl ht
theorem pd_mt0 {N : List Str} {pl : Sem Bool} (c : Cls X.K C) (G : MtC X.prog X.w X.K X.mg X.base C k m ps spec) (hN : m ∉ N) (hr : Room k X.A) (ho : PD X o wo)
    (ht : eval (.Call (.Attribute o m apos) [] [] pos) X.env = (do
      let ov ← eval o X.env
      standAt apos.atName
      let (f, first) ← holding [ov] (getMethod ov m pl)
      callWith pos f first (backTo pos (starEach [] X.env)) (backToKw pos (keywordEach [] X.env))) := by rfl) : PD X (.Call (.Attribute o m apos) [] [] pos) (wMeth C N spec wo wNil) := by
  obtain ⟨f, fd, F, hm, hb⟩ := G
  exact pd_meth0 c hm hN F hr hb ho ht
theorem pd_mk {N : List Str} (G : MkC X.prog X.w X.K X.mg X.base C k ps spec) (hm : X.mg x = some (.ref C)) (hN : N.Nodup) (hl : N.length ≤ 900) (hr : Room (k + 1) X.A) (ha : PDa X (e :: es) wa) (hg : Gl X x := by rfl) (hdb : (x == ("__debug__" : Str)) = false := by decide)
    (he : starEach (e :: es) X.env = (false, eval e X.env) :: starEach es X.env := by rfl) (hpl : (backTo pos (starEach es X.env)).any (·.1) = false := by rfl) : PD X (.Call (.Name x p) (e :: es) [] pos) (wMake C N spec wa) := by
  obtain ⟨f, fd, F, M, hb⟩ := G
  exact pd_make M hN hl F hr hm hb ha hg hdb he hpl
end
end DL
set_option Elab.async false
set_option linter.all false
set_option maxRecDepth 100000
set_option maxHeartbeats 1000000
/-! The data layer, part i: forms of data, their equality; words that reduce a reading. -/
namespace DL
open PySem PySem.Spec PyProof.Rows L2

/-! ### data of a depth -/
def okP (n : Nat) (p : PyData) : Prop := p.canLay0 = true ∧ p.depth ≤ n
theorem okP_int {n : Nat} {i : Int} : okP n (.int i) := ⟨rfl, Nat.zero_le _⟩
theorem okP_bool {n : Nat} {i : Bool} : okP n (.bool i) := ⟨rfl, Nat.zero_le _⟩
theorem okP_none {n : Nat} : okP n .none := ⟨rfl, Nat.zero_le _⟩
theorem okP_all {n : Nat} : ∀ {xs : List D}, (∀ x, x ∈ xs → okP n (toP x)) → PyData.canLayAll0 (toPs xs) = true ∧ PyData.depthAll (toPs xs) ≤ n
  | [], _ => ⟨rfl, Nat.zero_le _⟩
  | x :: r, h => by
    obtain ⟨a, b⟩ := h x List.mem_cons_self
    obtain ⟨c, d⟩ := okP_all (xs := r) fun y hy => h y (List.mem_cons_of_mem _ hy)
    refine ⟨?_, ?_⟩
    · show (PyData.canLay0 (toP x) && PyData.canLayAll0 (toPs r)) = true
      rw [a, c]; rfl
    · show max (PyData.depth (toP x)) (PyData.depthAll (toPs r)) ≤ n
      exact Nat.max_le.mpr ⟨b, d⟩
theorem okP_lst {n : Nat} {xs : List D} (h : ∀ x, x ∈ xs → okP n (toP x)) : okP (n + 1) (toP (.lst xs)) := ⟨(okP_all h).1, Nat.succ_le_succ (okP_all h).2⟩
theorem okP_tup {n : Nat} {xs : List D} (h : ∀ x, x ∈ xs → okP n (toP x)) : okP (n + 1) (toP (.tup xs)) := ⟨(okP_all h).1, Nat.succ_le_succ (okP_all h).2⟩
theorem okP_mono {n m : Nat} {p : PyData} (h : okP n p) (e : n ≤ m) : okP m p := ⟨h.1, Nat.le_trans h.2 e⟩
theorem shaped_of {n : Nat} {p : PyData} (h : okP n p) (e : n ≤ 64) : SeqAt.shaped p = true := by
  unfold SeqAt.shaped
  rw [h.1, decide_eq_true (Nat.le_trans h.2 e)]; rfl
theorem eqvAll_map {α : Type} [DecidableEq α] {f : α → D} (hf : ∀ a b, PyData.eqv (toP (f a)) (toP (f b)) = decide (a = b)) : ∀ xs ys : List α, PyData.eqvAll (toPs (xs.map f)) (toPs (ys.map f)) = decide (xs = ys)
  | [], [] => by simp [toPs, PyData.eqvAll]
  | [], _ :: _ => by simp [toPs, PyData.eqvAll]
  | _ :: _, [] => by simp [toPs, PyData.eqvAll]
  | a :: r, b :: s => by
    show (PyData.eqv (toP (f a)) (toP (f b)) && PyData.eqvAll (toPs (r.map f)) (toPs (s.map f))) = _
    rw [hf, eqvAll_map hf r s]
    by_cases h1 : a = b <;> by_cases h2 : r = s <;> simp [h1, h2]
/-! ### rows of ints -/
def dL (xs : List Int) : D := .lst (xs.map D.int)
def dT (xs : List Int) : D := .tup (xs.map D.int)
/-- a row of ints as a tuple (true) or a list -/
def dR (k : Bool) (xs : List Int) : D := if k = true then dT xs else dL xs
/-- rows as a tuple or a list of tuples or lists -/
def rows (k j : Bool) (xs : List (List Int)) : D := if k = true then .tup (xs.map (dR j)) else .lst (xs.map (dR j))
theorem eqv_int (a b : Int) : PyData.eqv (toP (.int a)) (toP (.int b)) = decide (a = b) := by
  show (a == b) = _
  rw [Bool.beq_eq_decide_eq]
theorem eqv_dL (a b : List Int) : PyData.eqv (toP (dL a)) (toP (dL b)) = decide (a = b) := eqvAll_map eqv_int a b
theorem eqv_dT (a b : List Int) : PyData.eqv (toP (dT a)) (toP (dT b)) = decide (a = b) := eqvAll_map eqv_int a b
theorem okP_ints {xs : List Int} : ∀ x, x ∈ xs.map D.int → okP 0 (toP x) := fun x h => by
  obtain ⟨i, _, rfl⟩ := List.mem_map.mp h
  exact okP_int
theorem okP_dL {xs : List Int} : okP 1 (toP (dL xs)) := okP_lst okP_ints
theorem okP_dT {xs : List Int} : okP 1 (toP (dT xs)) := okP_tup okP_ints
theorem seqA_dR {S : Sto} {k : Bool} {xs : List Int} : seqA S (dR k xs) = some (xs.map D.int) := by cases k <;> rfl
theorem seqA_rows {S : Sto} {k j : Bool} {xs : List (List Int)} : seqA S (rows k j xs) = some (xs.map (dR j)) := by cases k <;> rfl
section
variable {S : Sto} {a b : List Int} {i j : Int} {p q : Bool}
theorem shD_int : shD S (.int i) = true := rfl
theorem shD_bl : shD S (.bl p) = true := rfl
theorem shD_non : shD S .non = true := rfl
theorem shD_dL : shD S (dL a) = true := shaped_of okP_dL (by decide)
theorem shD_dT : shD S (dT a) = true := shaped_of okP_dT (by decide)
theorem shD_lst : shD S (.lst (a.map D.int)) = true := shaped_of okP_dL (by decide)
theorem shD_tup : shD S (.tup (a.map D.int)) = true := shaped_of okP_dT (by decide)
theorem eqD_int : eqD S (.int i) (.int j) = decide (i = j) := eqv_int i j
theorem eqD_bl : eqD S (.bl p) (.bl q) = (p == q) := rfl
theorem eqD_dL : eqD S (dL a) (dL b) = decide (a = b) := eqv_dL a b
theorem eqD_dT : eqD S (dT a) (dT b) = decide (a = b) := eqv_dT a b
theorem eqD_lst : eqD S (.lst (a.map D.int)) (.lst (b.map D.int)) = decide (a = b) := eqv_dL a b
theorem eqD_tup : eqD S (.tup (a.map D.int)) (.tup (b.map D.int)) = decide (a = b) := eqv_dT a b
end
/-! ### slices of rows of ints -/
def cutI (xs : List Int) (lo hi : Option Int) : List Int := (xs.drop (HT.sIx xs.length 0 lo)).take (HT.sIx xs.length xs.length hi - HT.sIx xs.length 0 lo)
theorem cutD_int {xs : List Int} {lo hi : Option Int} : cutD (xs.map D.int) lo hi = (cutI xs lo hi).map D.int := by
  unfold cutD cutI
  rw [List.length_map, List.map_take, List.map_drop]
theorem sIx_pos {n d : Nat} {i : Int} (h : 0 ≤ i) : HT.sIx n d (some i) = min i.toNat n := by
  obtain ⟨k, rfl⟩ := Int.eq_ofNat_of_zero_le h
  rw [HT.sIx_nat]
  simp
theorem cutI_from {xs : List Int} {i : Int} (h : 0 ≤ i) : cutI xs (some i) none = xs.drop i.toNat := by
  unfold cutI
  rw [sIx_pos h, HT.sIx_none]
  by_cases q : i.toNat ≤ xs.length
  · rw [Nat.min_eq_left q, List.take_of_length_le]
    rw [List.length_drop]; exact Nat.le_refl _
  · rw [Nat.min_eq_right (by omega), List.drop_length, List.drop_eq_nil_of_le (by omega), List.take_nil]
theorem cutI_to {xs : List Int} {i : Int} (h : 0 ≤ i) : cutI xs none (some i) = xs.take i.toNat := by
  unfold cutI
  rw [sIx_pos h, HT.sIx_none, List.drop_zero, Nat.sub_zero]
  by_cases q : i.toNat ≤ xs.length
  · rw [Nat.min_eq_left q]
  · rw [Nat.min_eq_right (by omega), List.take_length, List.take_of_length_le (by omega)]
theorem cutI_both {xs : List Int} {i j : Int} (h : 0 ≤ i) (h2 : 0 ≤ j) : cutI xs (some i) (some j) = (xs.drop i.toNat).take (j.toNat - i.toNat) := by
  unfold cutI
  rw [sIx_pos h, sIx_pos h2]
  generalize i.toNat = a
  generalize j.toNat = b
  by_cases q : a ≤ xs.length
  · rw [Nat.min_eq_left q]
    by_cases q2 : b ≤ xs.length
    · rw [Nat.min_eq_left q2]
    · rw [Nat.min_eq_right (Nat.le_of_not_le q2), List.take_of_length_le (by rw [List.length_drop]; exact Nat.le_refl _), List.take_of_length_le (by rw [List.length_drop]; omega)]
  · rw [Nat.min_eq_right (Nat.le_of_not_le q), List.drop_length, List.drop_eq_nil_of_le (by omega), List.take_nil, List.take_nil]
end DL
set_option Elab.async false
set_option linter.all false
set_option maxRecDepth 100000
set_option maxHeartbeats 1000000
/-! The data layer, part j: the law's own head. -/
namespace DL
open PySem PySem.Spec PyProof.Rows L2
theorem cx_no {P : Program} {w : World} {o : List Env} {H : Hp} {s s' : Shared} {e : Value} (h : L2.CX P w o H s (fun _ _ _ => False) e s') : False := by
  obtain ⟨_, _, _, _, _, _, _, _, _, _, _, _, h⟩ := h
  exact h
/-- what is asked of the law: true, whatever else it leaves -/
def spScript : Ctr := fun ds S Q _ => ∃ cells : List Int, ds = [.fro (cells.map D.int)] ∧ cells.length ≤ 63 ∧ ∀ S', Q (.bl true) S'
theorem spScript_at {K : PySem.W.Frag} {H : Hp} {a : Addr} {ns : List Int} {E : XK} (hl : ns.length ≤ 63) (hS : SqL K H a (ns.map V.int)) : lSp K spScript [.ref a] H (fun v _ => v = .bl true) E :=
  ⟨H, fun _ => none, [.fro (ns.map D.int)], fun d _ => d = .bl true, X0, ⟨Same.refl H, (fun _ _ h => nomatch h), (fun _ _ h => nomatch h)⟩, ⟨_, _, rfl, ⟨a, _, rfl, hS, reps_ints⟩, rfl⟩, ⟨ns, rfl, hl, fun _ => rfl⟩,
    fun d S' v W' H' h _ _ r => by subst h; exact r, CXc.no⟩
end DL
set_option Elab.async false
set_option linter.all false
set_option maxRecDepth 100000
set_option maxHeartbeats 2000000
/-! The data layer, part k: enumerate of tuples. -/
namespace DL
open PySem PySem.Spec PyProof.Rows L2
abbrev itObj (a : Addr) : Obj := { cls := .type "tuple_iterator", data := .fields #[.ref a, .int 0 0] }
abbrev enObj (i : Addr) : Obj := { cls := .type "enumerate", data := .fields #[.none, .bool false, .ref i, rawInt 0, .none, .none] }
theorem enumT_meets (a : Addr) (xs : Array Value) (m : Nat) (od : Option Addr) (sl : Array (Option Value)) :
    Meets (Builtin.«enumerate.__new__» ⟨[.type "enumerate", .ref a], []⟩) (fun _ R s => s.heap.get? a = some { cls := .type "tuple", dict := od, data := .seq xs m, slots := sl } ∧
      R (.ok (.ret (.ref (s.heap.push (itObj a)).objs.size))) { s with heap := (s.heap.push (itObj a)).push (enObj s.heap.objs.size) }) :=
  .of_wp fun prog w A R s q => by
    obtain ⟨hp, gg, dr, tk, os⟩ := s
    obtain ⟨ha, q⟩ := q
    have hsub := sub_enumerate
    have hT : Heap.IsTuple (Shared.heap ⟨hp, gg, dr, tk, os⟩) a xs := ⟨_, ha, rfl, m, rfl⟩
    wp_walk using wpAny_loadPart' ha
    refine wpAny_stack_any fun st => wpAny_pure ?_
    split
    · rename_i c _ _ _ _ _
      cases (c == Value.type "enumerate")
      all_goals
        wp_walk using wpAny_loadPart' ha, wpAny_pyIter_tuple hT
        exact ⟨_, rfl, q⟩
    · wp_walk using wpAny_loadPart' ha, wpAny_pyIter_tuple hT
      exact ⟨_, rfl, q⟩
theorem call_enumT {prog : Program} {w : World} {A : Around} {E : Value → Shared → Prop} {s : Shared} {a : Addr} {xs : Array Value} {Q : Value → Shared → Prop} (hT : s.heap.IsTuple a xs)
    (q : ∀ h', IsEnum h' (s.heap.objs.size + 1) s.heap.objs.size 0 .none → h'.IsTupleIter s.heap.objs.size a 0 → (∀ b o, s.heap.get? b = some o → h'.get? b = some o) → Q (.ref (s.heap.objs.size + 1)) { s with heap := h' }) :
    wpAny (model prog w) A (call (.type "enumerate") [.ref a]) Q E s := by
  obtain ⟨⟨c, od, dt, sl⟩, ha, hc, m, hd⟩ := hT
  replace hc : c = .type "tuple" := hc
  replace hd : dt = .seq xs m := hd
  subst hc hd
  refine callType_new F.called_enumerate (by decide) (F.typeCall_enumerate_1 _) (F.newCall_enumerate_1 _) (fun obj => F.args_object_init_2 obj _) F.entry_enumerate_new (enumT_meets a xs m od sl) ⟨ha, ?_⟩
  have hz : (s.heap.push (itObj a)).objs.size = s.heap.objs.size + 1 := Heap.size_push ..
  show _ ∧ _
  rw [hz]
  have he : IsEnum ((s.heap.push (itObj a)).push (enObj s.heap.objs.size)) (s.heap.objs.size + 1) s.heap.objs.size 0 .none := by
    have z := Heap.get?_push_size (s.heap.push (itObj a)) (o := enObj s.heap.objs.size) rfl
    rw [hz] at z
    exact z
  exact ⟨⟨_, he, rfl⟩, q _ he ⟨_, Heap.get?_push_of_some _ (Heap.get?_push_size _ rfl), rfl, rfl⟩ fun b o x => Heap.get?_push_of_some _ (Heap.get?_push_of_some _ x)⟩
/-- the tuple at a, each item in a new pair -/
def IteT (K : PySem.W.Frag) (a : Addr) : It :=
  ⟨fun i H => ∃ (xs : List V) (x : V), SqT K H a xs ∧ xs[i]? = some x, fun i H v H' => ∃ T x, v = .ref T ∧ H T = none ∧ H' = upd H T (.tup [.int (i : Nat), x]) ∧ ∀ xs, SqT K H a xs → xs[i]? = some x, fun i H => ∃ xs : List V, SqT K H a xs ∧ xs.length = i⟩
theorem turn_enumT {P : Program} {w : World} {K : PySem.W.Frag} {elts : List Expr} {kk : Nat} {tpos : Pos} (a e it : Addr) :
    Turn P w K (.Tuple elts kk tpos) (IteT K a) [e, it] e (fun i h => (∃ old, IsEnum h e it ((i : Nat) : Int) old) ∧ h.IsTupleIter it a i ∧ e ≠ it ∧ a ≠ it ∧ e ≠ a) where
  mem := by simp
  obj := fun i h st b hb => by
    obtain ⟨⟨old, he⟩, ⟨o, ho, hc, hd⟩, _⟩ := st
    rcases (show b = e ∨ b = it by simpa using hb) with z | z
    · rw [z]; exact ⟨_, he, fun v q => nomatch q⟩
    · rw [z]; exact ⟨o, ho, fun v q => by rw [hd] at q; cases q⟩
  keep := fun i h h' st k => let ⟨⟨old, he⟩, hi, hne⟩ := st; ⟨⟨old, k e (by simp) _ he⟩, hi.at fun o q => k it (by simp) o q, hne⟩
  item := by
    intro X hP hw hK hc i pins s σ H E I hf st hg
    subst hP hw hK
    obtain ⟨⟨old, he⟩, hit, n1, n2, n3⟩ := st
    obtain ⟨xs, x, hq, hx⟩ := hg
    obtain ⟨its, rv, p, hz⟩ := I.tuple hq
    obtain ⟨u, hu, ru⟩ := rv.get hx
    have hel : e < s.heap.objs.size := Heap.lt_size he
    have hil : it < s.heap.objs.size := by obtain ⟨_, q, _⟩ := hit; exact Heap.lt_size q
    have hil2 : i < its.toArray.size := by
      have := lt_of_some hu
      simpa using this
    have hh : X.A.in1.handled = Option.none := I.ok.hd hc
    refine wpAny_pyNext_enum_itemD (Draws.tuple hh it a n2 its.toArray) he ⟨hit, (show s.heap.IsTuple a its.toArray from p)⟩ hil2 n1 (by simp [n1, n3]) fun x' h' tk hPx ho hst hT hsz hk => ?_
    have ex : x' = u := by
      have h1 : its[i]? = some x' := by simpa using hPx
      rw [hu] at h1
      exact (Option.some.inj h1).symm
    subst ex
    refine ⟨_, rfl, wpAny_letOwnedTupleGo_enum (s := { s with heap := h', toks := tk + 1 }) ho fun h'' he' sb => ?_⟩
    have hT2 : h''.get? s.heap.objs.size = some { cls := .type "tuple", data := .seq #[.int i tk, x'] } := (sb.2 _ (Nat.ne_of_gt hel)).trans hT
    have new : ObjOk X.prog X.w (upd H s.heap.objs.size (.tup [.int (i : Nat), x])) h'' s.heap.objs.size (.tup [.int (i : Nat), x]) :=
      ⟨by show 2 ≤ sizeLine; decide, [.int i tk, x'], .cons ⟨_, rfl⟩ (.cons ru .nil), ⟨_, hT2, rfl, _, rfl⟩⟩
    have I1 : Inv X pins σ (upd H s.heap.objs.size (.tup [.int (i : Nat), x])) { s with heap := h'', toks := tk + 1 } :=
      I.turnedNew (ch := [e, it]) (fun b ob hb q => (sb.2 b (fun z => hb (by simp [z]))).trans (hk b ob (fun z => hb (by simp [z])) (fun z => hb (by simp [z])) q)) hf (Nat.le_refl _) new
    refine ⟨.ref s.heap.objs.size, _, I1, rfl, ⟨_, x, rfl, I.hok.fresh (Nat.le_refl _), rfl, fun ys hy => by rw [I.tuple_inj hy hq]; exact hx⟩, ⟨⟨x', ?_⟩, hst.1.at fun o q => (sb.2 it (Ne.symm n1)).trans q, n1, n2, n3⟩, fun b hb => ?_⟩
    · have e1 : ((i + 1 : Nat) : Int) = (i : Int) + 1 := by omega
      rw [e1]; exact he'
    · have hb' : b < s.heap.objs.size := by
        rcases (show b = e ∨ b = it by simpa using hb) with z | z
        · rw [z]; exact hel
        · rw [z]; exact hil
      rw [upd_ne (Nat.ne_of_lt hb')]
      exact (hf b hb).1
  done := by
    intro X hP hw hK hc i pins s σ H E I hf st hg
    subst hP hw hK
    obtain ⟨⟨old, he⟩, hit, n1, n2, n3⟩ := st
    obtain ⟨xs, hq, hx⟩ := hg
    obtain ⟨its, rv, p, hz⟩ := I.tuple hq
    obtain ⟨f0, f1, f2, f3, f4, f5⟩ := hf it (by simp)
    have hl := rv.length
    have hh : X.A.in1.handled = Option.none := I.ok.hd hc
    have ei : i = its.toArray.size := by simp; omega
    subst ei
    exact wpAny_pyNext_enum_endD (Draws.tuple hh it a n2 its.toArray) he ⟨hit, (show s.heap.IsTuple a its.toArray from p)⟩ fun h' eb => ⟨rfl, I.turned (t' := s.toks) (fun b o hb q => eb b o hb q) f0 f1 f3 f4 f5⟩
  self := fun A i s Q E st h => let ⟨⟨_, he⟩, _⟩ := st; wpAny_pyIter_enum he h
end DL
set_option Elab.async false
set_option linter.all false
set_option maxRecDepth 100000
set_option maxHeartbeats 1000000
/-! The data layer, part l: enumerate, constants, isinstance of several, pop at a place, a list repeated, calls by keyword. -/
namespace DL
open PySem PySem.Spec PyProof.Rows L2
section
/-- pairs of a place and an item -/
def enumD : Nat → List D → List D
  | _, [] => []
  | j, x :: r => .tup [.int (j : Int), x] :: enumD (j + 1) r
theorem enumD_get : ∀ {j : Nat} {xs : List D} {i : Nat} {d : D}, (enumD j xs)[i]? = some d → ∃ x, xs[i]? = some x ∧ d = .tup [.int ((j + i : Nat) : Int), x]
  | _, [], _, _, h => by simp [enumD] at h
  | j, x :: r, 0, d, h => ⟨x, rfl, (Option.some.inj h).symm⟩
  | j, x :: r, i + 1, d, h => by
    obtain ⟨y, h1, h2⟩ := enumD_get (j := j + 1) (xs := r) (i := i) h
    exact ⟨y, h1, by rw [h2]; congr 3; omega⟩
theorem enumD_length : ∀ {j : Nat} {xs : List D}, (enumD j xs).length = xs.length
  | _, [] => rfl
  | j, x :: r => congrArg (· + 1) (enumD_length (j := j + 1) (xs := r))
def wEnum (w : WPe) : WPi := fun env S Q X => w env S (fun d S1 => some! (seqA S1 d) fun xs => Q (enumD 0 xs) (fun S' => seqA S' d = some xs) S1) X
def iEnA (K : PySem.W.Frag) (ta : TA) : TI := fun σ H R => ta σ H fun vs H1 => ∃ a, vs = [.ref a] ∧ (((∃ xs, SqL K H1 a xs) ∧ R (Ite K a) H1) ∨ ((∃ xs, SqT K H1 a xs) ∧ R (IteT K a) H1))
theorem pi_enA {X : Cx} {e : Expr} {ta : TA} {p pos tpos : Pos} {elts : List Expr} {kk : Nat} (hg : Gl X "enumerate") (hm : X.mg "enumerate" = none) (ha : PA X [e] ta) (hs : starEach [e] X.env = [(false, eval e X.env)] := by rfl) :
    PI X (.Tuple elts kk tpos) (.Call (.Name "enumerate" p) [e] [] pos) (iEnA X.K ta) := by
  refine ⟨fun pins s σ H R I h => ?_⟩
  refine Call_ (ld_blt I hg hm boot_enumerate (PyProof.Rows.callWith_type1 (thn (ha.run pos pins s σ H _ I h) fun us s1 ⟨vs, H1, I1, r1, a, ev, q1⟩ => ?_) hs rfl))
  subst ev
  cases r1 with
  | cons r rr =>
    cases rr
    cases r
    have fpk : ∀ b, b ∈ [s1.heap.objs.size + 1, s1.heap.objs.size] → FpOk X pins H1 b := fun b hb => by
      have hle : s1.heap.objs.size ≤ b := by
        rcases (show b = s1.heap.objs.size + 1 ∨ b = s1.heap.objs.size by simpa using hb) with z | z
        · rw [z]; exact Nat.le_add_right _ _
        · rw [z]; exact Nat.le_refl _
      exact I1.fpOk hle (I1.hok.fresh hle)
    rcases q1 with ⟨⟨xs, hq⟩, q⟩ | ⟨⟨xs, hq⟩, q⟩
    · obtain ⟨its, rv, pl, hz⟩ := I1.list hq
      refine call_enumerate_list pl.isList fun h' he hit hsz hk => wpAny_pyIter_enum he ?_
      exact ⟨s1.heap.objs.size + 1, [s1.heap.objs.size + 1, s1.heap.objs.size], _, _, H1, rfl, I1.kept (t' := s1.toks) hk, turn_enum a (s1.heap.objs.size + 1) s1.heap.objs.size, ⟨⟨.none, he⟩, hit, Nat.succ_ne_self _⟩, fpk, q⟩
    · obtain ⟨its, rv, pl, hz⟩ := I1.tuple hq
      have hT : s1.heap.IsTuple a its.toArray := pl
      have hal : a < s1.heap.objs.size := by
        obtain ⟨o, ho, _⟩ := hT
        exact Heap.lt_size ho
      refine call_enumT hT fun h' he hit hk => wpAny_pyIter_enum he ?_
      exact ⟨s1.heap.objs.size + 1, [s1.heap.objs.size + 1, s1.heap.objs.size], _, _, H1, rfl, I1.kept (t' := s1.toks) hk, turn_enumT a (s1.heap.objs.size + 1) s1.heap.objs.size, ⟨⟨.none, he⟩, hit, Nat.succ_ne_self _, Nat.ne_of_lt hal, (Nat.ne_of_lt (Nat.lt_succ_of_lt hal)).symm⟩, fpk, q⟩
end
section
variable {K : PySem.W.Frag}
theorem jok_enL {W0 : Hp} {S0 : Sto} {H0 : Hp} {d : D} {a : Addr} {xs : List D} (ok : Ok K W0 S0 H0) (r : Rep K W0 d (.ref a)) (hL : seqL S0 d = some xs) (hA : ∀ {S}, seqA S d = seqL S d) :
    (∃ vs, SqL K H0 a vs) ∧ JOk K (Ite K a) W0 (enumD 0 xs) (fun S' => seqA S' d = some xs) := by
  obtain ⟨b, ws, e1, e2, e3⟩ := seqL_rep ok r hL
  cases e1
  refine ⟨⟨ws, e2⟩, ⟨fun i W S H d' hd s1 ok1 g => ?_, fun W S H s1 ok1 g => ?_⟩⟩
  · rw [hA] at g
    obtain ⟨c, zs, e7, e8, e9⟩ := seqL_rep ok1 (r.mono s1) g
    cases e7
    obtain ⟨y, hy, rfl⟩ := enumD_get hd
    obtain ⟨u, hu, ru⟩ := e9.get hy
    refine ⟨⟨zs, u, e8, hu⟩, fun x H' ⟨T, x', e4, e5, e6, e10⟩ => ?_⟩
    subst e4 e6
    have e11 := e10 zs e8
    rw [hu] at e11
    cases e11
    have n := ok1.fresh e5
    exact ⟨_, ok1.stW e5, ok1.newW e5, T, _, rfl, SqT.of upd_same, _, _, rfl, by rw [Nat.zero_add]; rfl, _, _, rfl, ru.mono (same_new n.1), rfl⟩
  · rw [hA] at g
    obtain ⟨c, zs, e7, e8, e9⟩ := seqL_rep ok1 (r.mono s1) g
    cases e7
    rw [enumD_length]
    exact ⟨zs, e8, Nat.le_of_eq e9.length⟩
theorem jok_en {W0 : Hp} {S0 : Sto} {H0 : Hp} {d : D} {v : V} {xs : List D} (ok : Ok K W0 S0 H0) (r : Rep K W0 d v) (h : seqA S0 d = some xs) :
    ∃ a, v = .ref a ∧ (((∃ vs, SqL K H0 a vs) ∧ JOk K (Ite K a) W0 (enumD 0 xs) (fun S' => seqA S' d = some xs)) ∨ ((∃ vs, SqT K H0 a vs) ∧ JOk K (IteT K a) W0 (enumD 0 xs) (fun S' => seqA S' d = some xs))) := by
  obtain ⟨a, vs, rfl, hq, rv⟩ := seqA_rep ok r h
  refine ⟨a, rfl, ?_⟩
  cases d with
  | tup ys =>
    cases h
    obtain ⟨b, ws, e1, e2, e3⟩ := r
    cases e1
    refine .inr ⟨⟨ws, sqT_mono ok.vis e2⟩, ⟨fun i W S H d' hd s1 ok1 _ => ?_, fun W S H s1 ok1 _ => ?_⟩⟩
    · obtain ⟨y, hy, rfl⟩ := enumD_get hd
      obtain ⟨u, hu, ru⟩ := e3.get hy
      have hT := sqT_mono (s1.trans ok1.vis) e2
      refine ⟨⟨ws, u, hT, hu⟩, fun x H' ⟨T, x', e4, e5, e6, e10⟩ => ?_⟩
      subst e4 e6
      have e11 := e10 ws hT
      rw [hu] at e11
      cases e11
      have n := ok1.fresh e5
      exact ⟨_, ok1.stW e5, ok1.newW e5, T, _, rfl, SqT.of upd_same, _, _, rfl, by rw [Nat.zero_add]; rfl, _, _, rfl, (ru.mono s1).mono (same_new n.1), rfl⟩
    · rw [enumD_length]
      exact ⟨ws, sqT_mono (s1.trans ok1.vis) e2, e3.length⟩
  | lst ys => exact .inl (jok_enL ok r h rfl)
  | fro ys => exact .inl (jok_enL ok r h rfl)
  | ref b => exact .inl (jok_enL ok r h rfl)
  | _ => cases h
end
section
variable {X : Cx} {e : Expr} {w : WPe} {p pos tpos : Pos} {elts : List Expr} {kk : Nat}
theorem pdi_enum (hm : X.mg "enumerate" = none) (h : PD X e w) (hg : Gl X "enumerate" := by rfl) (hs : starEach [e] X.env = [(false, eval e X.env)] := by rfl) (hs2 : starEach [e] X.env = (false, eval e X.env) :: starEach [] X.env := by rfl) :
    PDi X (.Tuple elts kk tpos) (.Call (.Name "enumerate" p) [e] [] pos) (wEnum w) :=
  ⟨fun Wx tk => PI.imp (pi_enA hg hm (pa_cons (h.run Wx tk) pa_nil hs2) hs) fun σ H R ⟨W, env, S, Q0, X1, ok, sl, hw, cv, cx⟩ => ⟨W, env, S, _, X1, ok, sl, hw, fun d S1 v W1 H1 h1 s1 ok1 r1 => by
    obtain ⟨xs, e1, h1⟩ := some!_ex h1
    obtain ⟨a, rfl, ⟨q, j⟩ | ⟨q, j⟩⟩ := jok_en ok1 r1 e1
    · exact ⟨a, rfl, .inl ⟨q, cv _ _ S1 W1 H1 _ h1 s1 ok1 j⟩⟩
    · exact ⟨a, rfl, .inr ⟨q, cv _ _ S1 W1 H1 _ h1 s1 ok1 j⟩⟩, cx⟩⟩
/-- a constant of the module -/
theorem pd_glob {x : Str} {i : Int} (h : ∃ u, X.mg x = some u ∧ RelV (.int i) u) (hg : Gl X x := by rfl) (hd : (x == ("__debug__" : Str)) = false := by decide) : PD X (.Name x pos) (wC (.int i)) := by
  obtain ⟨u, hm, r⟩ := h
  exact pd_c (pe_glob hg hm r hd) fun _ => rfl
/-- xs.pop(i) -/
def oPopAt : OM := fun S d ds Q => mutL S d fun a xs => one ds fun e => asI e fun i => (-(2 ^ 63) ≤ i ∧ i < 2 ^ 63) ∧ some! (seqIndex? i xs.length) fun k => some! xs[k]? fun y => Q y (put S a (.lst (xs.eraseIdx k)))
theorem reps_erase {K : PySem.W.Frag} {W : Hp} : ∀ {xs : List D} {vs : List V} (k : Nat), Reps K W xs vs → Reps K W (xs.eraseIdx k) (vs.eraseIdx k)
  | [], _, _, h => by rw [show _ = [] from h]; rfl
  | _ :: _, _, 0, ⟨v, r, e1, e2, e3⟩ => by subst e1; exact e3
  | _ :: _, _, k + 1, ⟨v, r, e1, e2, e3⟩ => by
    subst e1
    exact ⟨v, _, rfl, e2, reps_erase k e3⟩
theorem md_popAt : MtR X "list.pop" (lM X.K oPopAt) := MtR.imp mt_popAt fun x vs H Q ⟨W, S, d, ds, Q0, ok, r, rs, ho, cv⟩ => by
  obtain ⟨a, xs, us, rfl, rfl, e1, e2, rv, h⟩ := mutL_rep ok r ho
  obtain ⟨y, rfl, h⟩ := one_ex h
  obtain ⟨i, rfl, hi, h⟩ := asI_ex h
  obtain ⟨k, ek, h⟩ := some!_ex h
  obtain ⟨z, ez, h⟩ := some!_ex h
  obtain ⟨t, rfl, rt⟩ := reps1 rs
  obtain ⟨u, e4, ru⟩ := rv.get ez
  exact ⟨a, us, i, k, u, rfl, by rw [show t = .int i from rt], e2, hi.1, hi.2, by rw [rv.length]; exact ek, e4, cv _ _ _ _ _ h (ok.stC e1) (ok.chg e1 ⟨_, rfl, reps_erase k rv⟩) ru⟩
/-! ### isinstance of several classes -/
def kitAnyB : String → List String → Option Bool
  | _, [] => some false
  | a, b :: bs => match kitB a b with
    | some true => some true
    | some false => kitAnyB a bs
    | none => none
theorem kit_any {K : PySem.W.Frag} {a : String} : ∀ {bs : List String} {r : Bool}, kitAnyB a bs = some r → PySem.W.kitAny K (.type a) (bs.map Value.type) = some r
  | [], r, h => by cases h; exact kitAny_nil
  | b :: bs, r, h => by
    have h' : (match kitB a b with | some true => some true | some false => kitAnyB a bs | none => none) = some r := h
    cases q : kitB a b with
    | none => rw [q] at h'; cases h'
    | some k =>
      rw [q] at h'
      cases k with
      | true => exact kitAny_cons (kit_ty q) (fun z => by cases z) fun _ => (Option.some.inj h').symm
      | false => exact kitAny_cons (kit_ty q) (fun _ => kit_any h') fun z => by cases z
def wIsiT (Ts : List String) (w : WPe) : WPe := fun env S Q X => w env S (fun d S1 => some! (tyN S1 d) fun n => some! (kitAnyB n Ts) fun b => Q (.bl b) S1) X
/-- the classes, one after the other -/
def tTys (Ts : List String) : TA := fun σ H Q => Q (Ts.map V.ty) H
theorem pa_tys0 {X : Cx} : PA X [] (tTys []) := pa_nil
theorem pa_tys {X : Cx} {e : Expr} {es : List Expr} {T : String} {Ts : List String} (h : PE X e (tC (.ty T))) (r : PA X es (tTys Ts)) (hs : starEach (e :: es) X.env = (false, eval e X.env) :: starEach es X.env := by rfl) : PA X (e :: es) (tTys (T :: Ts)) := pa_cons h r hs
theorem clsv_all : ∀ Ts : List String, Paired ClsV (Ts.map V.ty) (Ts.map Value.type)
  | [] => .nil
  | T :: Ts => .cons (.ty T) (clsv_all Ts)
theorem pd_isiT {X : Cx} {e : Expr} {w : WPe} {p p2 pos : Pos} {es : List Expr} {kk : Nat} {Ts : List String} (he : PD X e w) (ht : PA X es (tTys Ts)) (hm : X.mg "isinstance" = none) (hz : Ts.length ≤ sizeLine := by decide) (hg : Gl X "isinstance" := by rfl)
    (hs : starEach [e, .Tuple es kk p2] X.env = (false, eval e X.env) :: starEach [.Tuple es kk p2] X.env := by rfl) (hs2 : starEach [.Tuple es kk p2] X.env = [(false, eval (.Tuple es kk p2) X.env)] := by rfl) (hpl : (backTo pos (starEach [.Tuple es kk p2] X.env)).any (·.1) = false := by rfl) :
    PD X (.Call (.Name "isinstance" p) [e, .Tuple es kk p2] [] pos) (wIsiT Ts w) :=
  ⟨fun Wx tk => PE.imp (pe_callB call_isiT hg hm (by decide +kernel) (pa_cons (he.run Wx tk) (pa_cons (pe_tup ht) pa_nil hs2) hs) (by decide) (by decide) hs hpl) fun σ H Q ⟨W, env, S, Q0, X1, ok, sl, hw, cv, cx⟩ => ⟨W, env, S, _, X1, ok, sl, hw, fun d S1 v W1 H1 h1 s1 ok1 r1 => by
    obtain ⟨n, e1, h1⟩ := some!_ex h1
    obtain ⟨b, e2, h1⟩ := some!_ex h1
    refine ⟨by rw [List.length_map]; exact hz, fun q hq => ?_⟩
    have nq := ok1.fresh hq
    exact ⟨v, q, Ts.map V.ty, .type n, Ts.map Value.type, b, rfl, upd_same, clsv_all Ts, tyN_rep (ok1.newW (o := .tup (Ts.map V.ty)) hq) (r1.mono (same_new nq.1)) e1, kit_any e2, cv _ S1 _ _ _ h1 (s1.trans (ok1.stW hq)) (ok1.newW hq) rfl⟩, cx⟩⟩
end
/-! ### a list repeated -/
section
variable {X : Cx}
def oRep : O2 := fun S x y Q => match y with
  | .int k => some! (seqM S x) fun xs => (-(2 ^ 63) ≤ k ∧ k < 2 ^ 63 ∧ xs.length * k.toNat ≤ sizeLine) ∧ Q (.lst (List.replicate k.toNat xs).flatten) S
  | _ => False
theorem reps_rep {K : PySem.W.Frag} {W : Hp} {xs : List D} {vs : List V} (h : Reps K W xs vs) : ∀ n : Nat, Reps K W (List.replicate n xs).flatten (List.replicate n vs).flatten
  | 0 => rfl
  | n + 1 => by
    rw [List.replicate_succ, List.replicate_succ, List.flatten_cons, List.flatten_cons]
    exact h.append (reps_rep h n)
theorem opd_rep : OpR X (binaryOp .Mult) (lOp X.K oRep) := OpR.imp op_rep fun x y H Q ⟨W, S, a, b, Q0, ok, ra, rb, ho, cv⟩ => by
  cases b with
  | int k =>
    obtain ⟨xs, e1, hk, ho⟩ := some!_ex ho
    obtain ⟨l, vs, rfl, hl, rv⟩ := seqM_rep ok ra e1
    refine ⟨l, k, vs, rfl, rb, hl, hk.1, hk.2.1, by rw [rv.length]; exact hk.2.2, fun p hp => ?_⟩
    have n := ok.fresh hp
    exact cv _ S _ _ _ ho (ok.stW hp) (ok.newW hp) ⟨p, _, rfl, upd_same, (reps_rep rv _).mono (same_new n.1)⟩
  | _ => exact ho.elim
end
/-! ### calls by keyword -/
def pick {α : Type} (perm : List Nat) (l : List α) : List α := perm.filterMap fun i => l[i]?
/-- n arguments by place, m by name -/
def pickK (n m : Nat) (perm : List Nat) {α : Type} (us ws : List α) : List α := if us.length = n ∧ ws.length = m then pick perm (us ++ ws) else []
theorem paired_get {α β : Type} {R : α → β → Prop} : ∀ {xs : List α} {ys : List β}, Paired R xs ys → ∀ i : Nat, (∃ x y, xs[i]? = some x ∧ ys[i]? = some y ∧ R x y) ∨ (xs[i]? = none ∧ ys[i]? = none)
  | _, _, .nil, i => .inr ⟨by simp, by simp⟩
  | _, _, .cons h r, 0 => .inl ⟨_, _, rfl, rfl, h⟩
  | _, _, .cons h r, i + 1 => paired_get r i
theorem vals_pick {vs : List V} {us : List Value} (h : Vals vs us) : ∀ perm : List Nat, Vals (pick perm vs) (pick perm us)
  | [] => .nil
  | i :: r => by
    rcases paired_get h i with ⟨x, y, e1, e2, q⟩ | ⟨e1, e2⟩
    · show Vals (List.filterMap _ (i :: r)) (List.filterMap _ (i :: r))
      rw [List.filterMap_cons, List.filterMap_cons, e1, e2]
      exact .cons q (vals_pick h r)
    · show Vals (List.filterMap _ (i :: r)) (List.filterMap _ (i :: r))
      rw [List.filterMap_cons, List.filterMap_cons, e1, e2]
      exact vals_pick h r
theorem reps_pick {K : PySem.W.Frag} {W : Hp} {ds : List D} {vs : List V} (h : Reps K W ds vs) : ∀ perm : List Nat, Reps K W (pick perm ds) (pick perm vs)
  | [] => rfl
  | i :: r => by
    show Reps K W (List.filterMap _ (i :: r)) (List.filterMap _ (i :: r))
    rw [List.filterMap_cons, List.filterMap_cons]
    cases e : ds[i]? with
    | none =>
      have e2 : vs[i]? = none := by
        rw [List.getElem?_eq_none_iff] at e ⊢
        rw [h.length]; exact e
      rw [e2]
      exact reps_pick h r
    | some d =>
      obtain ⟨v, e2, rv⟩ := h.get e
      rw [e2]
      exact ⟨v, _, rfl, rv, reps_pick h r⟩
theorem reps_pickK {K : PySem.W.Frag} {W : Hp} {n m : Nat} {perm : List Nat} {ds es : List D} {vs zs : List V} (h1 : Reps K W ds vs) (h2 : Reps K W es zs) : Reps K W (pickK n m perm ds es) (pickK n m perm vs zs) := by
  unfold pickK
  rw [h1.length, h2.length]
  by_cases q : ds.length = n ∧ es.length = m
  · rw [if_pos q, if_pos q]; exact reps_pick (h1.append h2) perm
  · rw [if_neg q, if_neg q]; rfl
theorem kb_mk {K : PySem.W.Frag} {fd : FuncData} {ps ks : List Str} {n m : Nat} {perm : List Nat} (hps : ps ≠ []) (h : ∀ us ws : List Value, us.length = n → ws.length = m → bindArgs fd ⟨us, ks.zip ws⟩ = pure (ps.zip (pick perm (us ++ ws)))) :
    KBinds K fd ps ks (fun us ws => pickK n m perm us ws) (fun us ws => pickK n m perm us ws) where
  to := fun s us ws _ hl => by
    unfold pickK at hl ⊢
    by_cases q : us.length = n ∧ ws.length = m
    · rw [if_pos q]
      exact .of_eq (h us ws q.1 q.2)
    · rw [if_neg q] at hl
      exact absurd (List.eq_nil_of_length_eq_zero hl.symm) hps
  rel := fun {vs us zs ws} r1 r2 => by
    unfold pickK
    rw [r1.length, r2.length]
    by_cases q : us.length = n ∧ ws.length = m
    · rw [if_pos q, if_pos q]
      exact vals_pick (r1.append r2) perm
    · rw [if_neg q, if_neg q]
      exact .nil
def wCallK (spec : Ctr) (n m : Nat) (perm : List Nat) (wa wk : WPa) : WPe := fun env S Q X => wa env S (fun ds S1 => wk env S1 (fun es S2 => spec (pickK n m perm ds es) S2 Q X) X) X
structure PDk (X : Cx) (kws : List Keyword) (w : WPa) : Prop where
  run : ∀ Wx, Takes X Wx → PK X kws (lA X.K Wx w)
theorem PK.imp {X : Cx} {kws : List Keyword} {t t' : TA} (h : PK X kws t) (i : ∀ σ H Q, t' σ H Q → t σ H Q) : PK X kws t' := ⟨fun po pins s σ H Q I q => h.run po pins s σ H Q I (i σ H Q q)⟩
section
variable {X : Cx} {x : Str} {p pos kpos : Pos} {e : Expr} {es : List Expr} {kws : List Keyword} {wa wk r : WPa} {w : WPe} {nm : Option Str} {k n m : Nat} {perm : List Nat} {f : Addr} {fd : FuncData} {ps ks : List Str} {spec : Ctr}
theorem pdk_nil : PDk X [] wNil := ⟨fun Wx tk => PK.imp pk_nil fun σ H Q ⟨W, env, S, Q0, X1, ok, sl, hw, cv, cx⟩ => cv [] S [] W H hw Stp.refl ok rfl⟩
theorem pdk_cons (h : PD X e w) (hr : PDk X kws r) : PDk X (⟨nm, e, kpos⟩ :: kws) (wCons w r) :=
  ⟨fun Wx tk => PK.imp (pk_cons (h.run Wx tk) (hr.run Wx tk)) fun σ H Q ⟨W, env, S, Q0, X1, ok, sl, hw, cv, cx⟩ => ⟨W, env, S, _, X1, ok, sl, hw, fun d S1 v W1 H1 h1 s1 ok1 r1 =>
    ⟨W1, env, S1, _, X1, ok1, sl.mono s1.vis, h1, fun ds S2 vs W2 H2 h2 s2 ok2 r2 => cv _ S2 _ W2 H2 h2 (s1.trans s2) ok2 ⟨v, vs, rfl, r1.mono s2.vis, r2⟩, cx.mono s1⟩, cx⟩⟩
theorem run_fnKS {CX : CXT} {sp : Sp} {E : L2.St → XK} {g : List Value → List Value → List Value} {gV : List V → List V → List V} {pins : List (Addr × Obj)} {σ : L2.St} {H : Hp} {s : Shared} {Q : VK} {us ws : List Value} {vs zs : List V}
    (F : FnOk X.prog X.w X.K X.mg X.base CX k f fd ps sp) (hr : Room k X.A) (hb : KBinds X.K fd ps ks g gV) (hx : PassesAt CX X σ (E σ)) (I : L2.Inv X pins σ H s) (r1 : Vals vs us) (r2 : Vals zs ws) (h : sp (gV vs zs) H Q (E σ)) :
    wpAny (model X.prog X.w) X.A (call (.ref f) us (ks.zip ws)) (EP X pins σ Q) X.xe s := by
  have rr := hb.rel r1 r2
  have hl : (g us ws).length = ps.length := by rw [← rr.length]; exact F.len _ _ _ _ h
  refine wpAny_call (codeAny_mono (F.run X.A X.stack s H ⟨us, ks.zip ws⟩ (g us ws) (gV vs zs) Q (E σ) hr I.env0 (hb.to s us ws I.kIn hl) rr h) fun r s' hq => ?_)
  cases r with
  | error e => exact hx pins H s e s' I hq
  | ok fl =>
    cases fl with
    | ret u => exact I.after hq
    | next => exact hq.elim
    | brk => exact hq.elim
    | cont => exact hq.elim
/-- f(k = v, ..): by names alone -/
theorem pd_fnK0 (F : FnD X.prog X.w X.K X.mg X.base k f fd ps spec) (hm : X.mg x = some (.ref f)) (hk : PySem.W.keepIn X.K (.ref f) = true) (hb : KBinds X.K fd ps ks (fun us ws => pickK 0 m perm us ws) (fun us ws => pickK 0 m perm us ws)) (hr : Room k X.A) (hkw : PDk X kws wk)
    (hg : Gl X x := by rfl) (hdb : (x == ("__debug__" : Str)) = false := by decide) (hall : (backToKw pos (keywordEach kws X.env)).all (·.1.isSome) = true := by rfl) (hks : (backToKw pos (keywordEach kws X.env)).filterMap (·.1) = ks := by rfl)
    (hpl : ((backTo pos (starEach [] X.env)).any (·.1) || (backToKw pos (keywordEach kws X.env)).any (·.1.isNone)) = false := by rfl) : PD X (.Call (.Name x p) [] kws pos) (wCallK spec 0 m perm wNil wk) := by
  refine ⟨fun Wx tk => ⟨fun pins s σ H Q I h => ?_⟩⟩
  obtain ⟨W, env, S, Q0, X1, ok, sl, hw, cv, cx⟩ := h
  refine wpAny_Call_Name_kw (ld_glob I hg hm ?_ hdb)
  refine PySem.W.callWith_KW0 (h₀ := X.base) I.ok.mod.kin hk hall ?_ hpl
  have h2 : lA X.K Wx wk σ H fun zs H2 => lSp X.K spec (pickK 0 m perm [] zs) H2 Q fun c d H' => Wx c d σ H' := ⟨W, env, S, _, X1, ok, sl, hw, fun ds S1 vs W1 H1 h1 s1 ok1 r1 => by
    exact ⟨W1, S1, pickK 0 m perm [] ds, Q0, X1, ok1, reps_pickK (ds := []) (vs := []) rfl r1, h1, cv.mono s1, cx.mono s1⟩, cx⟩
  refine thn ((hkw.run Wx tk).run pos pins s σ H _ I h2) fun ws s2 ⟨zs, H2, I2, rz, q2⟩ => ⟨I2.kIn, ?_⟩
  rw [hks]
  exact run_fnKS F hr hb (passAt tk σ) I2 .nil rz q2
/-- f(e, .., k = v, ..) -/
theorem pd_fnK (F : FnD X.prog X.w X.K X.mg X.base k f fd ps spec) (hm : X.mg x = some (.ref f)) (hk : PySem.W.keepIn X.K (.ref f) = true) (hb : KBinds X.K fd ps ks (fun us ws => pickK n m perm us ws) (fun us ws => pickK n m perm us ws)) (hr : Room k X.A) (ha : PDa X (e :: es) wa) (hkw : PDk X kws wk)
    (hg : Gl X x := by rfl) (hdb : (x == ("__debug__" : Str)) = false := by decide) (hall : (backToKw pos (keywordEach kws X.env)).all (·.1.isSome) = true := by rfl) (hks : (backToKw pos (keywordEach kws X.env)).filterMap (·.1) = ks := by rfl)
    (he : starEach (e :: es) X.env = (false, eval e X.env) :: starEach es X.env := by rfl)
    (hpl : ((backTo pos (starEach (e :: es) X.env)).any (·.1) || (backToKw pos (keywordEach kws X.env)).any (·.1.isNone)) = false := by rfl) : PD X (.Call (.Name x p) (e :: es) kws pos) (wCallK spec n m perm wa wk) := by
  refine ⟨fun Wx tk => ⟨fun pins s σ H Q I h => ?_⟩⟩
  obtain ⟨W, env, S, Q0, X1, ok, sl, hw, cv, cx⟩ := h
  refine wpAny_Call_Name_kw (ld_glob I hg hm ?_ hdb)
  have h1 : lA X.K Wx wa σ H fun vs H1 => lA X.K Wx wk σ H1 fun zs H2 => lSp X.K spec (pickK n m perm vs zs) H2 Q fun c d H' => Wx c d σ H' := ⟨W, env, S, _, X1, ok, sl, hw, fun ds S1 vs W1 H1 h1 s1 ok1 r1 =>
    ⟨W1, env, S1, _, X1, ok1, sl.mono s1.vis, h1, fun es S2 zs W2 H2 h2 s2 ok2 r2 => by
      exact ⟨W2, S2, pickK n m perm ds es, Q0, X1, ok2, reps_pickK (r1.mono s2.vis) r2, h2, cv.mono (s1.trans s2), cx.mono (s1.trans s2)⟩, cx.mono s1⟩, cx⟩
  refine PySem.W.callWith_KW (h₀ := X.base) I.ok.mod.kin hk hall (thn ((ha.run Wx tk).run pos pins s σ H _ I h1) fun us s1 ⟨vs, H1, I1, r, q⟩ => ?_) hpl he
  refine thn ((hkw.run Wx tk).run pos pins s1 σ H1 _ I1 q) fun ws s2 ⟨zs, H2, I2, rz, q2⟩ => ⟨I2.kIn, ?_⟩
  rw [hks]
  exact run_fnKS F hr hb (passAt tk σ) I2 r rz q2
end
end DL
set_option Elab.async false
set_option linter.all false
set_option maxRecDepth 100000
set_option maxHeartbeats 1000000
/-! The data layer, part m: own exceptions with one field: made, raised, caught, asked. -/
namespace DL
open PySem PySem.Spec PyProof.Rows L2
/-! ### C(v): C's own __init__ is self.f = p -/
def spEx (K : PySem.W.Frag) (C : Addr) (f : Str) : Sp := fun vs H Q _ => ∃ (a : Addr) (v : V), vs = [.ref a, v] ∧ OexC K C ∧ PySem.W.findIn K (.ref C) f = some none ∧ H a = some (exo a C none) ∧
  ∀ dx, H dx = none → dx ≠ a → Q .non (upd (upd H dx (exd dx [(f, v)])) a (exo a C (some dx)))
section
variable {P : Program} {w : World} {K : PySem.W.Frag} {mg : Str → Option Value} {base : Heap} {qual : Str} {st : Stmt} {fI : Addr} {fd : FuncData} {f p : Str} {C : Addr}
theorem exInit_ok (F : Fun K "__init__" qual st fI fd) (S : FnScope ["self", p] ["self", p] (defScope st))
    (hb : ∀ (cdv : Value) (A : Around) (outer : List Env) (s : Shared) (H : Hp) (E : XK), PSs (cxOf (L2.CX P w) P w K mg base ["self", p] qual (defScope st) fI cdv A outer s H E) (defBody st) (tOst K f (tVar 0) (tVar 1))) :
    FnOk P w K mg base (L2.CX P w) 1 fI fd ["self", p] (spEx K C f) := by
  refine F.okX S (fun vs H Q E ⟨a, v, e, _⟩ => by rw [e]; rfl) (fun cdv A outer s H vs Q E hr ⟨a, v, e, T, hn, ha, q⟩ => ⟨_, hb cdv A outer s H E, ?_⟩)
  subst e
  exact ⟨v, rfl, .ref a, rfl, a, C, rfl, T, hn, .inl ⟨ha, fun dx h1 h2 => q dx h1 h2⟩⟩
end
/-- the class x at C, whose __init__ keeps one value as f -/
structure ExAt (K : PySem.W.Frag) (mg : Str → Option Value) (x : Str) (C : Addr) (f p : Str) (qual : Str) (st : Stmt) : Prop where
  ox : OexC K C
  nf : PySem.W.findIn K (.ref C) f = some none
  mg : mg x = some (.ref C)
  fn : ∃ fI fd, Fun K "__init__" qual st fI fd ∧ PySem.W.findIn K (.ref C) "__init__" = some (some (.ref fI)) ∧ PySem.W.typeIn K (.ref fI) = some (.type "function") ∧ Binds K fd ["self", p] []
/-- .. as it is used -/
def ExC (P : Program) (w : World) (K : PySem.W.Frag) (mg : Str → Option Value) (base : Heap) (x : Str) (C : Addr) (f : Str) : Prop :=
  OexC K C ∧ PySem.W.findIn K (.ref C) f = some none ∧ mg x = some (.ref C) ∧ ∃ fI fd ps, FnOk P w K mg base (L2.CX P w) 1 fI fd ps (spEx K C f) ∧ PySem.W.findIn K (.ref C) "__init__" = some (some (.ref fI)) ∧ PySem.W.typeIn K (.ref fI) = some (.type "function") ∧ Binds K fd ps []
theorem ExC.mk {P : Program} {w : World} {K : PySem.W.Frag} {mg : Str → Option Value} {base : Heap} {x f p qual : Str} {C : Addr} {st : Stmt} (E : ExAt K mg x C f p qual st) (S : FnScope ["self", p] ["self", p] (defScope st))
    (hb : ∀ (fI : Addr) (cdv : Value) (A : Around) (outer : List Env) (s : Shared) (H : Hp) (E : XK), PSs (cxOf (L2.CX P w) P w K mg base ["self", p] qual (defScope st) fI cdv A outer s H E) (defBody st) (tOst K f (tVar 0) (tVar 1))) : ExC P w K mg base x C f := by
  obtain ⟨fI, fd, F, i1, t1, b⟩ := E.fn
  exact ⟨E.ox, E.nf, E.mg, fI, fd, _, exInit_ok F S (hb fI), i1, t1, b⟩
/-- an expression that makes an exception -/
abbrev WPx := DE → Sto → XQ → XQ → Prop
def lX (K : PySem.W.Frag) (Wx : WX) (w : WPx) : L2.St → Hp → XK → Prop := fun σ H Q => ∃ W env S Q0 X0, Ok K W S H ∧ Sl K W env σ ∧ w env S Q0 X0 ∧ CXc K W S H Q0 Q ∧ CXc K W S H X0 (fun c d H' => Wx c d σ H')
structure PDx (X : Cx) (e : Expr) (w : WPx) : Prop where
  run : ∀ Wx, Takes X Wx → PMk X e (lX X.K Wx w)
def wMkE (C : Addr) (f : Str) (w : WPe) : WPx := fun env S Q X => w env S (fun d S1 => Q C [(f, d)] S1) X
theorem repf_one {K : PySem.W.Frag} {W : Hp} {f : Str} {d : D} {v : V} (r : Rep K W d v) : Repf K W [(f, d)] [(f, v)] := fun g x h => by
  rw [List.lookup_cons] at h ⊢
  cases q : (g == f) with
  | true =>
    rw [q] at h
    cases h
    exact ⟨v, rfl, r⟩
  | false =>
    rw [q] at h
    cases h
section
variable {X : Cx} {x f : Str} {C : Addr} {e : Expr} {w : WPe} {p pos : Pos}
theorem pdx_mk (T : ExC X.prog X.w X.K X.mg X.base x C f) (hr : Room 2 X.A) (he : PD X e w) (hg : Gl X x := by rfl) (hdb : (x == ("__debug__" : Str)) = false := by decide) (hs : starEach [e] X.env = (false, eval e X.env) :: starEach [] X.env := by rfl) (hpl : (backTo pos (starEach [] X.env)).any (·.1) = false := by rfl) :
    PDx X (.Call (.Name x p) [e] [] pos) (wMkE C f w) := by
  obtain ⟨T1, nf, hm, fI, fd, ps, F, i1, t1, b⟩ := T
  refine ⟨fun Wx tk pins s σ H Q I h => ?_⟩
  refine pmk_oex T1 i1 t1 F hr b .nil passL hg hm (pa_cons (he.run Wx tk) pa_nil hs) hdb hs hpl pins s σ H Q I ?_
  obtain ⟨W, env, S, Q0, X1, ok, sl, hw, cq, cx⟩ := h
  refine ⟨W, env, S, _, X1, ok, sl, hw, fun d S1 v W1 H1 h1 s1 ok1 r1 => ?_, cx⟩
  refine ⟨by show 1 ≤ 1000; decide, fun a ha => ⟨a, v, rfl, T1, nf, upd_same, fun dx hdx ne => ⟨rfl, dx, [(f, v)], upd_same, ?_, ?_, ?_⟩⟩⟩
  · rw [upd_ne ne, upd_same]
  · rw [upd_ne ne] at hdx; exact hdx
  · have hdx' : H1 dx = none := by rw [upd_ne ne] at hdx; exact hdx
    have e1 : upd (L2.del (upd (upd (upd H1 a (exo a C none)) dx (exd dx [(f, v)])) a (exo a C (some dx))) a) dx (.xd [(f, v)]) = upd H1 dx (.xd [(f, v)]) := by
      funext b
      by_cases q : b = dx
      · subst q; rw [upd_same, upd_same]
      · rw [upd_ne q, upd_ne q]
        by_cases q2 : b = a
        · subst q2
          rw [del_same, ha]
        · rw [del_ne q2, upd_ne q2, upd_ne q, upd_ne q2]
    rw [e1]
    have n := ok1.fresh hdx'
    exact cq C _ S1 dx _ _ _ h1 (s1.trans (ok1.stW hdx')) (ok1.newW hdx') upd_same (repf_one (r1.mono (same_new n.1)))
def wRaise (w : WPx) : WPs := fun env S q => w env S (xcQ q env) (xcQ q env)
theorem pds_raise {wx : WPx} {pos2 : Pos} {e : Expr} (hc : X.calm = true) (he : PDx X e wx) : PDs X (.Raise (some e) none pos2) (wRaise wx) :=
  ⟨fun Wx tk => PS.imp (ps_raise hc tk (he.run Wx tk)) fun D σ H ⟨W, env, S, q, ok, sl, hl, hw, cs⟩ => ⟨W, env, S, _, _, ok, sl, hw, CXc.of cs sl, CXc.of cs sl⟩⟩
end
/-! ### try .. except T as e -/
theorem sl_del {K : PySem.W.Frag} {W : Hp} {e : DE} {σ : L2.St} {i : Nat} (h : Sl K W e σ) : Sl K W (delV e i) (σ.set i none) := fun j d q => by
  obtain ⟨n, g⟩ := getV_delV q
  obtain ⟨v, a, r⟩ := h j d g
  exact ⟨v, by rw [List.getElem?_set_ne (Ne.symm n)]; exact a, r⟩
/-- .. where the slots' number is not told -/
def lSn (K : PySem.W.Frag) (Wx : WX) (n : Nat) (w : WPs) : TS := fun D σ H => ∃ W env S q, Ok K W S H ∧ (σ.length = n → Sl K W env σ) ∧ w env S q ∧ CS K Wx W S H q { D with nx := fun σ' H' => σ'.length = n → D.nx σ' H', bk := fun σ' H' => σ'.length = n → D.bk σ' H', ct := fun σ' H' => σ'.length = n → D.ct σ' H' }
theorem pss_n {X : Cx} {st : List Stmt} {K : PySem.W.Frag} {Wx : WX} {w : WPs} (h : PSs X st (lS K Wx X.N.length w)) : PSs X st (lSn K Wx X.N.length w) :=
  ⟨fun pins s σ H D I ⟨W, env, S, q, ok, sl, hw, cs⟩ => h.run pins s σ H D I ⟨W, env, S, q, ok, sl I.len, I.len, hw, cs⟩⟩
/-- the suite: of the exception's address, its dict's, its class -/
abbrev WPu := Addr → Addr → Addr → WPs
def wTry (K : PySem.W.Frag) (T : Addr) (i : Nat) (body : WPs) (suite : WPu) : WPs := fun env S q => body env S { q with xc := fun C fs e S1 => ∃ b, PySem.W.exmOne K (.ref C) (.ref T) = some b ∧
  (b = true → ∃ f x, fs = [(f, x)] ∧ ∀ a dd, suite a dd C (setV e i (.exc a dd C f x)) S1 { nx := fun e2 S2 => q.nx (delV e2 i) S2, rt := q.rt, bk := fun e2 S2 => q.bk (delV e2 i) S2, ct := fun e2 S2 => q.ct (delV e2 i) S2, xc := fun _ _ _ _ => False }) ∧
  (b = false → q.xc C fs e S1) }
section
variable {X : Cx} {x n : Str} {T : Addr} {i : Nat} {body suite : List Stmt} {b₀ : Stmt} {np pos pos' : Pos} {wb : WPs} {ws : WPu}
theorem pds_try (hs : X.stack = X.env :: X.outer) (hf : X.env.frame = some X.env.locals) (hN : X.N.Nodup) (hi : X.N[i]? = some n) (hln : X.env.kindOf n = some .local) (hm : X.mg x = some (.ref T)) (hg : Gl X x) (hdb : (x == ("__debug__" : Str)) = false)
    (hb : ∀ (pn : List (Addr × Obj)) (xe : Value → Shared → Prop), PassesOwn (model X.prog X.w) X.A X.env xe → PDss (X.tr pn xe) body wb)
    (hsu : ∀ (a dd C : Addr) (oe : Obj) (pn : List (Addr × Obj)), Zc (.ref C) (some dd) oe → (∃ vs, oe.data = .fields vs) → PDss (X.suite a ((a, oe) :: pn)) (b₀ :: suite) (ws a dd C)) :
    PDs X (.Try body [.ExceptHandler (some (.Name x np)) (some n) (b₀ :: suite) pos'] [] [] pos) (wTry X.K T i wb ws) := by
  refine ⟨fun Wx tk => ?_⟩
  refine PS.imp (L2.ps_try_as hs hf hN hi hln ⟨hg, hdb, .inl hm⟩ tk (tb := fun W => lS X.K W X.N.length wb) (ts := fun a cls d => match cls, d with
    | .ref C, some dd => lSn X.K (fun _ _ _ _ => False) X.N.length (ws a dd C)
    | _, _ => fun _ _ _ => False) (fun W pn xe tkW pass => (hb pn xe pass).run W tkW) fun a oe cls d pn hz hfl => ?_) ?_
  · cases cls with
    | ref C =>
      cases d with
      | some dd => exact pss_n (X := X.suite a ((a, oe) :: pn)) ((hsu a dd C oe pn hz hfl).run _ takes0)
      | none => exact ⟨fun pins s σ H D I h => h.elim⟩
    | _ => exact ⟨fun pins s σ H D I h => h.elim⟩
  · rintro D σ H ⟨W, env, S, q, ok, sl, hl, hw, cs⟩
    refine ⟨W, env, S, _, ok, sl, hl, hw, cs.nx, cs.rt, cs.bk, cs.ct, ?_⟩
    rintro C fs e S1 dd gs σ1 W1 H1 ⟨b, hb1, hy, hn⟩ s1 ok1 sl1 e1 r1
    refine ⟨b, hb1, fun h a ha => ?_, fun h => cs.xc C fs e S1 dd gs σ1 W1 H1 (hn h) s1 ok1 sl1 e1 r1⟩
    obtain ⟨f, y, rfl, hsuite⟩ := hy h
    obtain ⟨u, hu, ru⟩ := r1 f y (by rw [List.lookup_cons]; simp)
    have rex : Rep X.K W1 (.exc a dd C f y) (.ref a) := ⟨rfl, gs, u, e1, hu, ru⟩
    have sl2 : (σ1.set i (some (.ref a))).length = X.N.length → Sl X.K W1 (setV e i (.exc a dd C f y)) (σ1.set i (some (.ref a))) := fun hlen j d hj => by
      rcases getV_setV hj with ⟨z1, z2⟩ | ⟨z1, z2⟩
      · subst z1 z2
        exact ⟨_, List.getElem?_set_self (by rw [List.length_set] at hlen; rw [hlen]; exact lt_of_some hi), rex⟩
      · obtain ⟨v, hv, rv⟩ := sl1 j d z2
        exact ⟨v, by rw [List.getElem?_set_ne (Ne.symm z1)]; exact hv, rv⟩
    refine ⟨W1, _, S1, _, ok1, sl2, hsuite a dd, ?_, ?_, ?_, ?_, ?_⟩
    · exact fun e2 S2 σ2 W2 H2 hq st ok2 sl3 hl2 => cs.nx _ S2 _ W2 H2 hq (s1.trans st) ok2 (sl_del sl3) (by rw [List.length_set]; exact hl2)
    · exact fun d S2 v W2 H2 hq st ok2 rv => cs.rt d S2 v W2 H2 hq (s1.trans st) ok2 rv
    · exact fun e2 S2 σ2 W2 H2 hq st ok2 sl3 hl2 => cs.bk _ S2 _ W2 H2 hq (s1.trans st) ok2 (sl_del sl3) (by rw [List.length_set]; exact hl2)
    · exact fun e2 S2 σ2 W2 H2 hq st ok2 sl3 hl2 => cs.ct _ S2 _ W2 H2 hq (s1.trans st) ok2 (sl_del sl3) (by rw [List.length_set]; exact hl2)
    · exact fun C fs e2 S2 dd gs σ2 W2 H2 hq _ _ _ _ _ => hq.elim
/-! ### in the suite -/
/-- e.f -/
def wExF (K : PySem.W.Frag) (a dd C : Addr) (f : Str) (w : WPe) : WPe := fun env S Q X => (XfC K C ∧ PySem.W.findIn K (.ref C) f = some none) ∧ w env S (fun d S1 => match d with
  | .exc a' dd' C' g x => (a' = a ∧ dd' = dd ∧ C' = C ∧ g = f) ∧ Q x S1
  | _ => False) X
section
variable {X : Cx} {a dd C : Addr} {oe : Obj} {pn : List (Addr × Obj)} {e : Expr} {f : Str} {w : WPe} {pos : Pos}
theorem pd_exf (hz : Zc (.ref C) (some dd) oe) (hf : ∃ vs, oe.data = .fields vs) (he : PD (X.suite a ((a, oe) :: pn)) e w) (hb : attributeBase e f X.env (eval e X.env) = eval e X.env := by rfl) :
    PD (X.suite a ((a, oe) :: pn)) (.Attribute e f pos) (wExF X.K a dd C f w) :=
  ⟨fun Wx tk => ⟨fun pins s σ H Q I ⟨W, env, S, Q0, X1, ok, sl, ⟨⟨T, hno⟩, hw⟩, cv, cx⟩ => (pe_xf T hno hz hf (he.run Wx tk) hb).run pins s σ H Q I ⟨W, env, S, _, X1, ok, sl, hw, fun d S1 v W1 H1 h1 s1 ok1 r1 => by
    cases d with
    | exc a' dd' C' g x =>
      obtain ⟨⟨rfl, rfl, rfl, rfl⟩, h1⟩ := h1
      obtain ⟨e1, gs, u, e2, e3, ru⟩ := r1
      exact ⟨e1, rfl, dd', gs, u, rfl, ok1.vis _ _ e2, e3, cv x S1 u W1 H1 h1 s1 ok1 ru⟩
    | _ => exact h1.elim, cx⟩⟩⟩
/-- what the class of a caught exception must say, so that isinstance asks rightly -/
structure IsC (K : PySem.W.Frag) (C : Addr) : Prop where
  cl : (PySem.W.clsIn K C).isSome = true
  ga : PySem.W.findIn K (.ref C) "__getattribute__" = some (some (.builtin "BaseException.__getattribute__"))
  gt : PySem.W.findIn K (.ref C) "__getattr__" = some none
  su : PySem.W.subIn K (.ref C) (.type "BaseException") = some true
  ca : PySem.W.findIn K (.ref C) "__class__" = some (some (.builtin "object.__class__"))
  cg : PySem.W.specialIn K (.builtin "object.__class__") "__get__" = some (some (.builtin "getset_descriptor.__get__"))
  ct : PySem.W.takesIn K (.builtin "object.__class__") = some true
  mo : PySem.W.mroIn K C (.type "object") = some true
/-- isinstance(e, T), e the caught exception with the dict at dd -/
def rIsD (K : PySem.W.Frag) (C a dd : Addr) : List V → Hp → VK → Prop := fun xs H Q => ∃ (c : V) (u : Value) (b : Bool) (gs : List (Str × V)), xs = [.ref a, c] ∧ H dd = some (.xd gs) ∧ ClsV c u ∧ IsC K C ∧ PySem.W.kitOne K (.ref C) u = some b ∧ Q (.bl b) H
theorem inst_of {pins : List (Addr × Obj)} {σ : L2.St} {H : Hp} {s : Shared} {gs : List (Str × V)} (I : L2.Inv (X.suite a ((a, oe) :: pn)) pins σ H s) (hz : Zc (.ref C) (some dd) oe) (hf : ∃ vs, oe.data = .fields vs) (hd : H dd = some (.xd gs)) : ∃ od, PySem.W.InstAt s.heap a oe C (some od) := by
  obtain ⟨hget, _⟩ := I.pin (a, oe) (List.mem_append.mpr (.inl List.mem_cons_self))
  obtain ⟨vs, hv⟩ := hf
  have hx : ObjOk X.prog X.w H s.heap dd (.xd gs) := I.hok dd _ hd
  obtain ⟨mA, hns, hr⟩ := hx
  obtain ⟨od, ho, hl⟩ := lookIn_ns hns
  exact ⟨od, hget, hz.1, by unfold PySem.W.notCls; rw [hv] <;> rfl, by rw [hz.2]; exact ho⟩
theorem call_isD (hz : Zc (.ref C) (some dd) oe) (hf : ∃ vs, oe.data = .fields vs) : CallR (X.suite a ((a, oe) :: pn)) (.builtin "isinstance") (rIsD X.K C a dd) := by
  intro pins s σ H xs us Q I r h
  obtain ⟨c, u, b, gs, rfl, hd, k, T, e, q⟩ := h
  obtain ⟨u1, u2, rfl, r1, r2⟩ := vals2 r
  have e2 := k.eq r2
  subst e2
  cases (show u1 = Value.ref a from r1)
  obtain ⟨od, J⟩ := inst_of I hz hf hd
  exact PySem.W.kia_one (PySem.W.kitx_exc T.cl T.ga T.gt T.su T.ca T.cg T.ct T.mo) I.kIn J e (fun z => nomatch z) fun tk => ⟨.bl b, H, I.tok tk, rfl, q⟩
/-- isinstance(e, (T1, T2, ..)) -/
def rIsDT (K : PySem.W.Frag) (C a dd : Addr) : List V → Hp → VK → Prop := fun xs H Q => ∃ (tp : Addr) (cs : List V) (ws : List Value) (b : Bool) (gs : List (Str × V)), xs = [.ref a, .ref tp] ∧ H dd = some (.xd gs) ∧ H tp = some (.tup cs) ∧ Paired ClsV cs ws ∧ IsC K C ∧ PySem.W.kitAny K (.ref C) ws = some b ∧ Q (.bl b) H
theorem call_isDT (hz : Zc (.ref C) (some dd) oe) (hf : ∃ vs, oe.data = .fields vs) : CallR (X.suite a ((a, oe) :: pn)) (.builtin "isinstance") (rIsDT X.K C a dd) := by
  intro pins s σ H xs us Q I r h
  obtain ⟨tp, cs, ws, b, gs, rfl, hd, hT, k, T, e, q⟩ := h
  obtain ⟨u1, u2, rfl, r1, r2⟩ := vals2 r
  cases (show u1 = Value.ref a from r1)
  cases (show u2 = Value.ref tp from r2)
  obtain ⟨od, J⟩ := inst_of I hz hf hd
  obtain ⟨_, its, rv, o, h1, h2, n, h3⟩ := (show ObjOk X.prog X.w H s.heap tp (.tup cs) from I.hok tp _ hT)
  have e3 := ClsV.all k rv
  subst e3
  obtain ⟨oc, od2, dt, sl⟩ := o
  simp only at h2 h3
  subst h2 h3
  exact PySem.W.kia_tup (PySem.W.kitx_exc T.cl T.ga T.gt T.su T.ca T.cg T.ct T.mo) I.kIn J h1 e (fun z => nomatch z) fun tk => ⟨.bl b, H, I.tok tk, rfl, q⟩
end
end
def wIsE (K : PySem.W.Frag) (a dd C T : Addr) (w : WPe) : WPe := fun env S Q X => w env S (fun d S1 => match d with
  | .exc a' dd' C' _ _ => (a' = a ∧ dd' = dd ∧ C' = C ∧ IsC K C) ∧ some! (PySem.W.kitOne K (.ref C) (.ref T)) fun b => Q (.bl b) S1
  | _ => False) X
def wIsET (K : PySem.W.Frag) (a dd C : Addr) (Ts : List Addr) (w : WPe) : WPe := fun env S Q X => w env S (fun d S1 => match d with
  | .exc a' dd' C' _ _ => (a' = a ∧ dd' = dd ∧ C' = C ∧ IsC K C) ∧ some! (PySem.W.kitAny K (.ref C) (Ts.map Value.ref)) fun b => Q (.bl b) S1
  | _ => False) X
def tRefs (Ts : List Addr) : TA := fun σ H Q => Q (Ts.map V.ref) H
theorem pa_refs0 {X : Cx} : PA X [] (tRefs []) := pa_nil
theorem pe_cls {X : Cx} {x : Str} {T : Addr} {pos : Pos} (hm : X.mg x = some (.ref T)) (hg : Gl X x := by rfl) (hd : (x == ("__debug__" : Str)) = false := by decide) : PE X (.Name x pos) (tC (.ref T)) := pe_glob hg hm rfl hd
theorem pa_refs {X : Cx} {e : Expr} {es : List Expr} {T : Addr} {Ts : List Addr} (h : PE X e (tC (.ref T))) (r : PA X es (tRefs Ts)) (hs : starEach (e :: es) X.env = (false, eval e X.env) :: starEach es X.env := by rfl) : PA X (e :: es) (tRefs (T :: Ts)) := pa_cons h r hs
theorem clsv_refs : ∀ Ts : List Addr, Paired ClsV (Ts.map V.ref) (Ts.map Value.ref)
  | [] => .nil
  | T :: Ts => .cons (.own T) (clsv_refs Ts)
section
variable {X : Cx} {a dd C T : Addr} {Ts : List Addr} {oe : Obj} {pn : List (Addr × Obj)} {e e2 : Expr} {es : List Expr} {w : WPe} {p p2 pos : Pos} {kk : Nat}
theorem pd_isE (hz : Zc (.ref C) (some dd) oe) (hf : ∃ vs, oe.data = .fields vs) (he : PD (X.suite a ((a, oe) :: pn)) e w) (hc : PE (X.suite a ((a, oe) :: pn)) e2 (tC (.ref T))) (hm : X.mg "isinstance" = none) (hg : Gl (X.suite a ((a, oe) :: pn)) "isinstance" := by rfl)
    (hs : starEach [e, e2] X.env = (false, eval e X.env) :: starEach [e2] X.env := by rfl) (hs2 : starEach [e2] X.env = [(false, eval e2 X.env)] := by rfl) (hpl : (backTo pos (starEach [e2] X.env)).any (·.1) = false := by rfl) :
    PD (X.suite a ((a, oe) :: pn)) (.Call (.Name "isinstance" p) [e, e2] [] pos) (wIsE X.K a dd C T w) :=
  ⟨fun Wx tk => PE.imp (pe_callB (call_isD hz hf) hg hm (by decide +kernel) (pa_cons (he.run Wx tk) (pa_cons hc pa_nil hs2) hs) (by decide) (by decide) hs hpl) fun σ H Q ⟨W, env, S, Q0, X1, ok, sl, hw, cv, cx⟩ => ⟨W, env, S, _, X1, ok, sl, hw, fun d S1 v W1 H1 h1 s1 ok1 r1 => by
    cases d with
    | exc a' dd' C' g x =>
      obtain ⟨⟨rfl, rfl, rfl, ic⟩, h1⟩ := h1
      obtain ⟨b, e5, h1⟩ := some!_ex h1
      obtain ⟨e1, gs, u, e2, e3, ru⟩ := r1
      subst e1
      exact ⟨.ref T, .ref T, b, gs, rfl, ok1.vis _ _ e2, .own T, ic, e5, cv _ S1 _ W1 H1 h1 s1 ok1 rfl⟩
    | _ => exact h1.elim, cx⟩⟩
theorem pd_isET (hz : Zc (.ref C) (some dd) oe) (hf : ∃ vs, oe.data = .fields vs) (he : PD (X.suite a ((a, oe) :: pn)) e w) (ht : PA (X.suite a ((a, oe) :: pn)) es (tRefs Ts)) (hm : X.mg "isinstance" = none) (hzl : Ts.length ≤ sizeLine) (hg : Gl (X.suite a ((a, oe) :: pn)) "isinstance" := by rfl)
    (hs : starEach [e, .Tuple es kk p2] X.env = (false, eval e X.env) :: starEach [.Tuple es kk p2] X.env := by rfl) (hs2 : starEach [.Tuple es kk p2] X.env = [(false, eval (.Tuple es kk p2) X.env)] := by rfl) (hpl : (backTo pos (starEach [.Tuple es kk p2] X.env)).any (·.1) = false := by rfl) :
    PD (X.suite a ((a, oe) :: pn)) (.Call (.Name "isinstance" p) [e, .Tuple es kk p2] [] pos) (wIsET X.K a dd C Ts w) :=
  ⟨fun Wx tk => PE.imp (pe_callB (call_isDT hz hf) hg hm (by decide +kernel) (pa_cons (he.run Wx tk) (pa_cons (pe_tup ht) pa_nil hs2) hs) (by decide) (by decide) hs hpl) fun σ H Q ⟨W, env, S, Q0, X1, ok, sl, hw, cv, cx⟩ => ⟨W, env, S, _, X1, ok, sl, hw, fun d S1 v W1 H1 h1 s1 ok1 r1 => by
    cases d with
    | exc a' dd' C' g x =>
      obtain ⟨⟨rfl, rfl, rfl, ic⟩, h1⟩ := h1
      obtain ⟨b, e5, h1⟩ := some!_ex h1
      obtain ⟨e1, gs, u, e2, e3, ru⟩ := r1
      subst e1
      refine ⟨by rw [List.length_map]; exact hzl, fun q hq => ?_⟩
      exact ⟨q, _, _, b, gs, rfl, (ok1.newW hq).vis _ _ (same_new (ok1.fresh hq).1 _ _ e2), upd_same, clsv_refs Ts, ic, e5, cv _ S1 _ _ _ h1 (s1.trans (ok1.stW hq)) (ok1.newW (o := .tup (Ts.map V.ref)) hq) rfl⟩
    | _ => exact h1.elim, cx⟩⟩
end
end DL
set_option Elab.async false
set_option linter.all false
set_option maxRecDepth 100000
set_option maxHeartbeats 1000000
/-! The data layer, part n: contracts of defs called by keyword. -/
namespace DL
open PySem PySem.Spec PyProof.Rows L2
def DefAtK (K : PySem.W.Frag) (mg : Str → Option Value) (x qual : Str) (st : Stmt) (ps ks : List Str) (n m : Nat) (perm : List Nat) : Prop := ∃ f fd, Fun K x qual st f fd ∧ mg x = some (.ref f) ∧ KBinds K fd ps ks (fun us ws => pickK n m perm us ws) (fun us ws => pickK n m perm us ws)
def FnCK (P : Program) (w : World) (K : PySem.W.Frag) (mg : Str → Option Value) (base : Heap) (k : Nat) (x : Str) (ps ks : List Str) (n m : Nat) (perm : List Nat) (spec : Ctr) : Prop :=
  ∃ f fd, FnD P w K mg base k f fd ps spec ∧ mg x = some (.ref f) ∧ PySem.W.keepIn K (.ref f) = true ∧ KBinds K fd ps ks (fun us ws => pickK n m perm us ws) (fun us ws => pickK n m perm us ws)
theorem FnCK.mk {P : Program} {w : World} {K : PySem.W.Frag} {mg : Str → Option Value} {base : Heap} {x qual : Str} {st : Stmt} {N ps ks : List Str} {k n m : Nat} {perm : List Nat} {spec : Ctr} {ws : WPs} (D : DefAtK K mg x qual st ps ks n m perm) (S : FnScope N ps (defScope st)) (hle : ps.length ≤ N.length)
    (len : ∀ ds S Q E, spec ds S Q E → ds.length = ps.length)
    (hd : ∀ (f : Addr) (cdv : Value) (A : Around) (outer : List Env) (s : Shared) (H : Hp) (E : XK), Room k (A.deeper (envOfC qual (defScope st) s.heap.objs.size f cdv)) → PDss (cxOf (L2.CX P w) P w K mg base N qual (defScope st) f cdv A outer s H E) (defBody st) ws)
    (hr : ∀ ds S Q X1, spec ds S Q X1 → ws (startD N ds) S (endQ Q X1)) : FnCK P w K mg base (k + 1) x ps ks n m perm spec := by
  obtain ⟨f, fd, F, hm, hb⟩ := D
  exact ⟨f, fd, fnd_mk F S hle len hd hr, hm, F.kp, hb⟩
section
variable {X : Cx} {x : Str} {p pos : Pos} {e : Expr} {es : List Expr} {kws : List Keyword} {wa wk : WPa} {k n m : Nat} {perm : List Nat} {ps ks : List Str} {spec : Ctr}
theorem pd_fcK0 (G : FnCK X.prog X.w X.K X.mg X.base k x ps ks 0 m perm spec) (hr : Room k X.A) (hkw : PDk X kws wk)
    (hg : Gl X x := by rfl) (hdb : (x == ("__debug__" : Str)) = false := by decide) (hall : (backToKw pos (keywordEach kws X.env)).all (·.1.isSome) = true := by rfl) (hks : (backToKw pos (keywordEach kws X.env)).filterMap (·.1) = ks := by rfl)
    (hpl : ((backTo pos (starEach [] X.env)).any (·.1) || (backToKw pos (keywordEach kws X.env)).any (·.1.isNone)) = false := by rfl) : PD X (.Call (.Name x p) [] kws pos) (wCallK spec 0 m perm wNil wk) := by
  obtain ⟨f, fd, F, hm, hk, hb⟩ := G
  exact pd_fnK0 F hm hk hb hr hkw hg hdb hall hks hpl
theorem pd_fcK (G : FnCK X.prog X.w X.K X.mg X.base k x ps ks n m perm spec) (hr : Room k X.A) (ha : PDa X (e :: es) wa) (hkw : PDk X kws wk)
    (hg : Gl X x := by rfl) (hdb : (x == ("__debug__" : Str)) = false := by decide) (hall : (backToKw pos (keywordEach kws X.env)).all (·.1.isSome) = true := by rfl) (hks : (backToKw pos (keywordEach kws X.env)).filterMap (·.1) = ks := by rfl)
    (he : starEach (e :: es) X.env = (false, eval e X.env) :: starEach es X.env := by rfl)
    (hpl : ((backTo pos (starEach (e :: es) X.env)).any (·.1) || (backToKw pos (keywordEach kws X.env)).any (·.1.isNone)) = false := by rfl) : PD X (.Call (.Name x p) (e :: es) kws pos) (wCallK spec n m perm wa wk) := by
  obtain ⟨f, fd, F, hm, hk, hb⟩ := G
  exact pd_fnK F hm hk hb hr ha hkw hg hdb hall hks he hpl
end
end DL
set_option Elab.async false
set_option linter.all false
set_option maxRecDepth 100000
set_option maxHeartbeats 1000000
/-! The data layer, part o: what later laws want. -/
namespace DL
open PySem PySem.Spec PyProof.Rows L2
/-- + of lists, made to change -/
def oAddM : O2 := fun S x y Q => some! (seqM S x) fun xs => some! (seqM S y) fun ys => xs.length + ys.length ≤ sizeLine ∧ ∀ p, S p = none → Q (.ref p) (put S p (.lst (xs ++ ys)))
theorem opd_addM {X : Cx} : OpR X (binaryOp .Add) (lOp X.K oAddM) := fun pins s σ H x y v u Q I rx ry h => by
  obtain ⟨W, S, a, b, Q0, ok, ra, rb, ho, cv⟩ := h
  obtain ⟨xs, e1, z⟩ := some!_ex ho
  obtain ⟨ys, e2, hz, z⟩ := some!_ex z
  obtain ⟨p, vs, rfl, hp, r1⟩ := seqM_rep ok ra e1
  obtain ⟨q, ws, rfl, hq, r2⟩ := seqM_rep ok rb e2
  refine op_cat pins s σ H _ _ v u Q I rx ry ⟨p, q, vs, ws, rfl, rfl, hp, hq, by rw [r1.length, r2.length]; exact hz, fun o no => ?_⟩
  have n := ok.fresh no
  exact cv _ _ _ _ _ (z o n.2) (ok.stS no) (ok.newS no ⟨_, rfl, r1.append r2⟩) rfl
/-! ### own exception classes: what the written part tells -/
theorem kitc_of {K : PySem.W.Frag} {C S : Addr} {b : Bool} (h2 : PySem.W.isClsIn K S = true) (h3 : PySem.W.typeIn K (.ref S) = some (.type "type")) (h4 : PySem.W.subIn K (.ref C) (.ref S) = some b) : PySem.W.kitCls K (.ref C) (.ref S) = some b := by
  have e2 : ((PySem.W.clsIn K S).isSome && PySem.W.typeIn K (.ref S) == some (.type "type")) = true := by
    have h2' : (PySem.W.clsIn K S).isSome = true := h2
    rw [h2', h3] <;> rfl
  show (if ((PySem.W.clsIn K S).isSome && PySem.W.typeIn K (.ref S) == some (.type "type")) = true then PySem.W.subIn K (.ref C) (.ref S) else none) = some b
  rw [if_pos e2]
  exact h4
theorem exm_of {K : PySem.W.Frag} {C S : Addr} {b : Bool} (h1 : PySem.W.subIn K (.ref S) (.type "BaseException") = some true) (h2 : PySem.W.isClsIn K S = true) (h3 : PySem.W.typeIn K (.ref S) = some (.type "type")) (h4 : PySem.W.subIn K (.ref C) (.ref S) = some b) : PySem.W.exmOne K (.ref C) (.ref S) = some b := by
  have e1 : (PySem.W.subIn K (.ref S) (.type "BaseException") == some true) = true := by rw [h1] <;> rfl
  show (if (PySem.W.subIn K (.ref S) (.type "BaseException") == some true) = true then PySem.W.kitCls K (.ref C) (.ref S) else none) = some b
  rw [if_pos e1]
  exact kitc_of h2 h3 h4
theorem kit_self {K : PySem.W.Frag} {C : Addr} : PySem.W.kitOne K (.ref C) (.ref C) = some true := by
  unfold PySem.W.kitOne
  rw [if_pos (by simp)]
theorem kit_of {K : PySem.W.Frag} {C S : Addr} {b : Bool} (hne : C ≠ S) (h2 : PySem.W.isClsIn K S = true) (h3 : PySem.W.typeIn K (.ref S) = some (.type "type")) (h4 : PySem.W.subIn K (.ref C) (.ref S) = some b) : PySem.W.kitOne K (.ref C) (.ref S) = some b := by
  unfold PySem.W.kitOne
  rw [if_neg fun z => hne (Value.ref.inj (beq_iff_eq.mp z))]
  exact kitc_of h2 h3 h4
theorem kitn_nil {K : PySem.W.Frag} {t : Value} : PySem.W.kitAny K t [] = some false := rfl
theorem kitn_cons {K : PySem.W.Frag} {t c : Value} {r : List Value} {b : Bool} (h1 : PySem.W.kitOne K t c = some false) (h2 : PySem.W.kitAny K t r = some b) : PySem.W.kitAny K t (c :: r) = some b := by
  show (match PySem.W.kitOne K t c with | some true => some true | some false => PySem.W.kitAny K t r | none => none) = some b
  rw [h1]; exact h2
theorem kitn_here {K : PySem.W.Frag} {t c : Value} {r : List Value} (h1 : PySem.W.kitOne K t c = some true) : PySem.W.kitAny K t (c :: r) = some true := by
  show (match PySem.W.kitOne K t c with | some true => some true | some false => PySem.W.kitAny K t r | none => none) = some true
  rw [h1]
end DL
set_option Elab.async false
set_option linter.all false
set_option maxRecDepth 100000
set_option maxHeartbeats 1000000
/-! The data layer, part p: dicts whose keys are tuples (of ints, bools, None and of such tuples). -/
namespace DL
open PySem PySem.Spec PyProof.Rows L2
mutual
theorem khash_eq (w : World) : ∀ {d : D} {k : NestedKey}, nkD d = some k → k.hash w = khash k
  | .non, k, h => by cases h; rfl
  | .bl _, k, h => by cases h; rfl
  | .int _, k, h => by cases h; rfl
  | .tup xs, k, h => by
    have h' : (nksD xs).map NestedKey.tup = some k := h
    obtain ⟨ks, e1, e2⟩ := Option.map_eq_some_iff.mp h'
    subst e2
    show reduceHash (Builtin.Tuple.tupleHashOf (NestedKey.hashes w ks)) = reduceHash (Builtin.Tuple.tupleHashOf (khashes ks))
    rw [khashes_eq w e1]
  | .str _, _, h => by cases h
  | .ref _, _, h => by cases h
  | .lst _, _, h => by cases h
  | .fro _, _, h => by cases h
  | .obj _ _ _, _, h => by cases h
  | .exc _ _ _ _ _, _, h => by cases h
theorem khashes_eq (w : World) : ∀ {ds : List D} {ks : List NestedKey}, nksD ds = some ks → NestedKey.hashes w ks = khashes ks
  | [], ks, h => by cases h; rfl
  | d :: r, ks, h => by
    have h' : ((nkD d).bind fun k => (nksD r).map (k :: ·)) = some ks := h
    obtain ⟨k, e1, e2⟩ := Option.bind_eq_some_iff.mp h'
    obtain ⟨ks', e3, e4⟩ := Option.map_eq_some_iff.mp e2
    subst e4
    show NestedKey.hash w k :: NestedKey.hashes w ks' = khash k :: khashes ks'
    rw [khash_eq w e1, khashes_eq w e3]
end
section
variable {X : Cx} {pins : List (Addr × Obj)} {σ : L2.St} {H W : Hp} {s : Shared}
mutual
theorem nest_of (I : L2.Inv X pins σ H s) (e : Same W H) : ∀ {d : D} {v : V} {u : Value} {k : NestedKey}, Rep X.K W d v → RelV v u → nkD d = some k → NestedIs s.heap k u
  | .non, v, u, k, r, ru, h => by
    cases h
    rw [show v = V.non from r] at ru
    rw [show u = Value.none from ru]; exact .none
  | .bl b, v, u, k, r, ru, h => by
    cases h
    rw [show v = V.bl b from r] at ru
    rw [show u = Value.bool b from ru]; exact .bool rfl
  | .int i, v, u, k, r, ru, h => by
    cases h
    rw [show v = V.int i from r] at ru
    obtain ⟨t, ht⟩ := (show ∃ t, u = Value.int i t from ru)
    rw [ht]; exact .int i t
  | .tup xs, v, u, k, r, ru, h => by
    have h' : (nksD xs).map NestedKey.tup = some k := h
    obtain ⟨ks, e1, e2⟩ := Option.map_eq_some_iff.mp h'
    subst e2
    obtain ⟨a, vs, rfl, hq, rv⟩ := r
    obtain rfl : u = Value.ref a := ru
    obtain ⟨its, rvs, ⟨o, ho, hc, n, hd⟩, hz⟩ := I.tuple (sqT_mono e hq)
    exact .tup ho hc hd (nests_of I e rv rvs e1)
  | .str _, _, _, _, _, _, h => by cases h
  | .ref _, _, _, _, _, _, h => by cases h
  | .lst _, _, _, _, _, _, h => by cases h
  | .fro _, _, _, _, _, _, h => by cases h
  | .obj _ _ _, _, _, _, _, _, h => by cases h
  | .exc _ _ _ _ _, _, _, _, _, _, h => by cases h
theorem nests_of (I : L2.Inv X pins σ H s) (e : Same W H) : ∀ {ds : List D} {vs : List V} {us : List Value} {ks : List NestedKey}, Reps X.K W ds vs → Vals vs us → nksD ds = some ks → NestedAll s.heap ks us
  | [], vs, us, ks, r, rv, h => by
    cases h
    rw [show vs = [] from r] at rv
    cases rv
    exact .nil
  | d :: ds, vs, us, ks, ⟨v, r, e1, e2, e3⟩, rv, h => by
    subst e1
    cases rv with
    | cons r1 r2 =>
      have h' : ((nkD d).bind fun k => (nksD ds).map (k :: ·)) = some ks := h
      obtain ⟨k, g1, g2⟩ := Option.bind_eq_some_iff.mp h'
      obtain ⟨ks', g3, g4⟩ := Option.map_eq_some_iff.mp g2
      subst g4
      exact .cons (nest_of I e e2 r1 g1) (nests_of I e e3 r2 g3)
end
theorem DN.length {K : PySem.W.Frag} : ∀ {kvs : List (D × D)} {xs : List (NestedKey × Addr × Value)}, DN K W kvs xs → xs.length = kvs.length
  | [], xs, h => by rw [show xs = [] from h]; rfl
  | _ :: _, _, ⟨k, b, u, v, r', e1, _, _, _, e6⟩ => by rw [e1, List.length_cons, List.length_cons, DN.length e6]
theorem DN.mem {K : PySem.W.Frag} : ∀ {kvs : List (D × D)} {xs : List (NestedKey × Addr × Value)}, DN K W kvs xs → ∀ x, x ∈ xs → ∃ kd, (nkD kd = some x.1 ∧ x.1.depth ≤ 8) ∧ Rep K W kd (.ref x.2.1)
  | [], xs, h, x, hx => by rw [show xs = [] from h] at hx; cases hx
  | p :: _, _, ⟨k, b, u, v, r', e1, e2, e3, _, e6⟩, x, hx => by
    subst e1
    cases hx with
    | head => exact ⟨p.1, e2, e3⟩
    | tail _ hx => exact DN.mem e6 x hx
/-- the dict's object, as the kit's rules want it -/
theorem dict_at {S : Sto} {a : Addr} {kvs : List (D × D)} (I : L2.Inv X pins σ H s) (ok : Ok X.K W S H) (hS : S a = some (.dN a kvs)) :
    ∃ xs, H a = some (.ext (dnP a xs)) ∧ DN X.K W kvs xs ∧ (kvs.length ≤ sizeLine ∧ (a == sysModules) = false ∧ (xs.map (·.1)).Nodup) ∧ s.heap.DictOfH (nestedKind X.prog X.w) a xs := by
  obtain ⟨o, h1, xs, h2, h3, h4⟩ := ok.sto _ _ hS
  subst h2
  obtain ⟨⟨ob, es, ep, g1, g2, g3, g4⟩, _, _⟩ := (show ObjOk X.prog X.w H s.heap a (.ext (dnP a xs)) from I.hok a _ h1)
  refine ⟨xs, h1, h4, h3, ob, es, ep, g1, g2, g3, ?_, fun x hx => ?_, h3.2.2⟩
  · rw [g4]
    refine List.map_congr_left fun x hx => ?_
    obtain ⟨kd, ⟨q1, _⟩, _⟩ := DN.mem h4 x hx
    show (⟨khash x.1, .ref x.2.1, x.2.2⟩ : DictEntry) = ⟨x.1.hash X.w, .ref x.2.1, x.2.2⟩
    rw [khash_eq X.w q1]
  · obtain ⟨kd, ⟨q1, q2⟩, q3⟩ := DN.mem h4 x hx
    exact ⟨nest_of I ok.vis q3 rfl q1, q2⟩
/-- what the dict holds at a key -/
def fndN (kvs : List (D × D)) (k : NestedKey) : Option D := match kvs with
  | [] => none
  | p :: r => if nkD p.1 = some k then some p.2 else fndN r k
def putN (kvs : List (D × D)) (k : NestedKey) (i d : D) : List (D × D) := if (fndN kvs k).isSome = true then kvs.map fun p => if nkD p.1 = some k then (p.1, d) else p else kvs ++ [(i, d)]
theorem at_cons {x : NestedKey × Addr × Value} {xs : List (NestedKey × Addr × Value)} {k : NestedKey} : atKey (x :: xs) k = if x.1 = k then some x.2 else atKey xs k := by
  unfold atKey
  rw [List.find?_cons]
  by_cases e : x.1 = k
  · rw [decide_eq_true e, if_pos e]; rfl
  · rw [decide_eq_false e, if_neg e]
theorem DN.find {K : PySem.W.Frag} {k : NestedKey} : ∀ {kvs : List (D × D)} {xs : List (NestedKey × Addr × Value)}, DN K W kvs xs → (fndN kvs k = none ∧ atKey xs k = none) ∨ ∃ d b u v, fndN kvs k = some d ∧ atKey xs k = some (b, u) ∧ Rep K W d v ∧ RelV v u
  | [], xs, h => by rw [show xs = [] from h]; exact .inl ⟨rfl, rfl⟩
  | p :: r, _, ⟨k', b, u, v, r', e1, ⟨e2, _⟩, e3, ⟨e4, e5⟩, e6⟩ => by
    subst e1
    rw [at_cons]
    by_cases e : k' = k
    · subst e
      exact .inr ⟨p.2, b, u, v, by unfold fndN; rw [if_pos e2], if_pos rfl, e4, e5⟩
    · rw [if_neg e]
      have : fndN (p :: r) k = fndN r k := by
        show (if nkD p.1 = some k then some p.2 else fndN r k) = _
        rw [if_neg (by rw [e2]; exact fun z => e (Option.some.inj z))]
      rw [this]
      exact DN.find e6
/-- a key -/
def keyD (d : D) : Option NestedKey := match d with
  | .tup xs => (nkD (.tup xs)).bind fun k => if k.depth ≤ 8 then some k else none
  | _ => none
theorem keyD_ex {d : D} {k : NestedKey} (h : keyD d = some k) : (nkD d = some k ∧ k.depth ≤ 8) ∧ ∃ xs, d = .tup xs := by
  cases d with
  | tup xs =>
    have h' : ((nkD (.tup xs)).bind fun k => if k.depth ≤ 8 then some k else none) = some k := h
    obtain ⟨k', e1, e2⟩ := Option.bind_eq_some_iff.mp h'
    by_cases q : k'.depth ≤ 8
    · rw [if_pos q] at e2; cases e2; exact ⟨⟨e1, q⟩, _, rfl⟩
    · rw [if_neg q] at e2; cases e2
  | _ => cases h
def dnAt (S : Sto) (y : D) (k : Addr → List (D × D) → Prop) : Prop := match y with
  | .ref a => match S a with
    | some (.dN a' kvs) => a' = a ∧ k a kvs
    | _ => False
  | _ => False
theorem dnAt_ex {S : Sto} {y : D} {k : Addr → List (D × D) → Prop} (h : dnAt S y k) : ∃ a kvs, y = .ref a ∧ S a = some (.dN a kvs) ∧ k a kvs := by
  cases y with
  | ref a =>
    have h' : (match S a with | some (.dN a' kvs) => a' = a ∧ k a kvs | _ => False) := h
    cases q : S a with
    | none => rw [q] at h'; exact h'.elim
    | some m =>
      rw [q] at h'
      cases m with
      | dN a' kvs => obtain ⟨rfl, h'⟩ := h'; exact ⟨_, kvs, rfl, q, h'⟩
      | _ => exact h'.elim
  | _ => exact h.elim
theorem dnAt_mk {S : Sto} {a : Addr} {kvs : List (D × D)} {k : Addr → List (D × D) → Prop} (h : S a = some (.dN a kvs)) (q : k a kvs) : dnAt S (.ref a) k := by
  show (match S a with | some (.dN a' kvs) => a' = a ∧ k a kvs | _ => False)
  rw [h]
  exact ⟨rfl, q⟩
def oInN (neg : Bool) : O2 := fun S x y Q => dnAt S y fun _ kvs => some! (keyD x) fun k => Q (.bl (if neg = true then !(fndN kvs k).isSome else (fndN kvs k).isSome)) S
theorem room_in1 {A : Around} (hu : A.units + 64 < cLine) : (nestedKind X.prog X.w).room A.in1 := by
  show A.in1.units + 8 < cLine
  have : A.in1.units ≤ A.units + 1 := by first | exact Nat.le_refl _ | (unfold Around.in1; split <;> simp) | (show _ ≤ _; simp [Around.in1, Around.units])
  omega
theorem DN.some_eq {K : PySem.W.Frag} {k : NestedKey} {kvs : List (D × D)} {xs : List (NestedKey × Addr × Value)} (h : DN K W kvs xs) : (fndN kvs k).isSome = (atKey xs k).isSome := by
  rcases h.find (k := k) with ⟨e1, e2⟩ | ⟨d, b, u, v, e1, e2, _⟩ <;> rw [e1, e2] <;> rfl
end
theorem opd_inN {X : Cx} (hu : X.A.units + 64 < cLine) : OpR X (compareOp .In) (lOp X.K (oInN false)) := fun pins s σ H x y v u Q I rx ry h => by
  obtain ⟨W, S, a, b, Q0, ok, ra, rb, ho, cv⟩ := h
  obtain ⟨p, kvs, rfl, hS, ho⟩ := dnAt_ex ho
  obtain ⟨k, hk, hq0⟩ := some!_ex ho
  obtain ⟨⟨k1, k2⟩, xs, rfl⟩ := keyD_ex hk
  obtain ⟨es, h1, dn, ⟨z1, z2, z3⟩, dd⟩ := dict_at I ok hS
  obtain ⟨q, vs, rfl, hq, rv⟩ := id ra
  obtain rfl : v = Value.ref q := rx
  rw [show y = V.ref p from rb] at ry
  obtain rfl : u = Value.ref p := ry
  refine wpAny_in_heap (room_in1 hu) ⟨nest_of I ok.vis ra rfl k1, k2⟩ z2 dd ?_
  rw [← dn.some_eq]
  exact ⟨.bl (fndN kvs k).isSome, H, I.tok _, rfl, cv (.bl (fndN kvs k).isSome) S _ W H (by simpa using hq0) Stp.refl ok rfl⟩
theorem opd_notInN {X : Cx} (hu : X.A.units + 64 < cLine) : OpR X (compareOp .NotIn) (lOp X.K (oInN true)) := fun pins s σ H x y v u Q I rx ry h => by
  obtain ⟨W, S, a, b, Q0, ok, ra, rb, ho, cv⟩ := h
  obtain ⟨p, kvs, rfl, hS, ho⟩ := dnAt_ex ho
  obtain ⟨k, hk, hq0⟩ := some!_ex ho
  obtain ⟨⟨k1, k2⟩, xs, rfl⟩ := keyD_ex hk
  obtain ⟨es, h1, dn, ⟨z1, z2, z3⟩, dd⟩ := dict_at I ok hS
  obtain ⟨q, vs, rfl, hq, rv⟩ := id ra
  obtain rfl : v = Value.ref q := rx
  rw [show y = V.ref p from rb] at ry
  obtain rfl : u = Value.ref p := ry
  refine wpAny_notIn_heap (room_in1 hu) ⟨nest_of I ok.vis ra rfl k1, k2⟩ z2 dd ?_
  rw [← dn.some_eq]
  exact ⟨.bl (!(fndN kvs k).isSome), H, I.tok _, rfl, cv (.bl (!(fndN kvs k).isSome)) S _ W H (by simpa using hq0) Stp.refl ok rfl⟩
end DL
set_option Elab.async false
set_option linter.all false
set_option maxRecDepth 100000
set_option maxHeartbeats 1000000
/-! The data layer, part q: dicts with tuple keys: written, made, read. -/
namespace DL
open PySem PySem.Spec PyProof.Rows L2
section
variable {X : Cx} {pins : List (Addr × Obj)} {σ : L2.St} {H W : Hp} {s : Shared}
theorem DN.snoc {K : PySem.W.Frag} {i d : D} {k : NestedKey} {b : Addr} {u : Value} {v : V} (hk : nkD i = some k ∧ k.depth ≤ 8) (ri : Rep K W i (.ref b)) (rd : Rep K W d v ∧ RelV v u) : ∀ {kvs : List (D × D)} {xs : List (NestedKey × Addr × Value)}, DN K W kvs xs → DN K W (kvs ++ [(i, d)]) (xs ++ [(k, b, u)])
  | [], xs, h => by rw [show xs = [] from h]; exact ⟨k, b, u, v, [], rfl, hk, ri, rd, rfl⟩
  | p :: r, _, ⟨k', b', u', v', r', e1, e2, e3, e4, e6⟩ => by
    subst e1
    exact ⟨k', b', u', v', _, rfl, e2, e3, e4, DN.snoc hk ri rd e6⟩
theorem DN.upd {K : PySem.W.Frag} {d : D} {k : NestedKey} {u : Value} {v : V} (rd : Rep K W d v ∧ RelV v u) : ∀ {kvs : List (D × D)} {xs : List (NestedKey × Addr × Value)}, DN K W kvs xs →
    DN K W (kvs.map fun p => if nkD p.1 = some k then (p.1, d) else p) (xs.map (putAt k u))
  | [], xs, h => by rw [show xs = [] from h]; rfl
  | p :: r, _, ⟨k', b', u', v', r', e1, e2, e3, e4, e6⟩ => by
    subst e1
    rw [List.map_cons, List.map_cons]
    by_cases e : k' = k
    · subst e
      rw [if_pos e2.1]
      refine ⟨k', b', u, v, _, ?_, e2, e3, rd, DN.upd rd e6⟩
      rw [show putAt k' u (k', b', u') = (k', b', u) from if_pos rfl]
    · rw [if_neg (by rw [e2.1]; exact fun z => e (Option.some.inj z))]
      refine ⟨k', b', u', v', _, ?_, e2, e3, e4, DN.upd rd e6⟩
      rw [show putAt k u (k', b', u') = (k', b', u') from if_neg e]
theorem DN.put {K : PySem.W.Frag} {i d : D} {k : NestedKey} {b : Addr} {u : Value} {v : V} {kvs : List (D × D)} {xs : List (NestedKey × Addr × Value)} (h : DN K W kvs xs) (hk : nkD i = some k ∧ k.depth ≤ 8) (ri : Rep K W i (.ref b)) (rd : Rep K W d v ∧ RelV v u) :
    DN K W (putN kvs k i d) (storedH xs k b u) := by
  unfold putN storedH
  rw [h.some_eq (k := k)]
  by_cases e : (atKey xs k).isSome = true
  · rw [if_pos e, if_pos e]; exact h.upd rd
  · rw [if_neg e, if_neg e]; exact h.snoc hk ri rd
theorem putN_len {kvs : List (D × D)} {k : NestedKey} {i d : D} : (putN kvs k i d).length ≤ kvs.length + 1 := by
  unfold putN
  split
  · rw [List.length_map]; omega
  · rw [List.length_append]; exact Nat.le_refl _
/-- the object of a dict, told by its entries -/
theorem dn_obj {P : Program} {w : World} {H' : Hp} {h' : Heap} {a : Addr} {kvs : List (D × D)} {xs : List (NestedKey × Addr × Value)} (dn : DN X.K W kvs xs) (dd : h'.DictOfH (nestedKind P w) a xs) : ObjOk P w H' h' a (.ext (dnP a xs)) := by
  obtain ⟨o, es, ep, h1, h2, h3, h4, _, _⟩ := dd
  refine ⟨⟨o, es, ep, h1, h2, h3, ?_⟩, ⟨o, h1⟩, fun k1 k2 ⟨o', es', ep', g1, g2⟩ e => ⟨o', es', ep', e _ g1, g2⟩⟩
  rw [h4]
  refine List.map_congr_left fun x hx => ?_
  obtain ⟨kd, ⟨q1, _⟩, _⟩ := DN.mem dn x hx
  show (⟨x.1.hash w, .ref x.2.1, x.2.2⟩ : DictEntry) = ⟨khash x.1, .ref x.2.1, x.2.2⟩
  rw [khash_eq w q1]
/-- o[i] = e for a dict with tuple keys -/
def setN (S : Sto) (o i d : D) (k : Sto → Prop) : Prop := dnAt S o fun a kvs => some! (keyD i) fun key => kvs.length < sizeLine ∧ k (DL.put S a (.dN a (putN kvs key i d)))
def wSetN (wo wi we : WPe) : WPs := fun env S q => we env S (fun d S1 => wo env S1 (fun o S2 => wi env S2 (fun i S3 => setN S3 o i d fun S4 => q.nx env S4) (xcQ q env)) (xcQ q env)) (xcQ q env)
def lSetN (K : PySem.W.Frag) : TSet := fun o i v H Q => ∃ W S od id vd k, Ok K W S H ∧ Rep K W od o ∧ Rep K W id i ∧ Rep K W vd v ∧ setN S od id vd k ∧ ∀ S' H', k S' → Stp W S H W S' H' → Ok K W S' H' → Q H'
theorem set_N (hu : X.A.units + 64 < cLine) : PSet X (lSetN X.K) := by
  intro pins s σ H o i v ov iv u Q I ro ri rv ⟨W, S, od, id_, vd, k, ok, r1, r2, r3, hs, hq⟩
  obtain ⟨a, kvs, rfl, hS, hs⟩ := dnAt_ex hs
  obtain ⟨key, hk, hz, hk2⟩ := some!_ex hs
  obtain ⟨⟨k1, k2⟩, xs0, rfl⟩ := keyD_ex hk
  rw [show o = V.ref a from r1] at ro
  obtain rfl : ov = Value.ref a := ro
  obtain ⟨b, vs, rfl, hq0, rv0⟩ := id r2
  obtain rfl : iv = Value.ref b := ri
  obtain ⟨xs, h1, dn, ⟨z1, z2, z3⟩, dd⟩ := dict_at I ok hS
  have hl := dn.length
  have hlN : (putN kvs key (.tup xs0) vd).length ≤ kvs.length + 1 := putN_len
  refine wpAny_setItem_heap (hsz := by omega) (room_in1 hu) ⟨nest_of I ok.vis r2 rfl k1, k2⟩ dd fun h' dd' hsb => ?_
  have dn' := dn.put ⟨k1, k2⟩ r2 ⟨r3, rv⟩
  have he : ∃ q, h'.get? a = some q := let ⟨q, _, _, hq, _⟩ := dd'; ⟨q, hq⟩
  refine ⟨L2.upd H a (.ext (dnP a (storedH xs key b u))), d_write I (by rw [h1]; exact True.intro) hsb he (dn_obj dn' dd'), hq _ _ hk2 (ok.stC hS) (ok.chg hS ⟨_, rfl, ⟨by omega, z2, ?_⟩, dn'⟩)⟩
  obtain ⟨_, _, _, _, _, _, _, _, nd⟩ := dd'
  exact nd
theorem pds_setN {X : Cx} {o ip e : Expr} {wo wi we : WPe} {pos p2 : Pos} (hu : X.A.units + 64 < cLine) (ho : PD X o wo) (hi : PD X ip wi) (he : PD X e we) (hs : swapsWithSole [.Subscript o ip p2] e pos.line X.env = pure false := by rfl) (hw : swappedStores [.Subscript o ip p2] e X.env = pure none := by rfl)
    (h1 : (assignEach [.Subscript o ip p2] X.env).map (·.2) = [assign (.Subscript o ip p2) X.env] := by rfl)
    (ha : ∀ v, assign (.Subscript o ip p2) X.env v = (do
      let ov ← holding [v] (eval o X.env)
      let iv ← holding [v, ov] (eval ip X.env)
      standAt p2
      holding [v, ov, iv] (setItem ov iv v)
      release [v, ov, iv] []) := by intro _; rfl) : PDs X (.Assign [.Subscript o ip p2] e pos) (wSetN wo wi we) :=
  ⟨fun Wx tk => PS.imp (ps_asg (he.run Wx tk) (pg_sub (ho.run Wx tk) (hi.run Wx tk) (set_N hu) ha) hs hw h1) fun D σ H ⟨W, env, S, q, ok, sl, hl, hw, cs⟩ => ⟨W, env, S, _, _, ok, sl, hw, fun d S1 v W1 H1 h1 s1 ok1 r1 =>
    ⟨W1, env, S1, _, _, ok1, sl.mono s1.vis, h1, fun o1 S2 u W2 H2 h2 s2 ok2 r2 => ⟨W2, env, S2, _, _, ok2, sl.mono (s1.trans s2).vis, h2, fun i1 S3 t W3 H3 h3 s3 ok3 r3 =>
      ⟨W3, S3, o1, i1, d, _, ok3, r2.mono s3.vis, r3, r1.mono (s2.trans s3).vis, h3, fun S4 H4 h4 st4 ok4 => cs.nx _ S4 _ W3 _ h4 (s1.trans (s2.trans (s3.trans st4))) ok4 (sl.mono (s1.trans (s2.trans s3)).vis) hl⟩, CXc.of (cs.mono (s1.trans s2)) (sl.mono (s1.trans s2).vis)⟩, CXc.of (cs.mono s1) (sl.mono s1.vis)⟩, CXc.of cs sl⟩⟩
end
/-- {k: v} -/
def wDict1 (wk wv : WPe) : WPe := fun env S Q X => wk env S (fun kd S1 => wv env S1 (fun vd S2 => some! (keyD kd) fun _ => ∀ p, S2 p = none → Q (.ref p) (DL.put S2 p (.dN p [(kd, vd)]))) X) X
theorem Stp.grow {W : Hp} {S : Sto} {H H1 : Hp} (h : ∀ a o, H a = some o → H1 a = some o) : Stp W S H W S H1 := ⟨Same.refl W, fun a o e h1 h2 => ⟨h a o e, h1, h2⟩⟩
theorem pd_dict1 {X : Cx} {ek ev : Expr} {pos : Pos} {wk wv : WPe} (hu : X.A.units + 64 < cLine) (hk : PD X ek wk) (hv : PD X ev wv) : PD X (.Dict [some ek] [ev] pos) (wDict1 wk wv) := by
  refine ⟨fun Wx tk => ⟨fun pins s σ H Q I h => ?_⟩⟩
  obtain ⟨W, env, S, Q0, X1, ok, sl, hw, cv, cx⟩ := h
  refine wpAny_Dict_any rfl rfl (by simp) (by show 1 ≤ 15; omega) ?_
  have hp : H s.heap.objs.size = none := I.hok.fresh (Nat.le_refl _)
  have hnm : (s.heap.objs.size == sysModules) = false := beq_eq_false_iff_ne.mpr (Ne.symm (Nat.ne_of_lt I.big))
  have new0 : ∀ H', ObjOk X.prog X.w H' (s.heap.push { cls := .type "dict", data := .dict #[] }) s.heap.objs.size (.ext (dnP s.heap.objs.size [])) := fun H' =>
    ⟨⟨_, #[], 0, Heap.get?_push_size _ rfl, ⟨rfl, rfl, rfl⟩, rfl, rfl⟩, ⟨_, Heap.get?_push_size _ rfl⟩, fun k1 k2 ⟨o', es', ep', g1, g2⟩ e => ⟨o', es', ep', e _ g1, g2⟩⟩
  have I1 := I.laid (a := s.heap.objs.size) (o := .ext (dnP s.heap.objs.size [])) (t' := s.toks) (fun _ _ q => Heap.get?_push_of_some _ q) (Nat.le_refl _) (new0 _)
  generalize s.heap.objs.size = p at hp hnm I1
  obtain ⟨hW, hS⟩ := ok.fresh hp
  have ok1 := ok.junk (o := .ext (dnP p [])) hp
  have st1 := ok.stJ (o := .ext (dnP p [])) hp
  show wpAny _ _ (evalPairs [(eval ek X.env, do let x ← eval ev X.env; standAt pos; pure x)]) _ _ _
  refine evalPairs_cons ?_
  refine thn ((hk.run Wx tk).run pins _ σ _ _ I1 ⟨W, env, S, _, X1, ok1, sl, hw, fun kd S2 v2 W2 H2 h2 s2 ok2 r2 => (⟨W2, S2, kd, h2, s2, ok2, r2⟩ : ∃ W2 S2 kd, (fun kd S1 => wv env S1 (fun vd S2 => some! (keyD kd) fun _ => ∀ p, S2 p = none → Q0 (.ref p) (DL.put S2 p (.dN p [(kd, vd)]))) X1) kd S2 ∧ Stp W S (L2.upd H p (.ext (dnP p []))) W2 S2 H2 ∧ Ok X.K W2 S2 H2 ∧ Rep X.K W2 kd v2), cx.mono st1⟩) ?_
  rintro uk s2 ⟨vk, H2, I2, rk, W2, S2, kd, h2, st2, ok2, r2⟩
  refine wpAny_bind (thn ((hv.run Wx tk).run pins _ σ _ _ I2 ⟨W2, env, S2, _, X1, ok2, sl.mono st2.vis, h2, fun vd S3 v3 W3 H3 h3 s3 ok3 r3 => (⟨W3, S3, vd, h3, s3, ok3, r3⟩ : ∃ W3 S3 vd, (fun vd S2 => some! (keyD kd) fun _ => ∀ p, S2 p = none → Q0 (.ref p) (DL.put S2 p (.dN p [(kd, vd)]))) vd S3 ∧ Stp W2 S2 H2 W3 S3 H3 ∧ Ok X.K W3 S3 H3 ∧ Rep X.K W3 vd v3), cx.mono (st1.trans st2)⟩) ?_)
  rintro uv s3 ⟨vv, H3, I3, rv, W3, S3, vd, h3, st3, ok3, r3⟩
  refine wpAny_bind (wpAny_standAt (wpAny_pure ?_))
  refine evalPairs_nil ?_
  obtain ⟨key, hkey, hq⟩ := some!_ex h3
  obtain ⟨⟨k1, k2⟩, xs0, rfl⟩ := keyD_ex hkey
  have r2' := r2.mono st3.vis
  obtain ⟨b, vs, rfl, hq0, rv0⟩ := id r2'
  obtain rfl : uk = Value.ref b := rk
  have stA := (st2.trans st3)
  obtain ⟨e1, e2, e3⟩ := stA.frm p _ upd_same hW hS
  obtain ⟨⟨ob, es, ep, g1, g2, g3, g4⟩, _, _⟩ := (show ObjOk X.prog X.w H3 s3.heap p (.ext (dnP p [])) from I3.hok p _ e1)
  have dd : s3.heap.DictOfH (nestedKind X.prog X.w) p [] := ⟨ob, es, ep, g1, g2, g3, g4, (fun x hx => by cases hx), List.nodup_nil⟩
  show wpAny _ _ (storeAll p [(Value.ref b, uv)]) _ _ _
  unfold storeAll
  rw [List.forIn_cons]
  refine wpAny_bind (wpAny_bind (wpAny_dictSet_heap (knd := nestedKind X.prog X.w) (hsz := Nat.zero_le _) (show X.A.units + 8 < cLine by omega) ⟨nest_of I3 ok3.vis r2' rfl k1, k2⟩ dd fun h' dd' hsb => wpAny_pure ?_))
  dsimp only
  rw [List.forIn_nil]
  refine wpAny_pure ?_
  have dn' : DN X.K W3 [(.tup xs0, vd)] (storedH [] key b uv) := ⟨key, b, uv, vv, [], rfl, ⟨k1, k2⟩, r2', ⟨r3, rv⟩, rfl⟩
  have he : ∃ q, h'.get? p = some q := let ⟨q, _, _, hq, _⟩ := dd'; ⟨q, hq⟩
  have I4 := d_write (t' := s3.toks + (nestedKind X.prog X.w).draws key) I3 (by rw [e1]; exact True.intro) hsb he (dn_obj dn' dd')
  obtain ⟨_, _, _, _, _, _, _, _, nd⟩ := dd'
  have stB : Stp W S H W3 S3 H3 := st1.trans stA
  have ok4 := (ok3.out (o := .ext (dnP p (storedH [] key b uv))) e2 e3).own (m := .dN p [(.tup xs0, vd)]) e2 upd_same ⟨_, rfl, ⟨by show 1 ≤ sizeLine; decide, hnm, nd⟩, dn'⟩
  exact ⟨.ref p, _, I4, rfl, cv _ _ _ _ _ (hq p e3) ((stB.own hp).out hp) ok4 rfl⟩
/-- a bool in a list or tuple of bools -/
def oInB : O2 := fun S x y Q => match x with
  | .bl k => some! (seqA S y) fun xs => some! (toBls xs) fun bs => Q (.bl (bs.any fun b => b == k)) S
  | _ => False
def oNotInB : O2 := fun S x y Q => match x with
  | .bl k => some! (seqA S y) fun xs => some! (toBls xs) fun bs => Q (.bl (!(bs.any fun b => b == k))) S
  | _ => False
theorem inV_bl {k : Bool} : ∀ {bs : List Bool}, inV (.bl k) (bs.map V.bl) = (bs.any fun b => b == k) ∧ (bs.map V.bl).all flatV = true
  | [] => ⟨rfl, rfl⟩
  | b :: r => by
    obtain ⟨h1, h2⟩ := inV_bl (k := k) (bs := r)
    refine ⟨?_, h2⟩
    show ((b == k) || inV (.bl k) (r.map V.bl)) = ((b == k) || r.any fun b => b == k)
    rw [h1]
theorem opd_inB {X : Cx} : OpR X (compareOp .In) (lOp X.K oInB) := OpR.imp op_in_seq fun x y H Q ⟨W, S, a, b, Q0, ok, ra, rb, ho, cv⟩ => by
  cases a with
  | bl k =>
    obtain ⟨xs, e1, ho⟩ := some!_ex ho
    obtain ⟨bs, e2, ho⟩ := some!_ex ho
    obtain ⟨p, vs, rfl, hq, r1⟩ := seqA_rep ok rb e1
    have e3 := toBls_rep e2 r1
    subst e3
    have e4 : x = V.bl k := ra
    subst e4
    refine ⟨p, _, rfl, hq, rfl, (inV_bl (k := k)).2, ?_⟩
    rw [inV_bl.1]
    exact cv _ S _ W H ho Stp.refl ok rfl
  | _ => exact ho.elim
theorem opd_notInB {X : Cx} : OpR X (compareOp .NotIn) (lOp X.K oNotInB) := OpR.imp op_notIn_seq fun x y H Q ⟨W, S, a, b, Q0, ok, ra, rb, ho, cv⟩ => by
  cases a with
  | bl k =>
    obtain ⟨xs, e1, ho⟩ := some!_ex ho
    obtain ⟨bs, e2, ho⟩ := some!_ex ho
    obtain ⟨p, vs, rfl, hq, r1⟩ := seqA_rep ok rb e1
    have e3 := toBls_rep e2 r1
    subst e3
    have e4 : x = V.bl k := ra
    subst e4
    refine ⟨p, _, rfl, hq, rfl, (inV_bl (k := k)).2, ?_⟩
    rw [inV_bl.1]
    exact cv _ S _ W H ho Stp.refl ok rfl
  | _ => exact ho.elim
/-- d[k] -/
def oIxN : O2 := fun S x y Q => dnAt S x fun _ kvs => some! (keyD y) fun k => some! (fndN kvs k) fun d => Q d S
end DL
set_option Elab.async false
set_option linter.all false
set_option maxRecDepth 100000
set_option maxHeartbeats 1000000
/-! The data layer, part r: data in a list or tuple of data, the index of data, len of a dict with tuple keys, its d[k]. -/
namespace DL
open PySem PySem.Spec PyProof.Rows L2
theorem dp_lay {K : PySem.W.Frag} {W H : Hp} {S : Sto} (ok : Ok K W S H) {d : D} {v : V} (r : Rep K W d v) (c0 : (toP (resD S d)).canLay0 = true) : Dp K H v (toP (resD S d)) := by
  cases d with
  | ref a =>
    have e : resD S (.ref a) = (match S a with | some (.lst xs) => .lst xs | _ => .ref a) := rfl
    cases q : S a with
    | none => rw [e, q] at c0; cases c0
    | some m =>
      cases m with
      | lst xs =>
        rw [e, q] at c0 ⊢
        obtain ⟨o, e1, vs, e2, e3⟩ := ok.sto _ _ q
        subst e2
        have r' : v = .ref a := r
        subst r'
        exact .lst (SqL.of e1) (dps_of ok.vis e3 c0)
      | _ => rw [e, q] at c0; cases c0
  | _ => exact dp_of ok.vis r c0
def itP : PyData → Option (List PyData)
  | .list xs => some xs
  | .tuple xs => some xs
  | _ => none
/-- how data stands, where it is flat enough to be asked for -/
def layP (S : Sto) (x : D) : Prop := (toP (resD S x)).canLay0 = true ∧ (toP (resD S x)).depth ≤ 8
def hasD (x : PyData) (xs : List PyData) : Bool := xs.any fun y => PyData.eqv y x
def oInD (neg : Bool) : O2 := fun S x y Q => layP S x ∧ (toP (resD S y)).canLay0 = true ∧ some! (itP (toP (resD S y))) fun xs => Q (.bl (if neg = true then !hasD (toP (resD S x)) xs else hasD (toP (resD S x)) xs)) S
theorem opd_inD {X : Cx} (hu : X.A.units + 64 < cLine) : OpR X (compareOp .In) (lOp X.K (oInD false)) := fun pins s σ H x y v u Q I rx ry h => by
  obtain ⟨W, S, a, b, Q0, ok, ra, rb, ⟨⟨h1, h2⟩, h3, h4⟩, cv⟩ := h
  obtain ⟨xs, hxs, ho⟩ := some!_ex h4
  obtain ⟨as, r1⟩ := Dp.reads I _ x v (dp_lay ok ra h1) rx
  obtain ⟨bs, r2⟩ := Dp.reads I _ y u (dp_lay ok rb h3) ry
  have hd := PyData.plain_of_canLay0 _ h1
  generalize toP (resD S a) = da at *
  have fin : ∀ s, L2.Inv X pins σ H s → EP X pins σ Q (.bool (xs.any fun y => PyData.eqv y da)) s := fun s I => ⟨.bl (hasD da xs), H, I, rfl, cv (.bl (hasD da xs)) S _ W H (by simpa using ho) Stp.refl ok rfl⟩
  generalize toP (resD S b) = db at *
  cases db with
  | list ys =>
    cases (show some ys = some xs from hxs)
    have hxs' : PyData.plainAll xs = true := PyData.plainAll_of_canLay0 _ (show PyData.canLayAll0 xs = true from h3)
    exact SeqAt.in_list_data r2 r1 hxs' hd (by have := Nat.min_le_right (PyData.depthAll xs) da.depth; omega) (fin _ I)
  | tuple ys =>
    cases (show some ys = some xs from hxs)
    have hxs' : PyData.plainAll xs = true := PyData.plainAll_of_canLay0 _ (show PyData.canLayAll0 xs = true from h3)
    exact SeqAt.in_tuple_data r2 r1 hxs' hd (by have := Nat.min_le_right (PyData.depthAll xs) da.depth; omega) (fin _ I)
  | _ => cases hxs
theorem opd_notInD {X : Cx} (hu : X.A.units + 64 < cLine) : OpR X (compareOp .NotIn) (lOp X.K (oInD true)) := fun pins s σ H x y v u Q I rx ry h => by
  obtain ⟨W, S, a, b, Q0, ok, ra, rb, ⟨⟨h1, h2⟩, h3, h4⟩, cv⟩ := h
  obtain ⟨xs, hxs, ho⟩ := some!_ex h4
  obtain ⟨as, r1⟩ := Dp.reads I _ x v (dp_lay ok ra h1) rx
  obtain ⟨bs, r2⟩ := Dp.reads I _ y u (dp_lay ok rb h3) ry
  have hd := PyData.plain_of_canLay0 _ h1
  generalize toP (resD S a) = da at *
  have fin : ∀ s, L2.Inv X pins σ H s → EP X pins σ Q (.bool (!xs.any fun y => PyData.eqv y da)) s := fun s I => ⟨.bl (!hasD da xs), H, I, rfl, cv (.bl (!hasD da xs)) S _ W H (by simpa using ho) Stp.refl ok rfl⟩
  generalize toP (resD S b) = db at *
  cases db with
  | list ys =>
    cases (show some ys = some xs from hxs)
    have hxs' : PyData.plainAll xs = true := PyData.plainAll_of_canLay0 _ (show PyData.canLayAll0 xs = true from h3)
    exact SeqAt.notIn_list_data r2 r1 hxs' hd (by have := Nat.min_le_right (PyData.depthAll xs) da.depth; omega) (fin _ I)
  | tuple ys =>
    cases (show some ys = some xs from hxs)
    have hxs' : PyData.plainAll xs = true := PyData.plainAll_of_canLay0 _ (show PyData.canLayAll0 xs = true from h3)
    exact SeqAt.notIn_tuple_data r2 r1 hxs' hd (by have := Nat.min_le_right (PyData.depthAll xs) da.depth; omega) (fin _ I)
  | _ => cases hxs
/-- len(d) of a dict with tuple keys -/
def oLenN : OC := fun S ds Q => one ds fun d => dnAt S d fun _ kvs => Q (.int (kvs.length : Nat)) S
theorem DN.len {K : PySem.W.Frag} {W : Hp} : ∀ {kvs : List (D × D)} {xs : List (NestedKey × Addr × Value)}, DN K W kvs xs → kvs.length = xs.length
  | [], xs, h => by rw [show xs = [] from h]; rfl
  | p :: r, _, ⟨k', b, u, v, r', e1, _, _, _, e6⟩ => by
    subst e1
    rw [List.length_cons, List.length_cons, DN.len e6]
theorem cd_lenN {X : Cx} : CallR X (.builtin "len") (lC X.K oLenN) := by
  intro pins s σ H vs us Q I r ⟨W, S, ds, Q0, ok, rd, ho, cv⟩
  obtain ⟨d, rfl, ho⟩ := one_ex ho
  obtain ⟨p, kvs, rfl, hS, ho⟩ := dnAt_ex ho
  obtain ⟨v, rfl, rv⟩ := reps1 rd
  obtain ⟨u, rfl, rx⟩ := vals1 r
  rw [show v = V.ref p from rv] at rx
  obtain rfl : u = Value.ref p := rx
  obtain ⟨es, h1, dn, ⟨z1, z2, z3⟩, dd⟩ := dict_at I ok hS
  have hl := dn.len
  refine call_len_dictH z2 dd (by rw [← hl]; have := z1; rw [sizeLine_eq] at this; omega) ?_
  rw [← hl]
  exact ⟨.int ((kvs.length : Nat) : Int), H, I.tok _, ⟨_, rfl⟩, cv _ S _ W H ho Stp.refl ok rfl⟩
/-- xs.index(e), found -/
def oIndex : OM := fun S d ds Q => mutL S d fun _ xs => one ds fun e => layP S e ∧ PyData.canLayAll0 (toPs xs) = true ∧ xs.length ≤ sizeLine ∧
  ∃ (k : Nat) (y : PyData), (toPs xs)[k]? = some y ∧ PyData.eqv y (toP (resD S e)) = true ∧ (∀ (m : Nat) z, m < k → (toPs xs)[m]? = some z → PyData.eqv z (toP (resD S e)) = false) ∧ Q (.int (k : Nat)) S
theorem md_index {X : Cx} (hu : X.A.units + 64 < cLine) : MtR X "list.index" (lM X.K oIndex) := by
  intro pins s σ H x vs v us Q I rx rv ⟨W, S, d, ds, Q0, ok, r, rs, ho, cv⟩
  obtain ⟨a, xs, ws, rfl, rfl, e1, e2, rvv, h⟩ := mutL_rep ok r ho
  obtain ⟨e, rfl, ⟨l1, l2⟩, c2, c3, k, y, k1, k2, k3, q⟩ := one_ex h
  obtain ⟨w, rfl, rw_⟩ := reps1 rs
  obtain ⟨u, rfl, ru⟩ := rv.one
  cases rx
  obtain ⟨z, its, n, rI, hl, eI⟩ := I.lstM e2
  obtain ⟨bs, r1⟩ := Dp.reads I _ w u (dp_lay ok rw_ l1) ru
  obtain ⟨as, r2⟩ := Dp.readsAll I _ ws its (dps_of ok.vis rvv c2) rI
  have hd := PyData.plain_of_canLay0 _ l1
  have hxs := PyData.plainAll_of_canLay0 _ c2
  have em := SeqAt.readsAll_map_plain _ _ _ hxs r2
  have at_ : ∀ (m : Nat) (t : Value), its[m]? = some t → (toPs xs)[m]? = some (SeqAt.readOf s.heap t) := fun m t ht => by
    rw [← em, List.getElem?_map, ht]; rfl
  obtain ⟨t, ht, et⟩ : ∃ t, its[k]? = some t ∧ SeqAt.readOf s.heap t = y := by
    rw [← em, List.getElem?_map] at k1
    obtain ⟨t, h1, h2⟩ := Option.map_eq_some_iff.mp k1
    exact ⟨t, h1, h2⟩
  have hk := lt_of_some ht
  have hits : its.length = xs.length := by
    have h1 := congrArg List.length em
    have h2 : ∀ xs : List D, (toPs xs).length = xs.length := fun xs => by
      induction xs with
      | nil => rfl
      | cons x r ih => show (toPs r).length + 1 = _; rw [ih]; rfl
    rw [List.length_map, h2] at h1
    exact h1
  have hz := c3
  rw [sizeLine_eq] at hz
  have hEq := SeqAt.items_plain (A := X.A) (vs := its.toArray) (by simpa using r2) r1 hxs hd (by have := Nat.min_le_right (PyData.depthAll (toPs xs)) (toP (resD S e)).depth; omega)
  generalize toP (resD S e) = de at *
  refine call_meets F.slot_list_index ⟨_, eI, rfl⟩ F.entry_list_index (F.args_list_index_2 _ _)
    (SeqAt.list_index2_found a its.toArray n none #[] u (fun j => PyData.eqv (SeqAt.readOf s.heap (its[j]?.getD .none)) de) k (by simpa using hk) (Nat.zero_le _) (by omega) (by rw [ht]; show PyData.eqv (SeqAt.readOf s.heap t) de = true; rw [et]; exact k2) ?_) ⟨eI, fun j hj => ?_, ?_⟩
  · intro m hm _ hlt
    have hm' : m < its.length := by simpa using hm
    rw [List.getElem?_eq_getElem hm']
    exact k3 m _ hlt (at_ m _ (List.getElem?_eq_getElem hm'))
  · have hj' : j < its.length := by simpa using hj
    rw [List.getElem?_eq_getElem hj']
    exact hEq _ (by simp)
  · exact ⟨.int (k : Nat), H, I.tok _, ⟨_, rfl⟩, cv _ S _ W H q Stp.refl ok rfl⟩
/-- a, b = e -/
def wAsgG (t : WPg) (w : WPe) : WPs := fun env S q => w env S (fun d S1 => t d env fun e => q.nx e S1) (xcQ q env)
theorem pds_asgG {X : Cx} {tg e : Expr} {vs : List Nat} {t : WPg} {w : WPe} {pos : Pos} (he : PD X e w) (hg : PDg X tg vs t) (hs : swapsWithSole [tg] e pos.line X.env = pure false := by rfl) (hw : swappedStores [tg] e X.env = pure none := by rfl)
    (h1 : (assignEach [tg] X.env).map (·.2) = [assign tg X.env] := by rfl) : PDs X (.Assign [tg] e pos) (wAsgG t w) :=
  ⟨fun Wx tk => PS.imp (ps_asg (he.run Wx tk) hg.run hs hw h1) fun D σ H ⟨W, env, S, q, ok, sl, hl, hw, cs⟩ => ⟨W, env, S, _, _, ok, sl, hw, fun d S1 v W1 H1 h1 s1 ok1 r1 =>
    ⟨W1, S1, env, d, _, ok1, sl.mono s1.vis, hl, r1, h1, fun e σ' hk sl' hl' _ => cs.nx _ S1 _ W1 H1 hk s1 ok1 sl' hl'⟩, CXc.of cs sl⟩⟩
end DL
set_option Elab.async false
set_option linter.all false
set_option maxRecDepth 100000
set_option maxHeartbeats 4000000
namespace DL
open PySem PySem.Spec PyProof.Rows L2
/-- x < y of data that are alike (lists, tuples, ints) -/
def oLtD : O2 := fun S x y Q => layP S x ∧ layP S y ∧ PySem.W.alike (toP (resD S x)) (toP (resD S y)) = true ∧ toP (resD S x) ≠ .none ∧ Q (.bl (PySem.W.dataLt (toP (resD S x)) (toP (resD S y)))) S
theorem opd_ltD {X : Cx} (hu : X.A.units + 64 < cLine) : OpR X (compareOp .Lt) (lOp X.K oLtD) := fun pins s σ H x y v u Q I rx ry h => by
  obtain ⟨W, S, a, b, Q0, ok, ra, rb, ⟨⟨h1, h2⟩, ⟨h3, h4⟩, h5, h6, ho⟩, cv⟩ := h
  obtain ⟨as, r1⟩ := Dp.reads I _ x v (dp_lay ok ra h1) rx
  obtain ⟨bs, r2⟩ := Dp.reads I _ y u (dp_lay ok rb h3) ry
  exact PySem.W.lt_data r1 r2 h5 h6 (by have := Nat.min_le_left (toP (resD S a)).depth (toP (resD S b)).depth; omega) ⟨.bl (PySem.W.dataLt (toP (resD S a)) (toP (resD S b))), H, I, rfl, cv _ S _ W H ho Stp.refl ok rfl⟩
end DL
set_option Elab.async false
set_option linter.all false
set_option maxRecDepth 100000
set_option maxHeartbeats 1000000
/-! The data layer, part t: defs that are called while an exception is handled; defs that know that no repr is under way. -/
namespace DL
open PySem PySem.Spec PyProof.Rows L2
section
variable {P : Program} {w : World} {K : PySem.W.Frag} {mg : Str → Option Value} {base : Heap} {x qual : Str} {st : Stmt} {f : Addr} {fd : FuncData} {N ps : List Str} {A : Around} {outer : List Env} {s : Shared} {H : Hp} {us : List Value}
/-- what a def tells, by how its body ended -/
def retV : Flow → Value
  | .ret v => v
  | _ => .none
/-- a def is entered: what is left is its body -/
theorem fun_go {CX : CXT} {Q : VK} {E : XK} (F : Fun K x qual st f fd) (S : FnScope N ps (defScope st)) {args : Args} (hdp : A.depth < recursionLimit) (env0 : Env0 P w K mg base A outer s H) (bnd : BindsTo s fd args (ps.zip us))
    (go : ∀ (cdv : Value) (s1 : Shared), InCallC s s.heap.objs.size (bindL (envOfC qual (defScope st) s.heap.objs.size f cdv).kindOf (ps.zip us) fun _ => none) (cellsFrom (s.heap.objs.size + 1) (defScope st).names []) (bindC (envOfC qual (defScope st) s.heap.objs.size f cdv).kindOf (ps.zip us) fun _ => none) s1 →
      wpAny (model P w) (A.deeper (envOfC qual (defScope st) s.heap.objs.size f cdv)) (execs (defBody st) (envOfC qual (defScope st) s.heap.objs.size f cdv)) (fun fl s' => CE outer P w H s Q (retV fl) s')
        (cxOf CX P w K mg base N qual (defScope st) f cdv A outer s H E).xe s1) :
    codeAny (model P w) A (.call (.ref f) args) (CR CX outer P w H s Q E) s := by
  obtain ⟨oc, od, kV, doc, pm, an, cdv, ct, osl, efd, found, code⟩ := F.ex
  subst efd
  have inK : K.In s.heap := env0.mod.kin.keeps (fun b o e => (env0.bs b o e).1)
  refine codeAny_call_function hdp (inK _ _ found) rfl S.co S.gen rfl (PySem.W.codeRec_of inK code) (bnd _ _ _ _ (wpAny_newFunctionEnv_cells S.kind (fun y hy => ?_) fun env eenv s1 entered => ?_))
  · have hy1 := S.par y.1 (List.of_mem_zip (a := y.1) (b := y.2) hy).1
    exact hy1.elim .inl fun c => .inr ⟨c, PySem.W.cellsFrom_some _ _ _ (.inl c)⟩
  · subst eenv
    refine ⟨(env0.mod.nolimit.keeps fun b o e => (env0.bs b o e).1).keeps entered.toInCall.keep, codeAny_func ?_⟩
    exact wpAny_mono (go cdv s1 entered) (fun fl s' h => by cases fl <;> exact h) fun _ _ z => z
theorem cr_ret {Q : VK} {r : Result} {s' : Shared} (h : CR (L2.CX P w) outer P w H s Q (fun _ _ _ => False) r s') : ∃ u, r = .ok (.ret u) ∧ CE outer P w H s Q u s' := by
  match r, h with
  | .ok (.ret u), h => exact ⟨u, rfl, h⟩
  | .ok .next, h => exact h.elim
  | .ok .brk, h => exact h.elim
  | .ok .cont, h => exact h.elim
  | .error e, ⟨_, _, _, _, _, _, _, _, _, _, _, _, z⟩ => exact z.elim
/-- no exception leaves it, and it is told that no repr is under way -/
structure FnG (P : Program) (w : World) (K : PySem.W.Frag) (mg : Str → Option Value) (base : Heap) (k : Nat) (f : Addr) (fd : FuncData) (ps : List Str) (spec : Ctr) : Prop where
  len : ∀ ds S Q E, spec ds S Q E → ds.length = ps.length
  run : ∀ (A : Around) (outer : List Env) (s : Shared) (H : Hp) (args : Args) (us : List Value) (vs : List V) (Q : VK), Room k A → A.guards = some [] → Env0 P w K mg base A outer s H → BindsTo s fd args (ps.zip us) → Vals vs us → lSp K spec vs H Q (fun _ _ _ => False) →
    codeAny (model P w) A (.call (.ref f) args) (fun r s' => ∃ u, r = .ok (.ret u) ∧ CE outer P w H s Q u s') s
/-- the object of a caught exception of an own class -/
def CaughtAs (a dd C : Addr) (oe : Obj) : Prop := Zc (.ref C) (some dd) oe ∧ ∃ vs, oe.data = .fields vs
/-- .. and it is called while the exception at a is handled -/
structure FnT (P : Program) (w : World) (K : PySem.W.Frag) (mg : Str → Option Value) (base : Heap) (k : Nat) (f : Addr) (fd : FuncData) (ps : List Str) (spec : Addr → Addr → Addr → Ctr) : Prop where
  len : ∀ a dd C ds S Q E, spec a dd C ds S Q E → ds.length = ps.length
  run : ∀ (a dd C : Addr) (oe : Obj) (A : Around) (outer : List Env) (s : Shared) (H : Hp) (args : Args) (us : List Value) (vs : List V) (Q : VK), L2H.RoomH k A → A.guards = some [] → A.handled = some (.ref a) → CaughtAs a dd C oe → L2H.PinOk outer H s (a, oe) → Env0 P w K mg base A outer s H → BindsTo s fd args (ps.zip us) → Vals vs us →
    lSp K (spec a dd C) vs H Q (fun _ _ _ => False) → codeAny (model P w) A (.call (.ref f) args) (fun r s' => ∃ u, r = .ok (.ret u) ∧ CE outer P w H s Q u s') s
/-- what a body's end makes of a call -/
theorem end_call {X : Cx} {pins : List (Addr × Obj)} {H0 : Hp} {s0 : Shared} {Q : VK} {fl : Flow} {s' : Shared} (e1 : X.s_0 = s0) (e2 : X.H_0 = H0) (e3 : X.ex = []) (h : SP X pins { nx := fun _ H' => Q .non H', rt := Q } fl s') : CE X.outer X.prog X.w H0 s0 Q (retV fl) s' := by
  have fin : ∀ {σ' : L2.St} {H' : Hp} {v : V} {u : Value}, Inv X pins σ' H' s' → RelV v u → Q v H' → CE X.outer X.prog X.w H0 s0 Q u s' := fun {σ' H' v u} J rv q => by
    have b := J.base
    rw [e3, e2, e1] at b
    have o := J.os
    rw [e1] at o
    exact ⟨v, H', o, J.bare, b, J.hok, rv, q⟩
  match fl, h with
  | .ret u, ⟨v, _, _, J, rv, q⟩ => exact fin J rv q
  | .next, ⟨_, _, J, q⟩ => exact fin (v := .non) J rfl q
  | .brk, ⟨_, _, _, q⟩ => exact q.elim
  | .cont, ⟨_, _, _, q⟩ => exact q.elim
/-- a body's reading begins -/
theorem body_reads {X : Cx} {ws : WPs} {spec : Ctr} {vs : List V} {Q : VK} (hN : X.N = N) (hle : ps.length ≤ N.length) (len : ∀ ds S Q E, spec ds S Q E → ds.length = ps.length) (hr : ∀ ds S Q X1, spec ds S Q X1 → ws (startD N ds) S (endQ Q X1))
    (h : lSp X.K spec vs H Q (fun _ _ _ => False)) : lS X.K (fun _ _ _ _ => False) X.N.length ws { nx := fun _ H' => Q .non H', rt := Q } (L2.start N vs) H := by
  obtain ⟨W, S', ds, Q0, X1, ok, r, h, cv, cx⟩ := h
  refine ⟨W, _, S', _, ok, sl_start r, ?_, hr ds S' Q0 X1 h, ?_, ?_, ?_, ?_, ?_⟩
  · rw [hN]
    unfold L2.start
    rw [List.length_append, List.length_map, List.length_replicate]
    have := r.length
    have := len ds S' Q0 X1 h
    omega
  · exact fun _ S1 σ1 W1 H1 h1 s1 ok1 _ _ => cv .non S1 .non W1 H1 h1 s1 ok1 rfl
  · exact fun d S1 v W1 H1 h1 s1 ok1 r1 => cv d S1 v W1 H1 h1 s1 ok1 r1
  · exact fun _ _ _ _ _ h1 _ _ _ => h1.elim
  · exact fun _ _ _ _ _ h1 _ _ _ => h1.elim
  · exact fun C fs _ S1 dd gs _ W1 H1 h1 s1 ok1 _ e1 r1 => cx C fs S1 dd gs W1 H1 h1 s1 ok1 e1 r1
theorem fnG_mk {k : Nat} {spec : Ctr} {ws : WPs} (F : Fun K x qual st f fd) (S : FnScope N ps (defScope st)) (hle : ps.length ≤ N.length) (len : ∀ ds S Q E, spec ds S Q E → ds.length = ps.length)
    (hd : ∀ (f : Addr) (cdv : Value) (A : Around) (outer : List Env) (s : Shared) (H : Hp) (E : XK), Room k (A.deeper (envOfC qual (defScope st) s.heap.objs.size f cdv)) → A.guards = some [] → PDss (cxOf (L2.CX P w) P w K mg base N qual (defScope st) f cdv A outer s H E) (defBody st) ws)
    (hr : ∀ ds S Q X1, spec ds S Q X1 → ws (startD N ds) S (endQ Q X1)) : FnG P w K mg base (k + 1) f fd ps spec := by
  refine ⟨len, fun A outer s H args us vs Q room gd env0 bnd r hs => codeAny_mono (fun_go (CX := L2.CX P w) (Q := Q) (E := fun _ _ _ => False) (N := N) F S room.depth env0 bnd fun cdv s1 entered => ?_) fun _ _ h => cr_ret h⟩
  have lv : vs.length = ps.length := by
    obtain ⟨W, S', ds, Q0, X1, ok, r, h, _⟩ := hs
    rw [r.length]; exact len ds S' Q0 X1 h
  have hp := (hd f cdv A outer s H (fun _ _ _ => False) (room.deeper _) gd).run (fun _ _ _ _ => False) (takes_of rfl rfl rfl rfl)
  have I : Inv (cxOf (L2.CX P w) P w K mg base N qual (defScope st) f cdv A outer s H (fun _ _ _ => False)) [] (L2.start N vs) H s1 := inv_start S room.hd env0 lv r entered
  exact wpAny_mono (hp.run [] s1 (L2.start N vs) H _ I (body_reads (X := cxOf (L2.CX P w) P w K mg base N qual (defScope st) f cdv A outer s H (fun _ _ _ => False)) rfl hle len hr hs)) (fun fl s' z => end_call (X := cxOf (L2.CX P w) P w K mg base N qual (defScope st) f cdv A outer s H (fun _ _ _ => False)) rfl rfl rfl z) fun _ _ z => z
theorem mark_same {A : Around} {a : Addr} (h : A.handled = some (.ref a)) : A.mark (some (.ref a)) = A := by
  obtain ⟨hd, d, fr, gs, u⟩ := A
  cases h
  rfl
theorem fnT_mk {k : Nat} {spec : Addr → Addr → Addr → Ctr} {ws : Addr → Addr → Addr → WPs} (F : Fun K x qual st f fd) (S : FnScope N ps (defScope st)) (hle : ps.length ≤ N.length) (len : ∀ a dd C ds S Q E, spec a dd C ds S Q E → ds.length = ps.length)
    (hd : ∀ (f : Addr) (cdv : Value) (A : Around) (outer : List Env) (s : Shared) (H : Hp) (E : XK) (a dd C : Addr) (oe : Obj), CaughtAs a dd C oe → L2H.RoomH k (A.deeper (envOfC qual (defScope st) s.heap.objs.size f cdv)) → A.guards = some [] →
      PDss ((cxOf (L2.CX P w) P w K mg base N qual (defScope st) f cdv A outer s H E).suite a [(a, oe)]) (defBody st) (ws a dd C))
    (hr : ∀ a dd C ds S Q X1, spec a dd C ds S Q X1 → ws a dd C (startD N ds) S (endQ Q X1)) : FnT P w K mg base (k + 1) f fd ps spec := by
  refine ⟨len, fun a dd C oe A outer s H args us vs Q room gd hot ca pin env0 bnd r hs => codeAny_mono (fun_go (CX := L2.CX P w) (Q := Q) (E := fun _ _ _ => False) (N := N) F S room.depth env0 bnd fun cdv s1 entered => ?_) fun _ _ h => cr_ret h⟩
  have lv : vs.length = ps.length := by
    obtain ⟨W, S', ds, Q0, X1, ok, r, h, _⟩ := hs
    rw [r.length]; exact len a dd C ds S' Q0 X1 h
  have hp := (hd f cdv A outer s H (fun _ _ _ => False) a dd C oe ca (room.deeper _) gd).run (fun _ _ _ _ => False) takes0
  have I0 : Inv (L2H.cxH (L2.CX P w) P w K mg base N qual (defScope st) f cdv A outer s H (fun _ _ _ => False) (a, oe)) [] (L2.start N vs) H s1 := L2H.inv_startH S pin env0 lv r entered
  have K0 := I0.ok
  have I : Inv ((cxOf (L2.CX P w) P w K mg base N qual (defScope st) f cdv A outer s H (fun _ _ _ => False)).suite a [(a, oe)]) [] (L2.start N vs) H s1 :=
    ⟨⟨K0.mod, K0.kind, K0.glob, K0.blt, K0.above, K0.inj, K0.has, K0.cab, (fun z => absurd z Bool.false_ne_true), K0.frames, K0.stk, K0.exf, K0.bs, K0.bsz, K0.noex, K0.exfs, K0.funs, K0.frf⟩, I0.os, I0.bare, I0.base, I0.loc, I0.cell, I0.free, I0.freeC, I0.pin, I0.hok, I0.len⟩
  have go := hp.run [] s1 (L2.start N vs) H _ I (body_reads (X := (cxOf (L2.CX P w) P w K mg base N qual (defScope st) f cdv A outer s H (fun _ _ _ => False)).suite a [(a, oe)]) rfl hle (len a dd C) (hr a dd C) hs)
  have eA : ((cxOf (L2.CX P w) P w K mg base N qual (defScope st) f cdv A outer s H (fun _ _ _ => False)).suite a [(a, oe)]).A = A.deeper (envOfC qual (defScope st) s.heap.objs.size f cdv) := mark_same hot
  rw [eA] at go
  exact wpAny_mono go (fun fl s' z => end_call (X := (cxOf (L2.CX P w) P w K mg base N qual (defScope st) f cdv A outer s H (fun _ _ _ => False)).suite a [(a, oe)]) rfl rfl rfl z) fun _ _ z => z.elim
end
/-! ### the same by name, and their calls -/
section
variable (P : Program) (w : World) (K : PySem.W.Frag) (mg : Str → Option Value) (base : Heap)
def FnGC (k : Nat) (x : Str) (ps : List Str) (spec : Ctr) : Prop := (∀ ds S Q E E', spec ds S Q E → spec ds S Q E') ∧ ∃ f fd, FnG P w K mg base k f fd ps spec ∧ mg x = some (.ref f) ∧ PySem.W.keepIn K (.ref f) = true ∧ Binds K fd ps []
def FnTC (k : Nat) (x : Str) (ps : List Str) (spec : Addr → Addr → Addr → Ctr) : Prop := (∀ a dd C ds S Q E E', spec a dd C ds S Q E → spec a dd C ds S Q E') ∧ ∃ f fd, FnT P w K mg base k f fd ps spec ∧ mg x = some (.ref f) ∧ PySem.W.keepIn K (.ref f) = true ∧ Binds K fd ps []
end
section
variable {P : Program} {w : World} {K : PySem.W.Frag} {mg : Str → Option Value} {base : Heap} {x qual : Str} {st : Stmt} {N ps : List Str} {k : Nat}
theorem FnGC.mk {spec : Ctr} {ws : WPs} (D : DefAt K mg x qual st ps) (S : FnScope N ps (defScope st)) (hle : ps.length ≤ N.length) (nox : ∀ ds S Q E E', spec ds S Q E → spec ds S Q E') (len : ∀ ds S Q E, spec ds S Q E → ds.length = ps.length)
    (hd : ∀ (f : Addr) (cdv : Value) (A : Around) (outer : List Env) (s : Shared) (H : Hp) (E : XK), Room k (A.deeper (envOfC qual (defScope st) s.heap.objs.size f cdv)) → A.guards = some [] → PDss (cxOf (L2.CX P w) P w K mg base N qual (defScope st) f cdv A outer s H E) (defBody st) ws)
    (hr : ∀ ds S Q X1, spec ds S Q X1 → ws (startD N ds) S (endQ Q X1)) : FnGC P w K mg base (k + 1) x ps spec := by
  obtain ⟨f, fd, F, hm, hb⟩ := D
  exact ⟨nox, f, fd, fnG_mk F S hle len hd hr, hm, F.kp, hb⟩
theorem FnTC.mk {spec : Addr → Addr → Addr → Ctr} {ws : Addr → Addr → Addr → WPs} (D : DefAt K mg x qual st ps) (S : FnScope N ps (defScope st)) (hle : ps.length ≤ N.length) (nox : ∀ a dd C ds S Q E E', spec a dd C ds S Q E → spec a dd C ds S Q E') (len : ∀ a dd C ds S Q E, spec a dd C ds S Q E → ds.length = ps.length)
    (hd : ∀ (f : Addr) (cdv : Value) (A : Around) (outer : List Env) (s : Shared) (H : Hp) (E : XK) (a dd C : Addr) (oe : Obj), CaughtAs a dd C oe → L2H.RoomH k (A.deeper (envOfC qual (defScope st) s.heap.objs.size f cdv)) → A.guards = some [] →
      PDss ((cxOf (L2.CX P w) P w K mg base N qual (defScope st) f cdv A outer s H E).suite a [(a, oe)]) (defBody st) (ws a dd C))
    (hr : ∀ a dd C ds S Q X1, spec a dd C ds S Q X1 → ws a dd C (startD N ds) S (endQ Q X1)) : FnTC P w K mg base (k + 1) x ps spec := by
  obtain ⟨f, fd, F, hm, hb⟩ := D
  exact ⟨nox, f, fd, fnT_mk F S hle len hd hr, hm, F.kp, hb⟩
end
section
variable {X : Cx} {k : Nat} {ps : List Str} {x : Str} {p pos : Pos} {e : Expr} {es : List Expr} {wa : WPa}
/-- a name's call, by the values of its arguments -/
theorem pe_named {f : Addr} {Wx : WX} {spec : Ctr} (hm : X.mg x = some (.ref f)) (hk : PySem.W.keepIn X.K (.ref f) = true) (nox : ∀ ds S Q E E', spec ds S Q E → spec ds S Q E')
    (run : ∀ (pins : List (Addr × Obj)) (σ : L2.St) (H : Hp) (s : Shared) (Q : VK) (us : List Value) (vs : List V), Inv X pins σ H s → Vals vs us → lSp X.K spec vs H Q (fun _ _ _ => False) → wpAny (model X.prog X.w) X.A (call (.ref f) us) (EP X pins σ Q) X.xe s)
    (ha : PA X (e :: es) (lA X.K Wx wa)) (hg : Gl X x) (hdb : (x == ("__debug__" : Str)) = false) (he : starEach (e :: es) X.env = (false, eval e X.env) :: starEach es X.env) (hpl : (backTo pos (starEach es X.env)).any (·.1) = false) :
    PE X (.Call (.Name x p) (e :: es) [] pos) (lE X.K Wx (wCall spec wa)) := by
  refine ⟨fun pins s σ H Q I ⟨W, env, S, Q0, X1, ok, sl, hw, cv, cx⟩ => wpAny_Call_Name_kw (ld_glob I hg hm ?_ hdb)⟩
  have h1 : lA X.K Wx wa σ H fun vs H1 => lSp X.K spec vs H1 Q (fun _ _ _ => False) := ⟨W, env, S, _, X1, ok, sl, hw, fun ds S1 vs W1 H1 h1 s1 ok1 r1 => ⟨W1, S1, ds, Q0, _, ok1, r1, nox _ _ _ _ _ h1, cv.mono s1, CXc.no⟩, cx⟩
  exact PySem.W.callWith_K (h₀ := X.base) I.ok.mod.kin hk (thn (ha.run pos pins s σ H _ I h1) fun us s1 ⟨vs, H1, I1, r1, q1⟩ => ⟨I1.kIn, run pins σ H1 s1 Q us vs I1 r1 q1⟩) he hpl
theorem binds_at {fd : FuncData} {pins : List (Addr × Obj)} {σ : L2.St} {H : Hp} {s : Shared} {us : List Value} {vs : List V} (hb : Binds X.K fd ps []) (I : Inv X pins σ H s) (r : Vals vs us) (hl : vs.length = ps.length) : BindsTo s fd ⟨us, []⟩ (ps.zip us) := by
  have hl2 : (us ++ []).length = ps.length := by rw [List.append_nil, ← r.length]; exact hl
  have := hb s us I.kIn hl2
  rw [List.append_nil] at this
  exact this
theorem lsp_len {spec : Ctr} {K : PySem.W.Frag} {vs : List V} {H : Hp} {Q : VK} {E : XK} (len : ∀ ds S Q E, spec ds S Q E → ds.length = ps.length) (h : lSp K spec vs H Q E) : vs.length = ps.length := by
  obtain ⟨W, S', ds, Q0, X1, ok, r, h, _⟩ := h
  rw [r.length]; exact len ds S' Q0 X1 h
theorem pd_fnG {spec : Ctr} (G : FnGC X.prog X.w X.K X.mg X.base k x ps spec) (hr : Room k X.A) (hgd : X.A.guards = some []) (ha : PDa X (e :: es) wa) (hg : Gl X x := by rfl) (hdb : (x == ("__debug__" : Str)) = false := by decide)
    (he : starEach (e :: es) X.env = (false, eval e X.env) :: starEach es X.env := by rfl) (hpl : (backTo pos (starEach es X.env)).any (·.1) = false := by rfl) : PD X (.Call (.Name x p) (e :: es) [] pos) (wCall spec wa) := by
  obtain ⟨nox, f, fd, F, hm, hk, hb⟩ := G
  refine ⟨fun Wx tk => pe_named hm hk nox (fun pins σ H s Q us vs I r h => ?_) (ha.run Wx tk) hg hdb he hpl⟩
  refine wpAny_call (codeAny_mono (F.run X.A X.stack s H ⟨us, []⟩ us vs Q hr hgd I.env0 (binds_at hb I r (lsp_len F.len h)) r h) fun r s' ⟨u, eu, hq⟩ => ?_)
  subst eu
  exact I.after hq
variable {a dd C : Addr} {oe : Obj} {pn : List (Addr × Obj)}
theorem pd_fnT {spec : Addr → Addr → Addr → Ctr} (G : FnTC X.prog X.w X.K X.mg X.base k x ps spec) (hr : L2H.RoomH k X.A) (hgd : X.A.guards = some []) (ca : CaughtAs a dd C oe) (ha : PDa (X.suite a ((a, oe) :: pn)) (e :: es) wa) (hg : Gl (X.suite a ((a, oe) :: pn)) x := by rfl) (hdb : (x == ("__debug__" : Str)) = false := by decide)
    (he : starEach (e :: es) X.env = (false, eval e X.env) :: starEach es X.env := by rfl) (hpl : (backTo pos (starEach es X.env)).any (·.1) = false := by rfl) : PD (X.suite a ((a, oe) :: pn)) (.Call (.Name x p) (e :: es) [] pos) (wCall (spec a dd C) wa) := by
  obtain ⟨nox, f, fd, F, hm, hk, hb⟩ := G
  refine ⟨fun Wx tk => pe_named (X := X.suite a ((a, oe) :: pn)) hm hk (nox a dd C) (fun pins σ H s Q us vs I r h => ?_) (ha.run Wx tk) hg hdb he hpl⟩
  have pp := I.pin (a, oe) (List.mem_append_left _ List.mem_cons_self)
  have pin : L2H.PinOk X.stack H s (a, oe) := ⟨pp.1, pp.2.1, fun z => by
    rcases List.mem_cons.mp (I.stkSub a z) with z | z
    · exact pp.2.2.1 z
    · exact pp.2.2.2.1 z, pp.2.2.2.2⟩
  refine wpAny_call (codeAny_mono (F.run a dd C oe (X.suite a ((a, oe) :: pn)).A X.stack s H ⟨us, []⟩ us vs Q ⟨hr.dp, hr.un⟩ hgd rfl ca pin I.env0 (binds_at (X := X.suite a ((a, oe) :: pn)) hb I r (lsp_len (F.len a dd C) h)) r h) fun r s' ⟨u, eu, hq⟩ => ?_)
  subst eu
  exact I.after hq
end
theorem _root_.L2H.RoomH.units {k : Nat} {A : Around} (r : L2H.RoomH k A) : A.units + 64 < cLine := by have := r.un; omega
/-! ### repr(d), abs(i) -/
def oRepr : OC := fun S ds Q => one ds fun d => layP S d ∧ (toP (resD S d)).showable = true ∧ (toP (resD S d)).shown.length ≤ sizeLine ∧ Q (.str (toP (resD S d)).shown) S
theorem cd_repr {X : Cx} (hg : X.A.guards = some []) (hu : X.A.units + 64 < cLine) : CallR X (.builtin "repr") (lC X.K oRepr) := fun pins s σ H xs us Q I rv h => by
  obtain ⟨W, S, ds, Q0, ok, r, ho, cv⟩ := h
  obtain ⟨d, rfl, ⟨h1, h2⟩, h3, h4, ho⟩ := one_ex ho
  obtain ⟨v, rfl, rvd⟩ := reps1 r
  obtain ⟨u, rfl, ru⟩ := vals1 rv
  obtain ⟨as, r1⟩ := Dp.reads I _ v u (dp_lay ok rvd h1) ru
  have nd := PyData.hasDict_of_canLay _ h1
  have fin : ∀ (h' : Heap) (tk : Nat) (t : Tok), (∀ b o, s.heap.get? b = some o → h'.get? b = some o) → EP X pins σ Q (.str (toP (resD S d)).shown t) { s with heap := h', toks := tk } := fun h' tk t hk =>
    ⟨.str _, H, I.kept (t' := tk) hk, ⟨_, rfl⟩, cv (.str _) S _ W H ho Stp.refl ok rfl⟩
  generalize toP (resD S d) = p at *
  have same : ∀ (tk : Nat) (t : Tok), EP X pins σ Q (.str p.shown t) { s with toks := tk } := fun tk t => fin s.heap tk t fun _ _ z => z
  have r2 := r1
  have hd8 : p.depth ≤ 8 := h2
  have big : ∀ a : Addr, u = .ref a → wpAny (model X.prog X.w) X.A (call (.builtin "repr") [u]) (EP X pins σ Q) X.xe s := fun a e => by
    subst e
    exact repr_of_reads' r2 h3 (fun z => by rw [nd] at z; cases z) hg (by omega) (fun _ _ z => z) (fun h' t tk hk => fin h' tk t hk) h4
  cases r1 with
  | none => exact PySem.P.repr_of_none (same _ _)
  | bool => exact PySem.P.repr_of_bool (same _ _)
  | int => exact PySem.P.repr_of_int (of_decide_eq_true h3) (same _ _)
  | str => exact PySem.P.repr_of_str (same _ _) h4
  | _ => exact big _ rfl
def oAbs : OC := fun S ds Q => one ds fun d => match d with
  | .int i => Q (.int (if i < 0 then -i else i)) S
  | _ => False
theorem cd_abs {X : Cx} : CallR X (.builtin "abs") (lC X.K oAbs) := CallR.imp call_abs fun vs H Q ⟨W, S, ds, Q0, ok, r, ho, cv⟩ => by
  obtain ⟨d, rfl, ho⟩ := one_ex ho
  obtain ⟨v, rfl, rv⟩ := reps1 r
  cases d with
  | int i => exact ⟨i, by rw [show v = V.int i from rv], cv _ S _ W H ho Stp.refl ok rfl⟩
  | _ => exact ho.elim
/-! ### x[k] op= e, x a list that changes -/
def wAugI (o : O2) (wo wi we : WPe) : WPs := fun env S q => wo env S (fun x S1 => wi env S1 (fun i S2 => mutL S2 x fun _ xs => match i with
  | .int k => 0 ≤ k ∧ some! (atI xs k) fun d => we env S2 (fun y S3 => o S3 d y fun z S4 => setIx S4 x i z fun S5 => q.nx env S5) (xcQ q env)
  | _ => False) (xcQ q env)) (xcQ q env)
section
variable {X : Cx} {o i e : Expr} {pos tpos : Pos} {wo wi we : WPe}
theorem get_at : PGet X (fun x y H Q => ∃ p xs k v, x = .ref p ∧ y = .int k ∧ 0 ≤ k ∧ SqL X.K H p xs ∧ atI xs k = some v ∧ Q v H) := by
  rintro pins s σ H x y xv yv Q I rx ry ⟨p, xs, k, z, rfl, rfl, k0, hs, hat, q⟩
  cases rx
  obtain ⟨t, rfl⟩ := ry
  obtain ⟨its, rs, pl, hz⟩ := I.list hs
  obtain ⟨j, j1, j2, j3, j4, j5⟩ := atI_get hat
  obtain ⟨u, eu, ru⟩ := rs.get j2
  have hl := rs.length
  have hj : k.toNat = j := by
    rw [seqIndex_of k0 j5] at j1
    exact Option.some.inj j1
  have hb := line63
  exact PySem.wpAny_getItem_list pl.isList k0 (by omega) (by rw [hj]; simpa using eu) ⟨z, H, I, ru, q⟩
theorem pds_augI {op : Operator} {ob : O2} (ho : PD X o wo) (hi : PD X i wi) (he : PD X e we) (hop : OpR X (inplaceOp op) (lOp X.K ob)) (ha : ∀ ov iv new, augStore i ov iv new = (do holding [new, ov, iv] (setItem ov iv new); release [new, ov, iv] []; pure .next) := by intros; rfl) :
    PDs X (.AugAssign (.Subscript o i tpos) op e pos) (wAugI ob wo wi we) :=
  ⟨fun Wx tk => PS.imp (ps_augS (ho.run Wx tk) (hi.run Wx tk) get_at (he.run Wx tk) (fun pins s σ H x y v u Q I rx ry q => hop pins s σ H x y v u Q I rx ry q) set_list ha) fun D σ H ⟨W, env, S, q, ok, sl, hl, hw, cs⟩ =>
    ⟨W, env, S, _, _, ok, sl, hw, fun x S1 v W1 H1 h1 s1 ok1 r1 => ⟨W1, env, S1, _, _, ok1, sl.mono s1.vis, h1, fun iy S2 u W2 H2 h2 s2 ok2 r2 => by
      obtain ⟨a, xs, us, rfl, rfl, e1, e2, rv, h2⟩ := mutL_rep ok2 (r1.mono s2.vis) h2
      cases iy with
      | int k =>
        obtain ⟨k0, h2⟩ := h2
        obtain ⟨d, hd, h2⟩ := some!_ex h2
        obtain ⟨w, hw2, rw2⟩ := reps_at rv hd
        have s12 := s1.trans s2
        refine ⟨a, us, k, w, rfl, r2, k0, ?_, hw2, W2, env, S2, _, _, ok2, sl.mono s12.vis, h2, fun y S3 t W3 H3 h3 s3 ok3 r3 => ?_, CXc.of (cs.mono s12) (sl.mono s12.vis)⟩
        · exact SqL.of e2
        refine ⟨W3, S3, d, y, _, ok3, rw2.mono s3.vis, r3, h3, fun z S4 t2 W4 H4 h4 s4 ok4 r4 => ?_⟩
        have s34 := s3.trans s4
        obtain ⟨a', xs', n, j, S5, ea, ej, e5, e6, st5, ok5, h5⟩ := setIx_rep ok4 (r1.mono (s2.trans s34).vis) (r2.mono s34.vis) r4 h4
        exact ⟨a', xs', j, n, ea, ej, e5, e6, cs.nx _ S5 _ W4 _ h5 (s12.trans (s34.trans st5)) ok5 (sl.mono (s12.trans s34).vis) hl⟩
      | _ => exact h2.elim, CXc.of (cs.mono s1) (sl.mono s1.vis)⟩, CXc.of cs sl⟩⟩
end
/-! ### the end: a law that knows that no repr is under way -/
section
variable {P : Program} {w : World} {K : PySem.W.Frag} {mg mb : Str → Option Value} {k : Nat} {fa a : Addr} {fd : FuncData} {x : Str} {spec : Ctr} {s1 : Shared} {vs : List Value} {ns : List Int}
/-- the script, as it stands -/
abbrev scrO (vs : List Value) : Obj := { cls := .type "list", data := .seq vs.toArray }
theorem law_from {H : Hp} (inK : K.In s1.heap) (nsG : s1.heap.Ns mainGlobals mg) (nsB : s1.heap.Ns builtinsNs mb) (boot : ∀ x : Str, x ≠ "__name__" → mb x = bootBuiltins x) (lim : s1.heap.NoLimit) (noG : s1.gens = #[])
    (scr : s1.heap.get? a = some (scrO vs)) (room : Room k callerA)
    (F : ∀ base : Heap, K.In base → base.Ns mainGlobals mg → FnG P w K mg base k fa fd [x] spec) (bind : ∀ (s : Shared) (u : Value), BindsTo s fd ⟨[u], []⟩ [(x, u)])
    (hH : ∀ b, H b = none ∨ (b = a ∧ K.lookup a = none ∧ H b = some (.frz (scrO vs) (.lst (ns.map V.int))))) (ok : HOk P w H s1.heap) (hs : lSp K spec [.ref a] H (fun v _ => v = .bl true) fun _ _ _ => False) :
    codeAny (model P w) callerA (.call (.ref fa) ⟨[.ref a], []⟩) (fun r s' => r = .ok (.ret (.bool true)) ∧ OldK s1.heap s'.heap ∧ s'.os = s1.os ∧ AllBare s'.gens) s1 := by
  have dicts : ∀ {b : Addr} {m : Str → Option Value}, s1.heap.Ns b m → (hidT s1.heap H).Ns b m := by
    rintro b m ⟨o, es, ep, ho, hd, r⟩
    refine ⟨o, es, ep, hidT_get ho ?_, hd, r⟩
    rcases hH b with z | ⟨z, _, _⟩
    · exact z
    · rw [z, scr] at ho
      cases ho
      cases hd
  have inK2 : K.In (hidT s1.heap H) := fun b o e => hidT_get (inK b o e) (by
    rcases hH b with z | ⟨z, z2, _⟩
    · exact z
    · rw [z, z2] at e; cases e)
  have M : Mod K mg (hidT s1.heap H) := ⟨inK2, dicts nsG, ⟨mb, dicts nsB, boot⟩, by
    obtain ⟨mc, h1, h2⟩ := lim
    exact ⟨mc, dicts h1, h2⟩⟩
  have E0 : Env0 P w K mg (hidT s1.heap H) callerA [] s1 H := ⟨rfl, M, fun _ _ e => of_hidT e, Nat.le_of_eq (hidT_size _ _), trivial, (fun b hb => by cases hb), ok, .of_eq noG⟩
  refine codeAny_mono ((F _ inK2 (dicts nsG)).run callerA [] s1 H ⟨[.ref a], []⟩ [.ref a] [.ref a] _ room rfl E0 (bind s1 (.ref a)) (.cons rfl .nil) hs) ?_
  rintro r s' ⟨u, rfl, v, H', os, bare, un, ok', rv, q⟩
  have q : v = .bl true := q
  subst q
  have eu : u = Value.bool true := rv
  subst eu
  refine ⟨rfl, OldK.of_keep fun b o e => ?_, os, bare⟩
  rcases hH b with z | ⟨_, _, z⟩
  · exact un.keep b o e z (fun z => by cases z) (fun z => by cases z)
  · have e1 := (ok b _ z).1
    have e2 := (ok' b _ (un.frzs b _ _ z)).1
    rw [e] at e1
    cases e1
    exact e2
theorem law_goes (inK : K.In s1.heap) (nsG : s1.heap.Ns mainGlobals mg) (nsB : s1.heap.Ns builtinsNs mb) (boot : ∀ x : Str, x ≠ "__name__" → mb x = bootBuiltins x) (lim : s1.heap.NoLimit) (noG : s1.gens = #[])
    (scr : s1.heap.get? a = some (scrO vs)) (numb : IntsAre vs ns) (fits : ns.length ≤ sizeLine) (room : Room k callerA)
    (F : ∀ base : Heap, K.In base → base.Ns mainGlobals mg → FnG P w K mg base k fa fd [x] spec) (bind : ∀ (s : Shared) (u : Value), BindsTo s fd ⟨[u], []⟩ [(x, u)])
    (hs : ∀ H : Hp, SqL K H a (ns.map V.int) → lSp K spec [.ref a] H (fun v _ => v = .bl true) fun _ _ _ => False) :
    codeAny (model P w) callerA (.call (.ref fa) ⟨[.ref a], []⟩) (fun r s' => r = .ok (.ret (.bool true)) ∧ OldK s1.heap s'.heap ∧ s'.os = s1.os ∧ AllBare s'.gens) s1 := by
  have rv := vals_ints numb
  cases own : K.lookup a with
  | some o =>
    have e := inK a o own
    rw [scr] at e
    cases e
    exact law_from (H := fun _ => none) (ns := ns) inK nsG nsB boot lim noG scr room F bind (fun b => .inl rfl) (fun b u z => nomatch z) (hs _ (.inr ⟨_, vs.toArray, _, own, rfl, rfl, rfl, by rw [List.size_toArray, numb.length]; exact fits, by simpa using rv⟩))
  | none =>
    have at_ : (fun b => if b = a then some (HO.frz (scrO vs) (.lst (ns.map V.int))) else none : Hp) a = some (.frz (scrO vs) (.lst (ns.map V.int))) := if_pos rfl
    refine law_from (H := fun b => if b = a then some (HO.frz (scrO vs) (.lst (ns.map V.int))) else none) (ns := ns) inK nsG nsB boot lim noG scr room F bind (fun b => ?_) (fun b u z => ?_) (hs _ (.inl (.inr ⟨_, at_⟩)))
    · by_cases e : b = a
      · exact .inr ⟨e, own, if_pos e⟩
      · exact .inl (if_neg e)
    · by_cases e : b = a
      · have z := (if_pos e).symm.trans z
        cases z
        subst e
        exact ⟨scr, by rw [List.length_map]; exact fits, vs, _, rv, scr⟩
      · have z := (if_neg e).symm.trans z
        cases z
theorem walk_G {l : PySem.W.OpenLaw} {n k : Nat} {q : Program} {loose : List Str} {XP : (Str → Option Value) → Heap → Prop} {YP : World → Heap → Prop} {d : DefRec} {K : Params → PySem.W.Frag} {spec : Ctr} {x : Str}
    (hn : l.most = some n) (hn2 : n ≤ sizeLine) (hdf : d.params.defaults = []) (hr : Room k callerA) (hY : ∀ (w : World) (h : Heap), YP w h → (K w.params).In h)
    (F : ∀ (w : World) (mg : Str → Option Value) (fa : Addr) (h : Heap), (K w.params).In h → h.Ns mainGlobals mg → mg d.name = some (.ref fa) →
      ∃ fd : FuncData, (∀ (s : Shared) (u : Value), BindsTo s fd ⟨[u], []⟩ [(x, u)]) ∧ ∀ base : Heap, (K w.params).In base → base.Ns mainGlobals mg → FnG l.prog w (K w.params) mg base k fa fd [x] spec)
    (hsp : ∀ (w : World) (H : Hp) (a : Addr) (ns : List Int), ns.length ≤ n → SqL (K w.params) H a (ns.map V.int) → lSp (K w.params) spec [.ref a] H (fun v _ => v = .bl true) fun _ _ _ => False) :
    PySem.W.WalkO q loose XP YP l.row.toRowW d [] (fun f vs => PySem.call f vs) := by
  refine Att.attach_call hn hdf fun w s0 s1 mg mb fa o pm cd doc a vs ns G Y ho hd hcd hmg hobj hints hlen hg => ?_
  obtain ⟨fd, hb, hF⟩ := F w mg fa _ (hY w _ Y) G.T.g hmg
  exact law_goes (hY w _ Y) G.T.g G.T.b G.T.builtins G.T.nolimit hg hobj hints (Nat.le_trans hlen hn2) hr hF hb fun H hS => hsp w H a ns hlen hS
end
end DL
set_option Elab.async false
set_option linter.all false
set_option maxRecDepth 100000
set_option maxHeartbeats 1000000
/-! The data layer, part u: sum and max of a tuple. -/
namespace DL
open PySem PySem.Spec PyProof.Rows L2
section
variable {X : Cx}
theorem cr_sumT (hc : X.calm = true) : CallR X (.builtin "sum") (fun vs H Q => ∃ (a : Addr) (ns : List Int), vs = [V.ref a] ∧ SqT X.K H a (ns.map V.int) ∧ Q (.int ns.sum) H) := by
  rintro pins s σ H vs us Q I r ⟨a, ns, rfl, hs, q⟩
  obtain ⟨its, rv, pl, _⟩ := I.tuple hs
  rw [Vals.ref1 r]
  have hi := rv.ints
  obtain ⟨xs, e⟩ := hi.allInts.items
  have hn : numsOf (intItems xs).toList = ns := by rw [← e]; exact hi.numsOf
  rw [nums_intItems] at hn
  rw [e] at pl
  refine PySem.W.ktm_sumG (I.ok.hd hc) pl fun h' tk t' hk => ?_
  rw [preSum_eq, List.take_of_length_le (by simp), hn]
  exact ⟨.int _, H, I.kept (t' := tk) hk, ⟨_, rfl⟩, q⟩
theorem dpAll_numbers {K : PySem.W.Frag} {H : Hp} : ∀ ns : List Int, DpAll K H (ns.map V.int) (ns.map PyData.int)
  | [] => .nil
  | n :: r => .cons (.int n) (dpAll_numbers r)
theorem depth_numbers : ∀ ns : List Int, PyData.depthAll (ns.map PyData.int) = 0
  | [] => rfl
  | n :: r => by
    show max (PyData.int n).depth (PyData.depthAll (r.map PyData.int)) = 0
    rw [depth_numbers r]; rfl
theorem alike_numbers (ns : List Int) : PySem.W.AlikeAll (ns.map PyData.int) := by
  refine ⟨fun x hx y hy => ?_, fun x hx => ?_⟩
  · obtain ⟨a, _, rfl⟩ := List.mem_map.mp hx
    obtain ⟨b, _, rfl⟩ := List.mem_map.mp hy
    rfl
  · obtain ⟨a, _, rfl⟩ := List.mem_map.mp hx
    exact fun z => nomatch z
theorem cr_maxT (hc : X.calm = true) (hu : X.A.units + 64 < cLine) : CallR X (.builtin "max") (fun vs H Q => ∃ (a : Addr) (n : Int) (ns : List Int), vs = [V.ref a] ∧ SqT X.K H a ((n :: ns).map V.int) ∧ Q (.int (ns.foldl max n)) H) := by
  rintro pins s σ H vs us Q I r ⟨a, n, ns, rfl, hs, q⟩
  obtain ⟨its, rv, pl, _⟩ := I.tuple hs
  rw [Vals.ref1 r]
  obtain ⟨as, ra⟩ := Dp.readsAll I _ _ _ (dpAll_numbers (n :: ns)) rv
  refine PySem.W.max_tuple_data (x := .int n) (xs := ns.map PyData.int) (I.ok.hd hc) pl ra (alike_numbers (n :: ns)) (by rw [← List.map_cons, depth_numbers]; omega) fun i v h' tk bs hi rr hk => ?_
  rw [PySem.W.maxD_ints] at rr
  cases rr with
  | int _ t => exact ⟨.int _, H, I.kept (t' := tk) hk, ⟨t, rfl⟩, q⟩
/-- sum and max of a list or a tuple of ints -/
def oSumA : OC := fun S ds Q => one ds fun d => some! (seqA S d) fun xs => some! (toInts xs) fun bs => Q (.int bs.sum) S
def oMaxA : OC := fun S ds Q => one ds fun d => some! (seqA S d) fun xs => some! (toInts xs) fun bs => 0 < bs.length ∧ ∀ m, m ∈ bs → (∀ y, y ∈ bs → y ≤ m) → Q (.int m) S
theorem rowI {K : PySem.W.Frag} {W : Hp} {S : Sto} {H : Hp} {d : D} {v : V} {k : List Int → Prop} (ok : Ok K W S H) (r : Rep K W d v) (h : some! (seqA S d) fun xs => some! (toInts xs) k) : ∃ a ns, v = .ref a ∧ (SqL K H a (ns.map V.int) ∨ SqT K H a (ns.map V.int)) ∧ k ns := by
  obtain ⟨xs, e1, h⟩ := some!_ex h
  obtain ⟨bs, e2, h⟩ := some!_ex h
  obtain ⟨p, vs, rfl, hq, r1⟩ := seqA_rep ok r e1
  rw [toInts_rep e2 r1] at hq
  exact ⟨p, bs, rfl, hq, h⟩
theorem cd_sumA (hc : X.calm = true) : CallR X (.builtin "sum") (lC X.K oSumA) := CallR.imp ((cr_sum hc).or (cr_sumT hc)) fun vs H Q ⟨W, S, ds, Q0, ok, r, ho, cv⟩ => by
  obtain ⟨d, rfl, ho⟩ := one_ex ho
  obtain ⟨v, rfl, rv⟩ := reps1 r
  obtain ⟨a, bs, rfl, h1, h2⟩ := rowI ok rv ho
  rcases h1 with h1 | h1
  · exact .inl ⟨a, bs, rfl, h1, cv _ S _ W H h2 Stp.refl ok rfl⟩
  · exact .inr ⟨a, bs, rfl, h1, cv _ S _ W H h2 Stp.refl ok rfl⟩
theorem fold_max : ∀ (ns : List Int) (n : Int), ns.foldl max n ∈ n :: ns ∧ ∀ y, y ∈ n :: ns → y ≤ ns.foldl max n
  | [], n => ⟨List.mem_cons_self, fun y hy => by rw [List.mem_singleton.mp hy]; exact Int.le_refl _⟩
  | m :: r, n => by
    obtain ⟨h1, h2⟩ := fold_max r (max n m)
    have hb := h2 (max n m) List.mem_cons_self
    refine ⟨?_, fun y hy => ?_⟩
    · show r.foldl max (max n m) ∈ _
      rcases List.mem_cons.mp h1 with h | h
      · rw [h]
        by_cases z : n ≤ m
        · rw [Int.max_eq_right z]; exact List.mem_cons_of_mem _ List.mem_cons_self
        · rw [Int.max_eq_left (by omega)]; exact List.mem_cons_self
      · exact List.mem_cons_of_mem _ (List.mem_cons_of_mem _ h)
    · show y ≤ r.foldl max (max n m)
      rcases List.mem_cons.mp hy with rfl | hy
      · omega
      · rcases List.mem_cons.mp hy with rfl | hy
        · omega
        · exact h2 y (List.mem_cons_of_mem _ hy)
theorem cd_maxA (hc : X.calm = true) (hu : X.A.units + 64 < cLine) : CallR X (.builtin "max") (lC X.K oMaxA) := CallR.imp ((cr_max hc).or (cr_maxT hc hu)) fun vs H Q ⟨W, S, ds, Q0, ok, r, ho, cv⟩ => by
  obtain ⟨d, rfl, ho⟩ := one_ex ho
  obtain ⟨v, rfl, rv⟩ := reps1 r
  obtain ⟨a, bs, rfl, h1, h2, h3⟩ := rowI ok rv ho
  rcases h1 with h1 | h1
  · exact .inl ⟨a, bs, rfl, h1, h2, fun m q1 q2 => cv _ S _ W H (h3 m q1 q2) Stp.refl ok rfl⟩
  · cases bs with
    | nil => cases h2
    | cons n ns =>
      obtain ⟨m1, m2⟩ := fold_max ns n
      exact .inr ⟨a, n, ns, rfl, h1, cv _ S _ W H (h3 _ m1 m2) Stp.refl ok rfl⟩
end
end DL
set_option Elab.async false
set_option linter.all false
set_option maxRecDepth 100000
set_option maxHeartbeats 2000000
/-! The data layer, part v: zip of lists and tuples in any mix. -/
namespace DL
open PySem PySem.Spec PyProof.Rows L2
/-- a tuple, or a list -/
def SqK (t : Bool) (K : PySem.W.Frag) (H : Hp) (a : Addr) (xs : List V) : Prop := match t with
  | true => SqT K H a xs
  | false => SqL K H a xs
def IterK (t : Bool) (h : Heap) (it a : Addr) (i : Nat) : Prop := match t with
  | true => h.IsTupleIter it a i
  | false => h.IsListIter it a i
def SeqK (t : Bool) (h : Heap) (a : Addr) (its : Array Value) : Prop := match t with
  | true => h.IsTuple a its
  | false => h.IsList a its
theorem IterK.obj {t : Bool} {h : Heap} {it a : Addr} {i : Nat} (s : IterK t h it a i) : ∃ o, h.get? it = some o ∧ ∀ v, o.data ≠ .cell v := by
  cases t with
  | true => obtain ⟨o, e, _, d⟩ := s; exact ⟨o, e, fun v q => by rw [d] at q; cases q⟩
  | false => obtain ⟨o, e, _, d⟩ := s; exact ⟨o, e, fun v q => by rw [d] at q; cases q⟩
theorem IterK.at {t : Bool} {h h' : Heap} {it a : Addr} {i : Nat} (s : IterK t h it a i) (k : ∀ o, h.get? it = some o → h'.get? it = some o) : IterK t h' it a i := by
  cases t with
  | true => exact Heap.IsTupleIter.at s k
  | false => exact Heap.IsListIter.at s k
theorem SeqK.lt {t : Bool} {h : Heap} {a : Addr} {its : Array Value} (s : SeqK t h a its) : a < h.objs.size := by
  cases t with
  | true => obtain ⟨o, e, _⟩ := s; exact Heap.lt_size e
  | false => obtain ⟨o, e, _⟩ := s; exact Heap.lt_size e
theorem drawsK {t : Bool} {prog : Program} {w : World} {A : Around} (hh : A.handled = none) (it a : Addr) (hne : a ≠ it) (its : Array Value) :
    Draws prog w A it [it, a] its.size (fun i v => its[i]? = some v) (fun i h => IterK t h it a i ∧ SeqK t h a its) := by
  cases t with
  | true => exact Draws.tuple hh it a hne its
  | false => exact Draws.list hh it a hne its
theorem sqK_at {X : Cx} {pins : List (Addr × Obj)} {σ : L2.St} {H : Hp} {s : Shared} {t : Bool} {a : Addr} {xs : List V} (I : L2.Inv X pins σ H s) (h : SqK t X.K H a xs) : ∃ its : List Value, Vals xs its ∧ SeqK t s.heap a its.toArray := by
  cases t with
  | true => obtain ⟨its, rv, p, _⟩ := I.tuple h; exact ⟨its, rv, p⟩
  | false => obtain ⟨its, rv, p, _⟩ := I.list h; exact ⟨its, rv, p.isList⟩
theorem sqK_inj {X : Cx} {pins : List (Addr × Obj)} {σ : L2.St} {H : Hp} {s : Shared} {t : Bool} {a : Addr} {xs ys : List V} (I : L2.Inv X pins σ H s) (h : SqK t X.K H a xs) (h2 : SqK t X.K H a ys) : xs = ys := by
  cases t with
  | true => exact I.tuple_inj h h2
  | false => exact I.list_inj h h2
def beginK (t : Bool) (a : Addr) : Obj := match t with
  | true => { cls := .type "tuple_iterator", data := .fields #[.ref a, .int 0 0] }
  | false => { cls := .type "list_iterator", data := .fields #[.ref a, .int 0 0] }
theorem beginsK {t : Bool} (a : Addr) (its : Array Value) : PySem.Begins (.ref a) (beginK t a) fun h => SeqK t h a its := by
  cases t with
  | true => exact begins_tuple a its
  | false => exact begins_list a its
theorem iterK_0 {t : Bool} {h : Heap} {it a : Addr} (e : h.get? it = some (beginK t a)) : IterK t h it a 0 := by
  cases t with
  | true => exact ⟨_, e, rfl, rfl⟩
  | false => exact ⟨_, e, rfl, rfl⟩
/-- the two as they stand at each turn, the items in new pairs -/
def ItzK (t u : Bool) (K : PySem.W.Frag) (a b : Addr) : It :=
  ⟨fun i H => ∃ (xs ys : List V) (x y : V), SqK t K H a xs ∧ SqK u K H b ys ∧ xs[i]? = some x ∧ ys[i]? = some y,
    fun i H v H' => ∃ T x y, v = .ref T ∧ H T = none ∧ H' = upd H T (.tup [x, y]) ∧ (∀ xs, SqK t K H a xs → xs[i]? = some x) ∧ ∀ ys, SqK u K H b ys → ys[i]? = some y,
    fun i H => ∃ xs ys : List V, SqK t K H a xs ∧ SqK u K H b ys ∧ i ≤ xs.length ∧ i ≤ ys.length ∧ (i = xs.length ∨ i = ys.length)⟩
theorem turn_zipK {t u : Bool} {P : Program} {w : World} {K : PySem.W.Frag} {elts : List Expr} {kk : Nat} {tpos : Pos} {a b z TI TO i1 i2 : Addr} (D : ZipSep2 z TI TO i1 i2 [i1, a] [i2, b]) (n1 : a ≠ i1) (n2 : b ≠ i2) :
    Turn P w K (.Tuple elts kk tpos) (ItzK t u K a b) [z, TI, TO, i1, i2] z (fun i h => IsZip h z TI TO .none ∧ IsTupOf2 h TI (.ref i1) (.ref i2) ∧ (∃ x y, IsTupOf2 h TO x y) ∧ IterK t h i1 a i ∧ IterK u h i2 b i) where
  mem := by simp
  obj := fun i h st c hc => by
    obtain ⟨hz, hTI, ⟨x, y, hTO⟩, h1, h2⟩ := st
    have e' : c = z ∨ c = TI ∨ c = TO ∨ c = i1 ∨ c = i2 := by simpa using hc
    rcases e' with q | q | q | q | q
    · rw [q]; exact ⟨_, hz, fun v q => nomatch q⟩
    · rw [q]; exact ⟨_, hTI, fun v q => nomatch q⟩
    · rw [q]; exact ⟨_, hTO, fun v q => nomatch q⟩
    · rw [q]; exact h1.obj
    · rw [q]; exact h2.obj
  keep := fun i h h' st k => by
    obtain ⟨hz, hTI, ⟨x, y, hTO⟩, h1, h2⟩ := st
    exact ⟨k z (by simp) _ hz, k TI (by simp) _ hTI, ⟨x, y, k TO (by simp) _ hTO⟩, h1.at fun o q => k i1 (by simp) o q, h2.at fun o q => k i2 (by simp) o q⟩
  item := by
    intro X hP hw hK hc i pins s σ H E I hf st hg
    subst hP hw hK
    obtain ⟨hz, hTI, ⟨x0, y0, hTO⟩, h1, h2⟩ := st
    obtain ⟨xs, ys, x, y, hqx, hqy, hx, hy⟩ := hg
    obtain ⟨its, rv, p⟩ := sqK_at I hqx
    obtain ⟨its2, rv2, p2⟩ := sqK_at I hqy
    obtain ⟨v1, hv1, ru⟩ := rv.get hx
    obtain ⟨v2, hv2, ru2⟩ := rv2.get hy
    have hzl : z < s.heap.objs.size := Heap.lt_size hz
    have hh : X.A.in1.handled = Option.none := I.ok.hd hc
    have hlt1 : i < its.toArray.size := by have := lt_of_some hv1; simpa using this
    have hlt2 : i < its2.toArray.size := by have := lt_of_some hv2; simpa using this
    refine wpAny_pyNext_zipD2_item D (drawsK hh i1 a n1 its.toArray) (drawsK hh i2 b n2 its2.toArray) hz hTI hTO ⟨h1, p⟩ ⟨h2, p2⟩ hlt1 hlt2 fun x1 x2 h' tk q1 q2 z' TO' s1 s2 hT hsz hk => ?_
    have e1 : x1 = v1 := by
      have : its[i]? = some x1 := by simpa using q1
      rw [hv1] at this; exact (Option.some.inj this).symm
    have e2 : x2 = v2 := by
      have : its2[i]? = some x2 := by simpa using q2
      rw [hv2] at this; exact (Option.some.inj this).symm
    subst e1 e2
    refine ⟨_, rfl, wpAny_letOwnedTupleGo_zip (s := { s with heap := h', toks := tk }) z' fun h'' z'' sb => ?_⟩
    have hT2 : h''.get? s.heap.objs.size = some { cls := .type "tuple", data := .seq #[x1, x2] } := (sb.2 _ (Nat.ne_of_gt hzl)).trans hT
    have new : ObjOk X.prog X.w (upd H s.heap.objs.size (.tup [x, y])) h'' s.heap.objs.size (.tup [x, y]) :=
      ⟨by show 2 ≤ sizeLine; decide, [x1, x2], .cons ru (.cons ru2 .nil), ⟨_, hT2, rfl, _, rfl⟩⟩
    have I1 : L2.Inv X pins σ (upd H s.heap.objs.size (.tup [x, y])) { s with heap := h'', toks := tk } :=
      I.turnedNew (t' := tk) (ch := [z, TI, TO, i1, i2]) (fun c o hb q => (sb.2 c (fun q' => hb (by simp [q']))).trans (hk c o (fun q' => hb (by simp [q'])) (fun q' => hb (by simp [q'])) (fun q' => hb (by simp [q'])) (fun q' => hb (by simp [q'])) q)) hf (Nat.le_refl _) new
    refine ⟨.ref s.heap.objs.size, _, I1, rfl, ⟨_, x, y, rfl, I.hok.fresh (Nat.le_refl _), rfl, fun l hl => by rw [sqK_inj I hl hqx]; exact hx, fun l hl => by rw [sqK_inj I hl hqy]; exact hy⟩, ⟨z'', ?_, ⟨x1, x2, ?_⟩, ?_, ?_⟩, fun c hcm => ?_⟩
    · exact (sb.2 _ D.TIz).trans (hk _ _ D.TIz D.TITO D.TIi1 D.TIi2 hTI)
    · exact (sb.2 _ D.TOz).trans TO'
    · exact s1.1.at fun o q => (sb.2 _ (Ne.symm D.zi1)).trans q
    · exact s2.1.at fun o q => (sb.2 _ (Ne.symm D.zi2)).trans q
    · have hlt : c < s.heap.objs.size := by
        have e' : c = z ∨ c = TI ∨ c = TO ∨ c = i1 ∨ c = i2 := by simpa using hcm
        rcases e' with q | q | q | q | q
        · rw [q]; exact hzl
        · rw [q]; exact Heap.lt_size hTI
        · rw [q]; exact Heap.lt_size hTO
        · rw [q]; obtain ⟨_, e1, _⟩ := h1.obj; exact Heap.lt_size e1
        · rw [q]; obtain ⟨_, e1, _⟩ := h2.obj; exact Heap.lt_size e1
      rw [upd_ne (Nat.ne_of_lt hlt)]
      exact (hf c hcm).1
  done := by
    intro X hP hw hK hc i pins s σ H E I hf st hg
    subst hP hw hK
    obtain ⟨hz, hTI, ⟨x0, y0, hTO⟩, h1, h2⟩ := st
    obtain ⟨xs, ys, hqx, hqy, l1, l2, hend⟩ := hg
    obtain ⟨its, rv, p⟩ := sqK_at I hqx
    obtain ⟨its2, rv2, p2⟩ := sqK_at I hqy
    have l3 := rv.length
    have l4 := rv2.length
    have hh : X.A.in1.handled = Option.none := I.ok.hd hc
    exact wpAny_pyNext_zipD2_end D (drawsK hh i1 a n1 its.toArray) (drawsK hh i2 b n2 its2.toArray) hz hTI hTO ⟨h1, p⟩ ⟨h2, p2⟩ (by simp; omega) (by simp; omega) (by simp; omega) fun h' tk hk =>
      ⟨rfl, I.turnedL (t' := tk) (ch := [z, TI, TO, i1, i2]) (fun c o hb q => hk c o (fun q' => hb (by simp [q'])) (fun q' => hb (by simp [q'])) (fun q' => hb (by simp [q'])) (fun q' => hb (by simp [q'])) q) hf⟩
  self := fun A i s Q E st h => wpAny_pyIter_zip st.1 h
def iZipK (K : PySem.W.Frag) (ta : TA) : TI := fun σ H R => ta σ H fun vs H1 => ∃ (a b : Addr) (t u : Bool), vs = [.ref a, .ref b] ∧ (∃ xs, SqK t K H1 a xs) ∧ (∃ ys, SqK u K H1 b ys) ∧ R (ItzK t u K a b) H1
theorem pi_zipK {X : Cx} {e e2 : Expr} {ta : TA} {p pos tpos : Pos} {elts : List Expr} {kk : Nat} (hg : Gl X "zip") (hm : X.mg "zip" = none) (ha : PA X [e, e2] ta)
    (hs : starEach [e, e2] X.env = (false, eval e X.env) :: starEach [e2] X.env := by rfl) (hpl : (backTo pos (starEach [e2] X.env)).any (·.1) = false := by rfl) :
    PI X (.Tuple elts kk tpos) (.Call (.Name "zip" p) [e, e2] [] pos) (iZipK X.K ta) := by
  refine ⟨fun pins s σ H R I h => ?_⟩
  refine Call_ (ld_blt I hg hm PyProof.Rows.boot_zip (PyProof.Rows.callWith_type1 (thn (ha.run pos pins s σ H _ I h) fun us s1 ⟨vs, H1, I1, r1, q1⟩ => ?_) hs hpl))
  obtain ⟨a, b, t, u, ex, ⟨xs, hqx⟩, ⟨ys, hqy⟩, q⟩ := q1
  subst ex
  cases r1 with
  | cons r rr =>
    cases rr with
    | cons r' rr =>
      cases rr
      cases r
      cases r'
      have fresh5 : ∀ c, c ∈ [s1.heap.objs.size + 4, s1.heap.objs.size + 2, s1.heap.objs.size + 3, s1.heap.objs.size, s1.heap.objs.size + 1] → FpOk X pins H1 c := fun c hcm => by
        have e' : c = s1.heap.objs.size + 4 ∨ c = s1.heap.objs.size + 2 ∨ c = s1.heap.objs.size + 3 ∨ c = s1.heap.objs.size ∨ c = s1.heap.objs.size + 1 := by simpa using hcm
        have hle : s1.heap.objs.size ≤ c := by omega
        exact I1.fpOk hle (I1.hok.fresh hle)
      obtain ⟨its, rv, p1⟩ := sqK_at I1 hqx
      obtain ⟨its2, rv2, p2⟩ := sqK_at I1 hqy
      refine zip_begins2 (beginsK a its.toArray) (beginsK b its2.toArray) p1 p2 fun h' hz hTI hTO h1 h2 hsz hk => wpAny_pyIter_zip hz ?_
      have I2 : L2.Inv X pins σ H1 { s1 with heap := h' } := I1.kept (t' := s1.toks) hk
      have la := p1.lt
      have lb := p2.lt
      exact ⟨s1.heap.objs.size + 4, [s1.heap.objs.size + 4, s1.heap.objs.size + 2, s1.heap.objs.size + 3, s1.heap.objs.size, s1.heap.objs.size + 1], _, _, H1, rfl, I2,
        turn_zipK (PySem.zip_sep2 (fp1 := [a]) (fp2 := [b]) (fun c hc => by rw [List.mem_singleton] at hc; subst hc; exact la) (fun c hc => by rw [List.mem_singleton] at hc; subst hc; exact lb)) (Nat.ne_of_lt la) (Nat.ne_of_lt (Nat.lt_succ_of_lt lb)), ⟨hz, hTI, ⟨_, _, hTO⟩, iterK_0 h1, iterK_0 h2⟩, fresh5, q⟩
/-- pairs, as many as the shorter has -/
def zipD (xs ys : List D) : List D := (xs.zip ys).map fun p => .tup [p.1, p.2]
theorem zipD_get {xs ys : List D} {i : Nat} {d : D} (h : (zipD xs ys)[i]? = some d) : ∃ x y, xs[i]? = some x ∧ ys[i]? = some y ∧ d = .tup [x, y] := by
  unfold zipD at h
  rw [List.getElem?_map] at h
  obtain ⟨p, hp, rfl⟩ := Option.map_eq_some_iff.mp h
  obtain ⟨h1, h2⟩ := List.getElem?_zip_eq_some.mp hp
  exact ⟨p.1, p.2, h1, h2, rfl⟩
theorem zipD_length {xs ys : List D} : (zipD xs ys).length = min xs.length ys.length := by
  unfold zipD
  rw [List.length_map, List.length_zip]
def wZip (wa wb : WPe) : WPi := fun env S Q X => wa env S (fun d S1 => wb env S1 (fun e S2 => some! (seqA S2 d) fun xs => some! (seqA S2 e) fun ys => Q (zipD xs ys) (fun S' => seqA S' d = some xs ∧ seqA S' e = some ys) S2) X) X
section
variable {K : PySem.W.Frag}
/-- what stands at an address, again and again -/
theorem seqK_rep {W0 : Hp} {S0 : Sto} {H0 : Hp} {d : D} {v : V} {xs : List D} (ok : Ok K W0 S0 H0) (r : Rep K W0 d v) (h : seqA S0 d = some xs) : ∃ (a : Addr) (t : Bool), v = .ref a ∧ ∀ W S H, Same W0 W → Ok K W S H → seqA S d = some xs → ∃ vs, SqK t K H a vs ∧ Reps K W xs vs := by
  obtain ⟨a, vs, rfl, _, _⟩ := seqA_rep ok r h
  have li : (∀ {S}, seqA S d = seqL S d) → ∀ W S H, Same W0 W → Ok K W S H → seqA S d = some xs → ∃ vs, SqK false K H a vs ∧ Reps K W xs vs := fun hA W S H s1 ok1 g => by
    rw [hA] at g
    obtain ⟨c, zs, e7, e8, e9⟩ := seqL_rep ok1 (r.mono s1) g
    cases e7
    exact ⟨zs, e8, e9⟩
  cases d with
  | tup ys =>
    cases h
    obtain ⟨b, ws, e1, e2, e3⟩ := r
    cases e1
    exact ⟨_, true, rfl, fun W S H s1 ok1 _ => ⟨ws, sqT_mono (s1.trans ok1.vis) e2, e3.mono s1⟩⟩
  | lst ys => exact ⟨_, false, rfl, li rfl⟩
  | fro ys => exact ⟨_, false, rfl, li rfl⟩
  | ref b => exact ⟨_, false, rfl, li rfl⟩
  | _ => cases h
end
theorem pdi_zip {X : Cx} {e e2 : Expr} {wa wb : WPe} {p pos tpos : Pos} {elts : List Expr} {kk : Nat} (hm : X.mg "zip" = none) (ha : PD X e wa) (hb : PD X e2 wb) (hg : Gl X "zip" := by rfl)
    (hs : starEach [e, e2] X.env = (false, eval e X.env) :: starEach [e2] X.env := by rfl) (hs2 : starEach [e2] X.env = (false, eval e2 X.env) :: starEach [] X.env := by rfl) (hpl : (backTo pos (starEach [e2] X.env)).any (·.1) = false := by rfl) :
    PDi X (.Tuple elts kk tpos) (.Call (.Name "zip" p) [e, e2] [] pos) (wZip wa wb) :=
  ⟨fun Wx tk => PI.imp (pi_zipK hg hm (pa_cons (ha.run Wx tk) (pa_cons (hb.run Wx tk) pa_nil hs2) hs) hs hpl) fun σ H R ⟨W, env, S, Q0, X1, ok, sl, hw, cv, cx⟩ => ⟨W, env, S, _, X1, ok, sl, hw, fun d S1 v W1 H1 h1 s1 ok1 r1 =>
    ⟨W1, env, S1, _, X1, ok1, sl.mono s1.vis, h1, fun d2 S2 v2 W2 H2 h2 s2 ok2 r2 => by
    obtain ⟨xs, e1, h2⟩ := some!_ex h2
    obtain ⟨ys, e3, h2⟩ := some!_ex h2
    have r1' := r1.mono s2.vis
    obtain ⟨a, t, rfl, ka⟩ := seqK_rep ok2 r1' e1
    obtain ⟨b, u, rfl, kb⟩ := seqK_rep ok2 r2 e3
    obtain ⟨vs, q1, _⟩ := ka W2 S2 H2 (Same.refl W2) ok2 e1
    obtain ⟨ws, q2, _⟩ := kb W2 S2 H2 (Same.refl W2) ok2 e3
    refine ⟨a, b, t, u, rfl, ⟨vs, q1⟩, ⟨ws, q2⟩, cv _ _ S2 W2 H2 _ h2 (s1.trans s2) ok2 ⟨fun i W S H d' hd s3 ok3 ⟨g1, g2⟩ => ?_, fun W S H s3 ok3 ⟨g1, g2⟩ => ?_⟩⟩
    · obtain ⟨x, y, hx, hy, rfl⟩ := zipD_get hd
      obtain ⟨vs3, q3, rv3⟩ := ka W S H s3 ok3 g1
      obtain ⟨ws3, q4, rw3⟩ := kb W S H s3 ok3 g2
      obtain ⟨v1, hv1, ru1⟩ := rv3.get hx
      obtain ⟨v2, hv2, ru2⟩ := rw3.get hy
      refine ⟨⟨vs3, ws3, v1, v2, q3, q4, hv1, hv2⟩, fun x' H' ⟨T, y1, y2, e4, e5, e6, e7, e8⟩ => ?_⟩
      subst e4 e6
      have e9 := e7 vs3 q3
      rw [hv1] at e9
      cases e9
      have e10 := e8 ws3 q4
      rw [hv2] at e10
      cases e10
      have n := ok3.fresh e5
      exact ⟨_, ok3.stW e5, ok3.newW e5, T, _, rfl, SqT.of upd_same, _, _, rfl, ru1.mono (same_new n.1), _, _, rfl, ru2.mono (same_new n.1), rfl⟩
    · obtain ⟨vs3, q3, rv3⟩ := ka W S H s3 ok3 g1
      obtain ⟨ws3, q4, rw3⟩ := kb W S H s3 ok3 g2
      have l1 := rv3.length
      have l2 := rw3.length
      rw [zipD_length]
      exact ⟨vs3, ws3, q3, q4, by omega, by omega, by omega⟩, cx.mono s1⟩, cx⟩⟩
end DL
set_option Elab.async false
set_option linter.all false
set_option maxRecDepth 100000
set_option maxHeartbeats 2000000
/-! The data layer, part w: classes called by keyword, keyword-only parameters with defaults, constant tuples. -/
namespace DL
open PySem PySem.Spec PyProof.Rows L2
section
variable {X : Cx} {C : Addr} {k n m : Nat} {f : Addr} {fd : FuncData} {ps ks : List Str} {perm : List Nat} {spec : Ctr} {x : Str} {p pos : Pos} {e : Expr} {es : List Expr} {kws : List Keyword} {wa wk : WPa}
theorem run_makeKS {CX : CXT} {sp : Sp} {E : L2.St → XK} {g : List Value → List Value → List Value} {gV : List V → List V → List V} {pins : List (Addr × Obj)} {σ : L2.St} {H : Hp} {s : Shared} {Q : VK} {us ws : List Value} {vs zs : List V} (M : Mk X.K C f) (F : FnOk X.prog X.w X.K X.mg X.base CX k f fd ps sp) (hr : Room (k + 1) X.A)
    (hb : KBinds X.K fd ps ks g gV) (hx : PassesAt CX X σ (E σ)) (I : L2.Inv X pins σ H s) (r : Vals vs us) (rz : Vals zs ws)
    (h : ∀ x dx, H x = none → H dx = none → dx ≠ x → sp (gV (.ref x :: vs) zs) (upd (upd H dx (.own x)) x (.ins C dx [])) (fun v H2 => v = .non ∧ Q (.ref x) H2) (E σ)) :
    wpAny (model X.prog X.w) X.A (call (.ref C) us (ks.zip ws)) (EP X pins σ Q) X.xe s := by
  have hq := h (s.heap.objs.size + 1) s.heap.objs.size (I.hok.fresh (Nat.le_succ _)) (I.hok.fresh (Nat.le_refl _)) (Nat.ne_of_lt (Nat.lt_succ_self _))
  have I2 := Inv.made (C := C) I
  have r1 : Vals (V.ref (s.heap.objs.size + 1) :: vs) (Value.ref (s.heap.objs.size + 1) :: us) := .cons rfl r
  have r2 := hb.rel r1 rz
  have hl : (g (Value.ref (s.heap.objs.size + 1) :: us) ws).length = ps.length := by rw [← r2.length]; exact F.len _ _ _ _ hq
  refine wpAny_call (make_map (f := f) I.kIn M.makes M.init (beq_iff_eq.mp M.fn) (codeAny_mono (F.run _ X.stack _ _ ⟨Value.ref (s.heap.objs.size + 1) :: us, ks.zip ws⟩ (g (Value.ref (s.heap.objs.size + 1) :: us) ws) _ _ (E σ) (hr.make C us (ks.zip ws))
    (I2.env0.make C us (ks.zip ws)) (hb.to _ (Value.ref (s.heap.objs.size + 1) :: us) ws I2.kIn hl) r2 hq) fun r s' hq' => ?_))
  cases r with
  | error e => exact hx pins _ _ e s' I2 hq'
  | ok fl =>
    cases fl with
    | ret u =>
      obtain ⟨v, H', I3, rv, ev, q3⟩ := I2.after hq'
      subst ev
      exact ⟨rv, ⟨V.ref (s.heap.objs.size + 1), H', I3, rfl, q3⟩⟩
    | next => exact False.elim hq'
    | brk => exact False.elim hq'
    | cont => exact False.elim hq'
/-- C(e, .., k = v, ..): n positional values (the new instance among them), m by name -/
def wMakeK (C : Addr) (N : List Str) (spec : Ctr) (n m : Nat) (perm : List Nat) (wa wk : WPa) : WPe := fun env S Q X => wa env S (fun ds S1 => wk env S1 (fun es S2 => ∀ x, S2 x = none → spec (pickK n m perm (.ref x :: ds) es) (put S2 x (.ins C N (noneV N))) (fun r S3 => r = .non ∧ Q (.ref x) S3) X) X) X
theorem pd_makeK {N : List Str} (M : Mk X.K C f) (hN : N.Nodup) (hl : N.length ≤ 900) (F : FnD X.prog X.w X.K X.mg X.base k f fd ps spec) (hr : Room (k + 1) X.A) (hm : X.mg x = some (.ref C)) (hb : KBinds X.K fd ps ks (fun us ws => pickK n m perm us ws) (fun us ws => pickK n m perm us ws))
    (ha : PDa X (e :: es) wa) (hkw : PDk X kws wk) (hg : Gl X x := by rfl) (hdb : (x == ("__debug__" : Str)) = false := by decide) (hall : (backToKw pos (keywordEach kws X.env)).all (·.1.isSome) = true := by rfl) (hks : (backToKw pos (keywordEach kws X.env)).filterMap (·.1) = ks := by rfl)
    (he : starEach (e :: es) X.env = (false, eval e X.env) :: starEach es X.env := by rfl)
    (hpl : ((backTo pos (starEach (e :: es) X.env)).any (·.1) || (backToKw pos (keywordEach kws X.env)).any (·.1.isNone)) = false := by rfl) : PD X (.Call (.Name x p) (e :: es) kws pos) (wMakeK C N spec n m perm wa wk) := by
  refine ⟨fun Wx tk => ⟨fun pins s σ H Q I h => ?_⟩⟩
  obtain ⟨W, env, S, Q0, X1, ok, sl, hw, cv, cx⟩ := h
  refine wpAny_Call_Name_kw (ld_glob I hg hm ?_ hdb)
  have h1 : lA X.K Wx wa σ H fun vs H1 => lA X.K Wx wk σ H1 fun zs H2 => ∀ y dy, H2 y = none → H2 dy = none → dy ≠ y →
      lSp X.K spec (pickK n m perm (.ref y :: vs) zs) (upd (upd H2 dy (.own y)) y (.ins C dy [])) (fun v H3 => v = .non ∧ Q (.ref y) H3) fun c d H' => Wx c d σ H' := ⟨W, env, S, _, X1, ok, sl, hw, fun ds S1 vs W1 H1 h1 s1 ok1 r1 =>
    ⟨W1, env, S1, _, X1, ok1, sl.mono s1.vis, h1, fun es S2 zs W2 H2 h2 s2 ok2 r2 y dy hy hdy hne => by
      have hy2 : (upd H2 dy (HO.own y)) y = none := by rw [upd_ne (Ne.symm hne)]; exact hy
      have ok3 := (ok2.junk (o := .own y) hdy).newS (m := .ins C N (noneV N)) (o := .ins C dy []) hy2 ⟨dy, [], rfl, frep_new hN hl⟩
      have st := (ok2.stJ (o := .own y) hdy).trans (Ok.stS (m := .ins C N (noneV N)) (o := .ins C dy []) (ok2.junk (o := .own y) hdy) hy2)
      exact ⟨W2, _, pickK n m perm (.ref y :: ds) es, _, X1, ok3, reps_pickK (ds := .ref y :: ds) (vs := .ref y :: vs) ⟨_, _, rfl, rfl, r1.mono s2.vis⟩ r2, h2 y (ok2.fresh hy).2, fun d S3 v W3 H3 ⟨hd, h3⟩ s3 ok4 r4 => by
        subst hd
        exact ⟨r4, cv _ S3 _ W3 H3 h3 (s1.trans (s2.trans (st.trans s3))) ok4 rfl⟩, cx.mono (s1.trans (s2.trans st))⟩, cx.mono s1⟩, cx⟩
  refine PySem.W.callWith_KW (h₀ := X.base) I.ok.mod.kin M.kp hall (thn ((ha.run Wx tk).run pos pins s σ H _ I h1) fun us s1 ⟨vs, H1, I1, r, q⟩ => ?_) hpl he
  refine thn ((hkw.run Wx tk).run pos pins s1 σ H1 _ I1 q) fun ws s2 ⟨zs, H2, I2, rz, q2⟩ => ⟨I2.kIn, ?_⟩
  rw [hks]
  exact run_makeKS M F hr hb (passAt tk σ) I2 r rz q2
end
def MkAtK (K : PySem.W.Frag) (C : Addr) (qual : Str) (st : Stmt) (ps ks : List Str) (n m : Nat) (perm : List Nat) : Prop := ∃ f fd, Fun K "__init__" qual st f fd ∧ Mk K C f ∧ KBinds K fd ps ks (fun us ws => pickK n m perm us ws) (fun us ws => pickK n m perm us ws)
def MkCK (P : Program) (w : World) (K : PySem.W.Frag) (mg : Str → Option Value) (base : Heap) (C : Addr) (k : Nat) (ps ks : List Str) (n m : Nat) (perm : List Nat) (spec : Ctr) : Prop :=
  ∃ f fd, FnD P w K mg base k f fd ps spec ∧ Mk K C f ∧ KBinds K fd ps ks (fun us ws => pickK n m perm us ws) (fun us ws => pickK n m perm us ws)
theorem MkCK.mk {P : Program} {w : World} {K : PySem.W.Frag} {mg : Str → Option Value} {base : Heap} {C : Addr} {qual : Str} {st : Stmt} {N ps ks : List Str} {k n m : Nat} {perm : List Nat} {spec : Ctr} {ws : WPs} (D : MkAtK K C qual st ps ks n m perm) (S : FnScope N ps (defScope st)) (hle : ps.length ≤ N.length)
    (len : ∀ ds S Q E, spec ds S Q E → ds.length = ps.length)
    (hd : ∀ (f : Addr) (cdv : Value) (A : Around) (outer : List Env) (s : Shared) (H : Hp) (E : XK), Room k (A.deeper (envOfC qual (defScope st) s.heap.objs.size f cdv)) → PDss (cxOf (L2.CX P w) P w K mg base N qual (defScope st) f cdv A outer s H E) (defBody st) ws)
    (hr : ∀ ds S Q X1, spec ds S Q X1 → ws (startD N ds) S (endQ Q X1)) : MkCK P w K mg base C (k + 1) ps ks n m perm spec := by
  obtain ⟨f, fd, F, hm, hb⟩ := D
  exact ⟨f, fd, fnd_mk F S hle len hd hr, hm, hb⟩
section
variable {X : Cx} {x : Str} {p pos : Pos} {e : Expr} {es : List Expr} {kws : List Keyword} {wa wk : WPa} {k n m : Nat} {perm : List Nat} {ps ks : List Str} {spec : Ctr} {C : Addr}
theorem pd_mkK {N : List Str} (G : MkCK X.prog X.w X.K X.mg X.base C k ps ks n m perm spec) (hm : X.mg x = some (.ref C)) (hN : N.Nodup) (hl : N.length ≤ 900) (hr : Room (k + 1) X.A) (ha : PDa X (e :: es) wa) (hkw : PDk X kws wk)
    (hg : Gl X x := by rfl) (hdb : (x == ("__debug__" : Str)) = false := by decide) (hall : (backToKw pos (keywordEach kws X.env)).all (·.1.isSome) = true := by rfl) (hks : (backToKw pos (keywordEach kws X.env)).filterMap (·.1) = ks := by rfl)
    (he : starEach (e :: es) X.env = (false, eval e X.env) :: starEach es X.env := by rfl)
    (hpl : ((backTo pos (starEach (e :: es) X.env)).any (·.1) || (backToKw pos (keywordEach kws X.env)).any (·.1.isNone)) = false := by rfl) : PD X (.Call (.Name x p) (e :: es) kws pos) (wMakeK C N spec n m perm wa wk) := by
  obtain ⟨f, fd, F, M, hb⟩ := G
  exact pd_makeK M hN hl F hr hm hb ha hkw hg hdb hall hks he hpl
end
/-! ### defaults that fill up -/
def DefAtD (K : PySem.W.Frag) (mg : Str → Option Value) (x qual : Str) (st : Stmt) (ps : List Str) (dfl : List D) : Prop := ∃ f fd, Fun K x qual st f fd ∧ mg x = some (.ref f) ∧ ∃ dvs us, Reps K (fun _ => none) dfl dvs ∧ Vals dvs us ∧ Binds K fd ps us
def FnCD (P : Program) (w : World) (K : PySem.W.Frag) (mg : Str → Option Value) (base : Heap) (k : Nat) (x : Str) (ps : List Str) (dfl : List D) (spec : Ctr) : Prop :=
  ∃ f fd, FnD P w K mg base k f fd ps spec ∧ mg x = some (.ref f) ∧ PySem.W.keepIn K (.ref f) = true ∧ ∃ dvs us, Reps K (fun _ => none) dfl dvs ∧ Vals dvs us ∧ Binds K fd ps us
theorem FnCD.mk {P : Program} {w : World} {K : PySem.W.Frag} {mg : Str → Option Value} {base : Heap} {x qual : Str} {st : Stmt} {N ps : List Str} {k : Nat} {dfl : List D} {spec : Ctr} {ws : WPs} (D : DefAtD K mg x qual st ps dfl) (S : FnScope N ps (defScope st)) (hle : ps.length ≤ N.length)
    (len : ∀ ds S Q E, spec ds S Q E → ds.length = ps.length)
    (hd : ∀ (f : Addr) (cdv : Value) (A : Around) (outer : List Env) (s : Shared) (H : Hp) (E : XK), Room k (A.deeper (envOfC qual (defScope st) s.heap.objs.size f cdv)) → PDss (cxOf (L2.CX P w) P w K mg base N qual (defScope st) f cdv A outer s H E) (defBody st) ws)
    (hr : ∀ ds S Q X1, spec ds S Q X1 → ws (startD N ds) S (endQ Q X1)) : FnCD P w K mg base (k + 1) x ps dfl spec := by
  obtain ⟨f, fd, F, hm, hb⟩ := D
  exact ⟨f, fd, fnd_mk F S hle len hd hr, hm, F.kp, hb⟩
/-- f(e, ..), the rest filled up -/
def wCallD (spec : Ctr) (dfl : List D) (wa : WPa) : WPe := fun env S Q X => wa env S (fun ds S1 => spec (ds ++ dfl) S1 Q X) X
theorem same_no {H : Hp} : Same (fun _ => none) H := fun _ _ z => by cases z
theorem run_fnDS {X : Cx} {k : Nat} {f : Addr} {fd : FuncData} {ps : List Str} {CX : CXT} {sp : Sp} {E : L2.St → XK} {pins : List (Addr × Obj)} {σ : L2.St} {H : Hp} {s : Shared} {Q : VK} {us ds : List Value} {vs dvs : List V}
    (F : FnOk X.prog X.w X.K X.mg X.base CX k f fd ps sp) (hr : Room k X.A) (hb : Binds X.K fd ps ds) (hd : Vals dvs ds) (hx : PassesAt CX X σ (E σ)) (I : L2.Inv X pins σ H s) (r1 : Vals vs us) (h : sp (vs ++ dvs) H Q (E σ)) :
    wpAny (model X.prog X.w) X.A (call (.ref f) us) (EP X pins σ Q) X.xe s := by
  have rr := r1.append hd
  have hl : (us ++ ds).length = ps.length := by rw [← rr.length]; exact F.len _ _ _ _ h
  refine wpAny_call (codeAny_mono (F.run X.A X.stack s H ⟨us, []⟩ (us ++ ds) (vs ++ dvs) Q (E σ) hr I.env0 (hb s us I.kIn hl) rr h) fun r s' hq => ?_)
  cases r with
  | error e => exact hx pins H s e s' I hq
  | ok fl =>
    cases fl with
    | ret u => exact I.after hq
    | next => exact hq.elim
    | brk => exact hq.elim
    | cont => exact hq.elim
theorem pd_fnD {X : Cx} {x : Str} {p pos : Pos} {e : Expr} {es : List Expr} {wa : WPa} {k : Nat} {ps : List Str} {dfl : List D} {spec : Ctr} (G : FnCD X.prog X.w X.K X.mg X.base k x ps dfl spec) (hr : Room k X.A) (ha : PDa X (e :: es) wa) (hg : Gl X x := by rfl) (hdb : (x == ("__debug__" : Str)) = false := by decide)
    (he : starEach (e :: es) X.env = (false, eval e X.env) :: starEach es X.env := by rfl) (hpl : (backTo pos (starEach es X.env)).any (·.1) = false := by rfl) : PD X (.Call (.Name x p) (e :: es) [] pos) (wCallD spec dfl wa) := by
  obtain ⟨f, fd, F, hm, hk, dvs, us0, rd, vd, hb⟩ := G
  refine ⟨fun Wx tk => ⟨fun pins s σ H Q I h => ?_⟩⟩
  obtain ⟨W, env, S, Q0, X1, ok, sl, hw, cv, cx⟩ := h
  refine wpAny_Call_Name_kw (ld_glob I hg hm ?_ hdb)
  have h1 : lA X.K Wx wa σ H fun vs H1 => lSp X.K spec (vs ++ dvs) H1 Q fun c d H' => Wx c d σ H' := ⟨W, env, S, _, X1, ok, sl, hw, fun ds S1 vs W1 H1 h1 s1 ok1 r1 =>
    ⟨W1, S1, ds ++ dfl, Q0, X1, ok1, r1.append (rd.mono same_no), h1, cv.mono s1, cx.mono s1⟩, cx⟩
  refine PySem.W.callWith_K (h₀ := X.base) I.ok.mod.kin hk (thn ((ha.run Wx tk).run pos pins s σ H _ I h1) fun us s1 ⟨vs, H1, I1, r, q⟩ => ⟨I1.kIn, ?_⟩) he hpl
  exact run_fnDS F hr hb vd (passAt tk σ) I1 r q
/-! ### a product with one small factor -/
abbrev oMulS : O2 := oI CMul fun i j => .int (i * j)
theorem opd_mulS {X : Cx} : OpR X (binaryOp .Mult) (lOp X.K oMulS) := opI_of op_mul fun _ _ _ => rfl
/-- a def with keyword-only defaults, no others, called without them -/
theorem binds0_mk {K : PySem.W.Frag} {x qual : Str} {st : Stmt} {f KD : Addr} {ps : List Str} {kws : List (Str × V)} {oc : Value} {od an : Option Addr} {osl : Array (Option Value)} {doc pm cdv ct : Value}
    (l : K.lookup f = some ⟨oc, od, .func (PySem.W.fnOf x qual (defArgs st) (defBody st) (defScope st) .none (.ref KD) doc pm an cdv ct), osl⟩) (c : PySem.W.codeIn K cdv qual = true) (k : PySem.W.keepIn K (.ref f) = true) (n : Nat) (hk : kws ≠ []) (hn : n + kws.length = ps.length)
    (hq : ∀ q ∈ kws, ∃ u, PySem.W.nsIn K KD q.1 = some (some u) ∧ RelV q.2 u)
    (h : ∀ (D : Addr) (doc pm : Value) (an : Option Addr) (cdv ct : Value) (us ks : List Value), us.length = n → ks.length = kws.length →
      KwChain D ((kws.map (·.1)).zip ks) (bindArgs (PySem.W.fnOf x qual (defArgs st) (defBody st) (defScope st) .none (.ref D) doc pm an cdv ct) ⟨us, []⟩) (ps.zip (us ++ ks))) :
    ∃ us, Vals (kws.map (·.2)) us ∧ Binds K (PySem.W.fnOf x qual (defArgs st) (defBody st) (defScope st) .none (.ref KD) doc pm an cdv ct) ps us := by
  have F : FunD K x qual (defArgs st) (defBody st) (defScope st) [] kws f (PySem.W.fnOf x qual (defArgs st) (defBody st) (defScope st) .none (.ref KD) doc pm an cdv ct) :=
    ⟨⟨oc, od, .none, .ref KD, doc, pm, an, cdv, ct, osl, rfl, l, c, .inl ⟨rfl, rfl⟩, .inr ⟨KD, rfl, hq⟩⟩, k⟩
  exact F.binds0 n hk hn h
/-! ### constant tuples -/
def isI (v : Value) (j : Int) : Bool := match v with
  | .int i _ => i == j
  | _ => false
def intsIs : List Value → List Int → Bool
  | [], [] => true
  | v :: r, j :: s => isI v j && intsIs r s
  | _, _ => false
def tupIs (o : Obj) (ns : List Int) : Bool := o.cls == .type "tuple" && match o.data with
  | .seq its _ => decide (its.size ≤ 1000) && intsIs its.toList ns
  | _ => false
theorem isI_rel {v : Value} {j : Int} (h : isI v j = true) : RelV (.int j) v := by
  cases v with
  | int i t =>
    have h' : (i == j) = true := h
    obtain rfl := beq_iff_eq.mp h'
    exact ⟨t, rfl⟩
  | _ => cases h
theorem intsIs_vals : ∀ {us : List Value} {ns : List Int}, intsIs us ns = true → Vals (ns.map V.int) us
  | [], [], _ => .nil
  | v :: r, j :: s, h => by
    have h' : (isI v j && intsIs r s) = true := h
    rw [Bool.and_eq_true] at h'
    exact .cons (isI_rel h'.1) (intsIs_vals h'.2)
  | [], _ :: _, h => by cases h
  | _ :: _, [], h => by cases h
theorem tupIs_sq {K : PySem.W.Frag} {T : Addr} {o : Obj} {ns : List Int} (l : K.lookup T = some o) (h : tupIs o ns = true) (H : Hp) : SqT K H T (ns.map V.int) := by
  unfold tupIs at h
  rw [Bool.and_eq_true] at h
  obtain ⟨h1, h2⟩ := h
  cases e : o.data with
  | seq its n =>
    rw [e] at h2
    have h2' : (decide (its.size ≤ 1000) && intsIs its.toList ns) = true := h2
    rw [Bool.and_eq_true] at h2'
    have := of_decide_eq_true h2'.1
    exact .inr ⟨o, its, n, l, beq_iff_eq.mp h1, e, by unfold sizeLine; omega, intsIs_vals h2'.2⟩
  | _ => rw [e] at h2; cases h2
theorem reps_intsW {K : PySem.W.Frag} {W : Hp} : ∀ {ns : List Int}, Reps K W (ns.map D.int) (ns.map V.int)
  | [] => rfl
  | n :: r => ⟨_, _, rfl, rfl, reps_intsW (ns := r)⟩
def ConT (K : PySem.W.Frag) (mg : Str → Option Value) (x : Str) (ns : List Int) : Prop := ∃ T, mg x = some (.ref T) ∧ ∀ H, SqT K H T (ns.map V.int)
theorem pd_globT {X : Cx} {x : Str} {ns : List Int} {pos : Pos} (h : ConT X.K X.mg x ns) (hg : Gl X x := by rfl) (hd : (x == ("__debug__" : Str)) = false := by decide) : PD X (.Name x pos) (wC (.tup (ns.map D.int))) := by
  obtain ⟨T, hm, r⟩ := h
  exact pd_c (pe_glob (v := .ref T) hg hm rfl hd) fun W => ⟨T, _, rfl, r W, reps_intsW⟩
/-- the empty tuple as a default -/
theorem dfl_empty {K : PySem.W.Frag} {T : Addr} {o : Obj} (l : K.lookup T = some o) (h : tupIs o [] = true) : Reps K (fun _ => none) [.tup []] [.ref T] := ⟨_, _, rfl, ⟨T, [], rfl, tupIs_sq (ns := []) l h _, rfl⟩, rfl⟩
end DL
set_option Elab.async false
set_option linter.all false
set_option maxRecDepth 100000
set_option maxHeartbeats 1000000
/-! The data layer, part x: isinstance of a caught exception against a class that the language brings. -/
namespace DL
open PySem PySem.Spec PyProof.Rows L2
theorem kit_ty {K : PySem.W.Frag} {C : Addr} {T : String} {b : Bool} (hm : PySem.W.kitMeta T = true) (h : PySem.W.subIn K (.ref C) (.type T) = some b) : PySem.W.kitOne K (.ref C) (.type T) = some b := by
  unfold PySem.W.kitOne
  rw [if_neg (fun z : (Value.ref C == Value.type T) = true => by have := beq_iff_eq.mp z; cases this)]
  show (if PySem.W.kitMeta T = true then PySem.W.subIn K (.ref C) (.type T) else none) = some b
  rw [if_pos hm]
  exact h
def wIsEB (K : PySem.W.Frag) (a dd C : Addr) (T : String) (w : WPe) : WPe := fun env S Q X => w env S (fun d S1 => match d with
  | .exc a' dd' C' _ _ => (a' = a ∧ dd' = dd ∧ C' = C ∧ IsC K C) ∧ some! (PySem.W.kitOne K (.ref C) (.type T)) fun b => Q (.bl b) S1
  | _ => False) X
section
variable {X : Cx} {a dd C : Addr} {T : String} {oe : Obj} {pn : List (Addr × Obj)} {e e2 : Expr} {w : WPe} {p pos : Pos}
theorem pd_isEB (hz : Zc (.ref C) (some dd) oe) (hf : ∃ vs, oe.data = .fields vs) (he : PD (X.suite a ((a, oe) :: pn)) e w) (hc : PE (X.suite a ((a, oe) :: pn)) e2 (tC (.ty T))) (hm : X.mg "isinstance" = none) (hg : Gl (X.suite a ((a, oe) :: pn)) "isinstance" := by rfl)
    (hs : starEach [e, e2] X.env = (false, eval e X.env) :: starEach [e2] X.env := by rfl) (hs2 : starEach [e2] X.env = [(false, eval e2 X.env)] := by rfl) (hpl : (backTo pos (starEach [e2] X.env)).any (·.1) = false := by rfl) :
    PD (X.suite a ((a, oe) :: pn)) (.Call (.Name "isinstance" p) [e, e2] [] pos) (wIsEB X.K a dd C T w) :=
  ⟨fun Wx tk => PE.imp (pe_callB (call_isD hz hf) hg hm (by decide +kernel) (pa_cons (he.run Wx tk) (pa_cons hc pa_nil hs2) hs) (by decide) (by decide) hs hpl) fun σ H Q ⟨W, env, S, Q0, X1, ok, sl, hw, cv, cx⟩ => ⟨W, env, S, _, X1, ok, sl, hw, fun d S1 v W1 H1 h1 s1 ok1 r1 => by
    cases d with
    | exc a' dd' C' g x =>
      obtain ⟨⟨rfl, rfl, rfl, ic⟩, h1⟩ := h1
      obtain ⟨b, e5, h1⟩ := some!_ex h1
      obtain ⟨e1, gs, u, e2, e3, ru⟩ := r1
      subst e1
      exact ⟨.ty T, .type T, b, gs, rfl, ok1.vis _ _ e2, .ty T, ic, e5, cv _ S1 _ W1 H1 h1 s1 ok1 rfl⟩
    | _ => exact h1.elim, cx⟩⟩
end
end DL
set_option Elab.async false
set_option linter.all false
set_option maxRecDepth 100000
set_option maxHeartbeats 1000000
/-! The data layer, part y: an operator that an own class brings, used on two of its instances; {} and d[k] of dicts with tuple keys. -/
namespace DL
open PySem PySem.Spec PyProof.Rows L2
/-- x op y, both instances of C: the method's contract; what it tells is an instance that stays as it is -/
def isObj : D → Bool
  | .obj _ _ _ => true
  | _ => false
def oOwn (C : Addr) (N : List Str) (spec : Ctr) : O2 := fun S x y Q => isIns C N S x ∧ isIns C N S y ∧ spec [x, y] S (fun d S' => isObj d = true ∧ Q d S') (fun _ _ _ => False)
theorem obj_ref {K : PySem.W.Frag} {W : Hp} {d : D} {v : V} (h : isObj d = true) (r : Rep K W d v) : ∃ a, v = .ref a := by
  cases d with
  | obj C N xs => obtain ⟨a, _, _, _, e, _⟩ := r; exact ⟨a, e⟩
  | _ => cases h
theorem opd_own {X : Cx} {C : Addr} {k : Nat} {N ps : List Str} {m : Str} {op : Operator} {spec : Ctr} (G : MtC X.prog X.w X.K X.mg X.base C k m ps spec) (hN : m ∉ N) (hsf : PySem.W.selfFirst X.K C = true) (hr : Room k X.A) (hm2 : PySem.dunder op.info.2 = m := by rfl) :
    OpR X (binaryOp op) (lOp X.K (oOwn C N spec)) := fun pins s σ H x y v u Q I rx ry ⟨W, S, d1, d2, Q0, okS, rep1, rep2, ⟨in1, in2, told⟩, cv⟩ => by
  obtain ⟨f, fd, F, hmet, hbind⟩ := G
  obtain ⟨p1, dx1, fs1, rfl, at1, _⟩ := isIns_rep okS rep1 in1 hN
  obtain ⟨p2, dx2, fs2, rfl, at2, _⟩ := isIns_rep okS rep2 in2 hN
  obtain rfl : v = Value.ref p1 := rx
  obtain rfl : u = Value.ref p2 := ry
  obtain ⟨_, i1, _⟩ := ins_get I.hok at1
  obtain ⟨_, i2, _⟩ := ins_get I.hok at2
  obtain ⟨_, J1, _⟩ := i1.look
  obtain ⟨_, J2, _⟩ := i2.look
  obtain ⟨_, frame⟩ := I.fr
  subst hm2
  have call : wpAny (model X.prog X.w) X.A (call (.ref f) [.ref p1, .ref p2]) (EP X pins σ fun z H' => (∃ a, z = V.ref a) ∧ Q z H') X.xe s :=
    run_fnN (E := fun _ _ _ _ => False) (vs := [.ref p1, .ref p2]) F hr hbind (fun _ _ _ _ _ _ h => (cx_no h).elim) I (.cons rfl (.cons rfl .nil))
      ⟨W, S, [d1, d2], _, fun _ _ _ => False, okS, ⟨_, _, rfl, rep1, ⟨_, _, rfl, rep2, rfl⟩⟩, told, fun d S' z W' H' ⟨h1, h2⟩ st ok' r' => ⟨obj_ref h1 r', cv d S' z W' H' h2 st ok' r'⟩, fun _ _ _ _ _ _ _ h => h.elim⟩
  refine PySem.W.binop_K frame I.ok.mod.kin J1 J2.type hsf hmet.at_ (hmet.fn) (wpAny_mono call (fun r s' ⟨z, H', I', rz, ⟨a, ez⟩, q⟩ => ?_) fun _ _ h => h)
  subst ez
  obtain rfl : r = Value.ref a := rz
  exact ⟨.ref a, H', I', rfl, q⟩
/-- {} -/
def wDict0 : WPe := fun _ S Q _ => ∀ p, S p = none → Q (.ref p) (DL.put S p (.dN p []))
theorem pd_dict0 {X : Cx} {pos : Pos} : PD X (.Dict [] [] pos) wDict0 := by
  refine ⟨fun Wx tk => ⟨fun pins s σ H Q I ⟨W, env, S, Q0, X1, okS, sl, hw, cv, cx⟩ => ?_⟩⟩
  refine wpAny_Dict_empty ?_
  have free : H s.heap.objs.size = none := I.hok.fresh (Nat.le_refl _)
  have notMods : (s.heap.objs.size == sysModules) = false := beq_eq_false_iff_ne.mpr (Ne.symm (Nat.ne_of_lt I.big))
  have laid := I.laid (a := s.heap.objs.size) (o := .ext (dnP s.heap.objs.size [])) (t' := s.toks) (fun _ _ q => Heap.get?_push_of_some _ q) (Nat.le_refl _)
    ⟨⟨{ cls := .type "dict", data := .dict #[] }, #[], 0, Heap.get?_push_size _ rfl, ⟨rfl, rfl, rfl⟩, rfl, rfl⟩, ⟨{ cls := .type "dict", data := .dict #[] }, Heap.get?_push_size _ rfl⟩, fun _ _ ⟨_, _, _, g1, g2⟩ e => ⟨_, _, _, e _ g1, g2⟩⟩
  obtain ⟨_, hS⟩ := okS.fresh free
  exact ⟨.ref _, _, laid, rfl, cv _ _ _ _ _ (hw _ hS) (okS.stS free) (okS.newS free ⟨_, rfl, ⟨Nat.zero_le _, notMods, List.nodup_nil⟩, rfl⟩) rfl⟩
theorem opd_ixN {X : Cx} (hu : X.A.units + 64 < cLine) : IxR X (lOp X.K oIxN) := by
  intro value slice pins s σ H x y v u Q I rx ry ⟨W, S, d1, d2, Q0, okS, rep1, rep2, told, cv⟩ hs
  obtain ⟨p, kvs, rfl, hS, told⟩ := dnAt_ex told
  obtain ⟨key, hk, told⟩ := some!_ex told
  obtain ⟨got, hgot, told⟩ := some!_ex told
  obtain ⟨⟨k1, k2⟩, parts, rfl⟩ := keyD_ex hk
  obtain ⟨es, _, dn, ⟨_, z2, _⟩, dd⟩ := dict_at I okS hS
  obtain ⟨q, vs, rfl, _, _⟩ := id rep2
  obtain rfl : u = Value.ref q := ry
  rw [show x = V.ref p from rep1] at rx
  obtain rfl : v = Value.ref p := rx
  rcases dn.find (k := key) with ⟨e1, _⟩ | ⟨d', b, w', v', e1, e2, e3, e4⟩
  · rw [e1] at hgot; cases hgot
  · rw [e1] at hgot
    obtain rfl := Option.some.inj hgot
    refine subscriptTail_builtinR (x := w') dd.typeIs slot_dict_getitem.lookup (wpAny_getItem_heap (room_in1 hu) ⟨nest_of I okS.vis rep2 rfl k1, k2⟩ dd e2 ⟨rfl, ?_⟩) hs
    exact ⟨v', H, I.tok _, e4, cv d' S v' W H told Stp.refl okS e3⟩
/-- a, b = x, y: two plain names, stored from the right -/
def wPar (i j : Nat) (wa : WPa) : WPs := fun env S q => wa env S (fun ds S1 => ∃ v w, ds = [v, w] ∧ q.nx (setV (setV env i v) j w) S1) (xcQ q env)
theorem pds_par {X : Cx} {i j : Nat} {x y : Str} {a b : Expr} {wa : WPa} {px py pt pos : Pos} {kt k2 : Nat} {pt2 : Pos} (hc : X.calm = true) (hN : X.N.Nodup) (hi : X.N[i]? = some x) (hj : X.N[j]? = some y) (hij : i ≠ j)
    (hx : X.env.scope.names.lookup x = some .local) (hy : X.env.scope.names.lookup y = some .local) (ha : PDa X [a, b] wa)
    (hw : swappedStores [.Tuple [.Name x px, .Name y py] kt pt] (.Tuple [a, b] k2 pt2) X.env = pure (some [x, y]))
    (hs : swapsWithSole [.Tuple [.Name x px, .Name y py] kt pt] (.Tuple [a, b] k2 pt2) pos.line X.env = pure false := by rfl) :
    PDs X (.Assign [.Tuple [.Name x px, .Name y py] kt pt] (.Tuple [a, b] k2 pt2) pos) (wPar i j wa) :=
  ⟨fun Wx tk => PS.imp (ps_par hc hN hi hj hij hx hy (ha.run Wx tk) hw hs) fun D σ H ⟨W, env, S, q, ok, sl, hl, hw, cs⟩ => ⟨W, env, S, _, _, ok, sl, hw, fun ds S1 vs W1 H1 ⟨v, w, e, h1⟩ s1 ok1 r1 => by
    subst e
    obtain ⟨v1, _, rfl, rv, v2, _, rfl, rw2, rfl⟩ := r1
    refine ⟨v1, v2, rfl, cs.nx _ S1 _ W1 H1 h1 s1 ok1 (((sl.mono s1.vis).set (by rw [hl]; exact lt_of_some hi) rv).set (by rw [List.length_set, hl]; exact lt_of_some hj) rw2) (by rw [List.length_set, List.length_set]; exact hl)⟩, CXc.of cs sl⟩⟩
end DL
set_option Elab.async false
set_option linter.all false
set_option maxRecDepth 100000
set_option maxHeartbeats 1000000
/-! The data layer, part z: try with several clauses, each with a name for the exception or without; one of them must take it. -/
namespace DL
open PySem PySem.Spec PyProof.Rows L2
/-- a clause: the class it names, the slot that it binds, its suite's wish -/
structure Clz where
  cls : Value
  slot : Option Nat
  wish : Addr → Value → Option Addr → TS
def gone (D : Ends) : Option Nat → Ends
  | none => D
  | some i => { nx := fun τ G => D.nx (τ.set i none) G, rt := D.rt, bk := fun τ G => D.bk (τ.set i none) G, ct := fun τ G => D.ct (τ.set i none) G }
def held (τ : L2.St) (a : Addr) : Option Nat → L2.St
  | none => τ
  | some i => τ.set i (some (.ref a))
/-- what the clauses wish, the first that matches taken -/
def wClz (K : PySem.W.Frag) (D : Ends) : List Clz → WX
  | [] => fun _ _ _ _ => False
  | z :: r => fun t d τ G => ∃ b, PySem.W.exmOne K t z.cls = some b ∧ (b = true → ∀ a, G a = none → z.wish a t d (gone D z.slot) (held τ a z.slot) G) ∧ (b = false → wClz K D r t d τ G)
/-- how a clause stands in the text -/
inductive ClzAt (X : Cx) : ExceptHandler → Clz → Prop
  | bare {x : Str} {np p : Pos} {z : Clz} {st : Stmt} {more : List Stmt} (hn : Names X x z.cls) (hz : z.slot = none)
      (hsu : ∀ (a : Addr) (ob : Obj) (t : Value) (d : Option Addr) (pn : List (Addr × Obj)), Zc t d ob → (∃ vs, ob.data = .fields vs) → PSs (X.suite a ((a, ob) :: pn)) (st :: more) (z.wish a t d)) : ClzAt X (.ExceptHandler (some (.Name x np)) none (st :: more) p) z
  | named {x n : Str} {i : Nat} {np p : Pos} {z : Clz} {st : Stmt} {more : List Stmt} (hn : Names X x z.cls) (hz : z.slot = some i) (hi : X.N[i]? = some n) (hl : X.env.kindOf n = some .local)
      (hsu : ∀ (a : Addr) (ob : Obj) (t : Value) (d : Option Addr) (pn : List (Addr × Obj)), Zc t d ob → (∃ vs, ob.data = .fields vs) → PSs (X.suite a ((a, ob) :: pn)) (st :: more) (z.wish a t d)) : ClzAt X (.ExceptHandler (some (.Name x np)) (some n) (st :: more) p) z
section
variable {X : Cx} {pins : List (Addr × Obj)} {D : Ends} {s0 : Shared} {hp : Heap} {a : Addr} {t : Value} {d : Option Addr} {τ : L2.St} {G : Hp} {base : Heap}
/-- an exception that has come to the try: what is known of it, at each heap from then on -/
structure Come (X : Cx) (pins : List (Addr × Obj)) (s0 : Shared) (a : Addr) (t : Value) (d : Option Addr) (τ : L2.St) (G : Hp) (h : Heap) : Prop where
  inv : L2.Inv X pins τ G { s0 with heap := h }
  obj : ∃ ob vs, h.get? a = some ob ∧ Zc t d ob ∧ ob.data = .fields vs
  new : G a = none
  nL : a ≠ X.env.locals
  nF : a ∉ X.fs
theorem Come.suited {h : Heap} (c : Come X pins s0 a t d τ G h) : ∃ ob, Zc t d ob ∧ (∃ vs, ob.data = .fields vs) ∧ h.get? a = some ob ∧ L2.Inv (X.suite a ((a, ob) :: (X.pn ++ pins))) [] τ G { s0 with heap := h } := by
  obtain ⟨ob, vs, g, z, dt⟩ := c.obj
  exact ⟨ob, z, ⟨vs, dt⟩, g, c.inv.suite g dt c.new c.nL c.nF⟩
theorem names_read {h : Heap} {x : Str} {c : Value} {np : Pos} (k : Come X pins s0 a t d τ G h) (hn : Names X x c) {Q : Value → Shared → Prop} {E : Value → Shared → Prop} (q : Q c { s0 with heap := h }) :
    wpAny (model X.prog X.w) (X.A.mark (some (.ref a))) (eval (.Name x np) X.env) Q E { s0 with heap := h } := by
  obtain ⟨ob, _, _, _, inv⟩ := k.suited
  obtain ⟨gl, nd, own | ⟨no, bv, nn⟩⟩ := hn
  · exact ld_glob (X := X.suite a ((a, ob) :: (X.pn ++ pins))) inv gl own q nd
  · exact ld_blt (X := X.suite a ((a, ob) :: (X.pn ++ pins))) inv gl no bv q nn nd
theorem suite_end {f : Flow} {s1 : Shared} {ob : Obj} (okX : X.Ok) (h : SP (X.suite a ((a, ob) :: (X.pn ++ pins))) [] D f s1) : SP X pins D f s1 := by
  cases f with
  | ret u => obtain ⟨v, τ1, G1, inv, rv, q⟩ := h; exact ⟨v, τ1, G1, inv.unsuite okX, rv, q⟩
  | next => obtain ⟨τ1, G1, inv, q⟩ := h; exact ⟨τ1, G1, inv.unsuite okX, q⟩
  | brk => obtain ⟨τ1, G1, inv, q⟩ := h; exact ⟨τ1, G1, inv.unsuite okX, q⟩
  | cont => obtain ⟨τ1, G1, inv, q⟩ := h; exact ⟨τ1, G1, inv.unsuite okX, q⟩
theorem named_end {f : Flow} {s1 : Shared} {ob : Obj} {i : Nat} {n : Str} {p : Pos} (okX : X.Ok) (nd : X.N.Nodup) (hi : X.N[i]? = some n) (hl : X.env.kindOf n = some .local) (h : SP (X.suite a ((a, ob) :: (X.pn ++ pins))) [] (gone D (some i)) f s1) :
    wpAny (model X.prog X.w) X.A (do bindName X.env n .none; unbindBehindTheSuite X.env n p) (fun _ s2 => SP X pins D f s2) X.xe s1 := by
  cases f with
  | ret u => obtain ⟨v, τ1, G1, inv, rv, q⟩ := h; exact gone_ok (inv.unsuite okX) nd hi hl fun _ inv2 => ⟨v, _, G1, inv2, rv, q⟩
  | next => obtain ⟨τ1, G1, inv, q⟩ := h; exact gone_ok (inv.unsuite okX) nd hi hl fun _ inv2 => ⟨_, G1, inv2, q⟩
  | brk => obtain ⟨τ1, G1, inv, q⟩ := h; exact gone_ok (inv.unsuite okX) nd hi hl fun _ inv2 => ⟨_, G1, inv2, q⟩
  | cont => obtain ⟨τ1, G1, inv, q⟩ := h; exact gone_ok (inv.unsuite okX) nd hi hl fun _ inv2 => ⟨_, G1, inv2, q⟩
inductive Clzs (X : Cx) : List ExceptHandler → List Clz → Prop
  | nil : Clzs X [] []
  | cons {hd : ExceptHandler} {z : Clz} {hds : List ExceptHandler} {zs : List Clz} (h : ClzAt X hd z) (r : Clzs X hds zs) : Clzs X (hd :: hds) (z :: zs)
/-- the clauses, one after the other -/
theorem clauses_take (okX : X.Ok) (nd : X.N.Nodup) (fl : HandSPX.FlyingZ base (X.env :: X.outer) a (Zc t d) hp) (k : Come X pins s0 a t d τ G hp)
    (again : ∀ h', HandSPX.FlyingZ base (X.env :: X.outer) a (Zc t d) h' → hp.UpToSlots h' → Come X pins s0 a t d τ G h') :
    ∀ {hds : List ExceptHandler} {zs : List Clz}, Clzs X hds zs → wClz X.K D zs t d τ G → wpAny (model X.prog X.w) X.A (handleBy (.ref a) X.env hds) (SP X pins D) X.xe { s0 with heap := hp } := by
  intro hds zs cz
  induction cz with
  | nil => exact fun w => w.elim
  | @cons hd z hds zs cl rest ih =>
    rintro ⟨b, hit, yes, no⟩
    obtain ⟨ob, vs, got, zc, dt⟩ := k.obj
    have looks : PySem.W.Looks (model X.prog X.w) hp (typeOf (.ref a)) t := fun _ _ _ _ kp q => wpAny_typeOf_ref (kp _ _ got) (by rw [zc.1]; exact q)
    have hits := PySem.W.exm_one (M := model X.prog X.w) k.inv.kIn looks hit
    cases cl with
    | bare hn hz hsu =>
      refine wpAny_handleBy_cons (codeAny_handlers_test (names_read k hn (hits.here ?_))) (by intro q; cases q)
      cases b with
      | false => exact ih (no rfl)
      | true =>
        have yes := yes rfl a k.new
        rw [hz] at yes
        refine codeAny_handlers_suite (HandSPX.lands_againZ fl fun h4 fl4 up4 => ?_)
        obtain ⟨ob4, z4, dt4, _, inv4⟩ := (again h4 fl4 up4).suited
        exact wpAny_mono ((hsu a ob4 t d _ z4 dt4).run [] _ _ G _ inv4 yes) (fun f s6 h6 => suite_end okX h6) fun _ _ w => w.elim
    | named hn hz hi hl hsu =>
      refine wpAny_handleBy_cons (codeAny_handlers_test (names_read k hn (hits.here ?_))) (by intro q; cases q)
      cases b with
      | false => exact ih (no rfl)
      | true =>
        have yes := yes rfl a k.new
        rw [hz] at yes
        refine codeAny_handlers_suite_as (HandSPX.lands_againZ fl fun h4 fl4 up4 => ?_)
        obtain ⟨ob4, z4, dt4, _, inv4⟩ := (again h4 fl4 up4).suited
        refine store_ok (X := X.suite a ((a, ob4) :: (X.pn ++ pins))) (v := .ref a) inv4 nd hi (.inl hl) rfl (fun s5 inv5 => ?_) (.inr hl)
        exact wpAny_mono ((hsu a ob4 t d _ z4 dt4).run [] s5 _ G _ inv5 yes) (fun f s6 h6 => named_end okX nd hi hl h6) fun _ _ w => w.elim
end
section
variable {X : Cx} {body : List Stmt} {h₀ : ExceptHandler} {hds : List ExceptHandler} {zs : List Clz} {pos : Pos} {tb : WX → TS}
theorem body_end {pins : List (Addr × Obj)} {D : Ends} {xe : Value → Shared → Prop} {f : Flow} {s1 : Shared} (okX : X.Ok) (h : SP (X.tr (X.pn ++ pins) xe) [] D f s1) : SP X pins D f s1 := by
  cases f with
  | ret u => obtain ⟨v, τ1, G1, inv, rv, q⟩ := h; exact ⟨v, τ1, G1, inv.ofTry okX, rv, q⟩
  | next => obtain ⟨τ1, G1, inv, q⟩ := h; exact ⟨τ1, G1, inv.ofTry okX, q⟩
  | brk => obtain ⟨τ1, G1, inv, q⟩ := h; exact ⟨τ1, G1, inv.ofTry okX, q⟩
  | cont => obtain ⟨τ1, G1, inv, q⟩ := h; exact ⟨τ1, G1, inv.ofTry okX, q⟩
theorem ps_try_clz (hs : X.stack = X.env :: X.outer) (hf : X.env.frame = some X.env.locals) (nd : X.N.Nodup)
    (hb : ∀ (W : WX) (pn : List (Addr × Obj)) (xe : Value → Shared → Prop), Takes (X.tr pn xe) W → PassesOwn (model X.prog X.w) X.A X.env xe → PSs (X.tr pn xe) body (tb W))
    (cz : Clzs X (h₀ :: hds) zs) : PS X (.Try body (h₀ :: hds) [] [] pos) (fun D τ G => tb (wClz X.K D zs) D τ G) := by
  refine ⟨fun pins s0 τ0 G0 D I start => ?_⟩
  have okX := I.ok
  have frames : X.A.frames = some (X.env :: X.outer) := by rw [okX.frames, hs]
  refine wpAny_Try_except (wpAny_mono ((hb (wClz X.K D zs) (X.pn ++ pins) _ ?taken PassesOwn.looking).run [] s0 τ0 G0 D (I.toTry _) start) (fun f s1 h1 => ?_) fun _ _ z => z)
  case taken =>
    rintro u s1 ⟨a, B, sI, pins', τ, G, t, d, rfl, J', nb, up, sky, na, os, ag, w⟩
    have J : L2.Inv X pins τ G sI := J'.ofTry okX
    have sky2 : Sky B (X.env :: X.outer) a (Zc t d) X.env.locals s1.heap := by rw [← hs]; exact sky
    show wpAny (model X.prog X.w) X.A (noteFrame (.ref a) X.env) _ _ _
    refine Sky.land Zc.steady frames hf sky2 fun h3 fl3 up3 => ?_
    have come : ∀ h', HandSPX.FlyingZ B (X.env :: X.outer) a (Zc t d) h' → s1.heap.UpToSlots h' → Come X pins s1 a t d τ G h' := fun h' fl' up' => by
      obtain ⟨ob, vs, got, zc, dt⟩ := fl'.there
      have far : a ∉ frs (X.env :: X.outer) := fun hm => by
        obtain ⟨_, _, e1, e2⟩ := fl'.2.2.1.mem hm
        rw [got] at e1
        cases e1
        exact e2 _ dt
      exact ⟨J.landed nb fl'.1 (up.trans up') os ag, ⟨ob, vs, got, zc, dt⟩, na, fun z => far (List.mem_filterMap.mpr ⟨X.env, List.mem_cons_self, by rw [hf, z]⟩), fun hm => by
        obtain ⟨en, he, q⟩ := List.mem_filterMap.mp hm
        exact far (List.mem_filterMap.mpr ⟨en, List.mem_cons_of_mem _ he, q⟩)⟩
    exact clauses_take okX nd fl3 (come h3 fl3 up3) (fun h' fl' up' => come h' fl' (up3.trans up')) cz w
  · have h2 := body_end okX h1
    cases f with
    | next => exact wpAny_execs_nil h2
    | ret u => exact h2
    | brk => exact h2
    | cont => exact h2
end
end DL
set_option Elab.async false
set_option linter.all false
set_option maxRecDepth 100000
set_option maxHeartbeats 1000000
/-! The data layer, part za: the reading of a try with several clauses. -/
namespace DL
open PySem PySem.Spec PyProof.Rows L2
/-- a clause: its class, the slot that it binds, its suite's reading -/
structure Cz where
  T : Addr
  slot : Option Nat
  suite : WPu
def setO (e : DE) (o : Option Nat) (d : D) : DE := match o with
  | none => e
  | some i => setV e i d
def delO (e : DE) : Option Nat → DE
  | none => e
  | some i => delV e i
def suiteQ (q : QS) (o : Option Nat) : QS := { nx := fun e2 S2 => q.nx (delO e2 o) S2, rt := q.rt, bk := fun e2 S2 => q.bk (delO e2 o) S2, ct := fun e2 S2 => q.ct (delO e2 o) S2, xc := fun _ _ _ _ => False }
def takeM (K : PySem.W.Frag) (q : QS) (C : Addr) (fs : List (Str × D)) (e : DE) (S1 : Sto) : List Cz → Prop
  | [] => False
  | z :: r => ∃ b, PySem.W.exmOne K (.ref C) (.ref z.T) = some b ∧ (b = true → ∃ f x, fs = [(f, x)] ∧ ∀ a dd, z.suite a dd C (setO e z.slot (.exc a dd C f x)) S1 (suiteQ q z.slot)) ∧ (b = false → takeM K q C fs e S1 r)
def wTryM (K : PySem.W.Frag) (zs : List Cz) (body : WPs) : WPs := fun env S q => body env S { q with xc := fun C fs e S1 => takeM K q C fs e S1 zs }
inductive CzAt (X : Cx) : ExceptHandler → Cz → Prop
  | bare {x : Str} {T : Addr} {np p : Pos} {ws : WPu} {st : Stmt} {more : List Stmt} (hm : X.mg x = some (.ref T)) (hg : Gl X x) (hdb : (x == ("__debug__" : Str)) = false)
      (hsu : ∀ (a dd C : Addr) (oe : Obj) (pn : List (Addr × Obj)), Zc (.ref C) (some dd) oe → (∃ vs, oe.data = .fields vs) → PDss (X.suite a ((a, oe) :: pn)) (st :: more) (ws a dd C)) : CzAt X (.ExceptHandler (some (.Name x np)) none (st :: more) p) ⟨T, none, ws⟩
  | named {x n : Str} {T : Addr} {i : Nat} {np p : Pos} {ws : WPu} {st : Stmt} {more : List Stmt} (hm : X.mg x = some (.ref T)) (hg : Gl X x) (hdb : (x == ("__debug__" : Str)) = false) (hi : X.N[i]? = some n) (hl : X.env.kindOf n = some .local)
      (hsu : ∀ (a dd C : Addr) (oe : Obj) (pn : List (Addr × Obj)), Zc (.ref C) (some dd) oe → (∃ vs, oe.data = .fields vs) → PDss (X.suite a ((a, oe) :: pn)) (st :: more) (ws a dd C)) : CzAt X (.ExceptHandler (some (.Name x np)) (some n) (st :: more) p) ⟨T, some i, ws⟩
inductive Czs (X : Cx) : List ExceptHandler → List Cz → Prop
  | nil : Czs X [] []
  | cons {hd : ExceptHandler} {z : Cz} {hds : List ExceptHandler} {zs : List Cz} (h : CzAt X hd z) (r : Czs X hds zs) : Czs X (hd :: hds) (z :: zs)
def suiteTS (K : PySem.W.Frag) (n : Nat) (ws : WPu) : Addr → Value → Option Addr → TS := fun a cls d => match cls, d with
  | .ref C, some dd => lSn K (fun _ _ _ _ => False) n (ws a dd C)
  | _, _ => fun _ _ _ => False
def toClz (K : PySem.W.Frag) (n : Nat) (z : Cz) : Clz := ⟨.ref z.T, z.slot, suiteTS K n z.suite⟩
section
variable {X : Cx}
theorem suite_runs {st : Stmt} {more : List Stmt} {ws : WPu} (hsu : ∀ (a dd C : Addr) (oe : Obj) (pn : List (Addr × Obj)), Zc (.ref C) (some dd) oe → (∃ vs, oe.data = .fields vs) → PDss (X.suite a ((a, oe) :: pn)) (st :: more) (ws a dd C))
    (a : Addr) (ob : Obj) (t : Value) (d : Option Addr) (pn : List (Addr × Obj)) (hz : Zc t d ob) (hf : ∃ vs, ob.data = .fields vs) : PSs (X.suite a ((a, ob) :: pn)) (st :: more) (suiteTS X.K X.N.length ws a t d) := by
  cases t with
  | ref C =>
    cases d with
    | some dd => exact pss_n (X := X.suite a ((a, ob) :: pn)) ((hsu a dd C ob pn hz hf).run _ takes0)
    | none => exact ⟨fun _ _ _ _ _ _ h => h.elim⟩
  | _ => exact ⟨fun _ _ _ _ _ _ h => h.elim⟩
theorem czs_to {hds : List ExceptHandler} {zs : List Cz} (h : Czs X hds zs) : Clzs X hds (zs.map (toClz X.K X.N.length)) := by
  induction h with
  | nil => exact .nil
  | cons h r ih =>
    refine .cons ?_ ih
    cases h with
    | bare hm hg hdb hsu => exact .bare ⟨hg, hdb, .inl hm⟩ rfl fun a ob t d pn hz hf => suite_runs hsu a ob t d pn hz hf
    | named hm hg hdb hi hl hsu => exact .named ⟨hg, hdb, .inl hm⟩ rfl hi hl fun a ob t d pn hz hf => suite_runs hsu a ob t d pn hz hf
theorem take_wish {Wx : WX} {W W1 : Hp} {S S1 : Sto} {H H1 : Hp} {q : QS} {De : Ends} {n : Nat} {C dd : Addr} {fs : List (Str × D)} {gs : List (Str × V)} {e : DE} {σ1 : L2.St} (hn : X.N.length = n)
    (cs : CS X.K Wx W S H q { De with nx := fun τ G => τ.length = n → De.nx τ G, bk := fun τ G => τ.length = n → De.bk τ G, ct := fun τ G => τ.length = n → De.ct τ G })
    (s1 : Stp W S H W1 S1 H1) (ok1 : Ok X.K W1 S1 H1) (sl1 : Sl X.K W1 e σ1) (e1 : W1 dd = some (.xd gs)) (r1 : Repf X.K W1 fs gs) :
    ∀ {hds : List ExceptHandler} {zs : List Cz}, Czs X hds zs → takeM X.K q C fs e S1 zs → wClz X.K De (zs.map (toClz X.K n)) (.ref C) (some dd) σ1 H1 := by
  intro hds zs hz
  induction hz with
  | nil => exact fun h => h
  | @cons hd z hds zs hc rest ih =>
    rintro ⟨b, hb, yes, no⟩
    refine ⟨b, hb, fun hbt a ha => ?_, fun hbf => ih (no hbf)⟩
    obtain ⟨f, x, rfl, runs⟩ := yes hbt
    obtain ⟨u, hu, ru⟩ := r1 f x (by rw [List.lookup_cons]; simp)
    have rex : Rep X.K W1 (.exc a dd C f x) (.ref a) := ⟨rfl, gs, u, e1, hu, ru⟩
    have runs := runs a dd
    cases hc with
    | bare hm hg hdb hsu =>
      refine ⟨W1, e, S1, _, ok1, fun _ => sl1, runs, ?_, ?_, ?_, ?_, ?_⟩
      · exact fun e2 S2 σ2 W2 H2 hq st ok2 sl2 hl2 => cs.nx e2 S2 σ2 W2 H2 hq (s1.trans st) ok2 sl2 hl2
      · exact fun y S2 v W2 H2 hq st ok2 rv => cs.rt y S2 v W2 H2 hq (s1.trans st) ok2 rv
      · exact fun e2 S2 σ2 W2 H2 hq st ok2 sl2 hl2 => cs.bk e2 S2 σ2 W2 H2 hq (s1.trans st) ok2 sl2 hl2
      · exact fun e2 S2 σ2 W2 H2 hq st ok2 sl2 hl2 => cs.ct e2 S2 σ2 W2 H2 hq (s1.trans st) ok2 sl2 hl2
      · exact fun _ _ _ _ _ _ _ _ _ hq _ _ _ _ _ => hq.elim
    | @named _ _ _ i _ _ _ _ _ hm hg hdb hi hl hsu =>
      have sl2 : (σ1.set i (some (.ref a))).length = n → Sl X.K W1 (setV e i (.exc a dd C f x)) (σ1.set i (some (.ref a))) := fun hlen j y hj => by
        rcases getV_setV hj with ⟨w1, w2⟩ | ⟨w1, w2⟩
        · subst w1 w2
          exact ⟨_, List.getElem?_set_self (by rw [List.length_set] at hlen; rw [hlen, ← hn]; exact lt_of_some hi), rex⟩
        · obtain ⟨v, hv, rv⟩ := sl1 j y w2
          exact ⟨v, by rw [List.getElem?_set_ne (Ne.symm w1)]; exact hv, rv⟩
      refine ⟨W1, _, S1, _, ok1, sl2, runs, ?_, ?_, ?_, ?_, ?_⟩
      · exact fun e2 S2 σ2 W2 H2 hq st ok2 sl3 hl3 => cs.nx _ S2 _ W2 H2 hq (s1.trans st) ok2 (sl_del sl3) (by rw [List.length_set]; exact hl3)
      · exact fun y S2 v W2 H2 hq st ok2 rv => cs.rt y S2 v W2 H2 hq (s1.trans st) ok2 rv
      · exact fun e2 S2 σ2 W2 H2 hq st ok2 sl3 hl3 => cs.bk _ S2 _ W2 H2 hq (s1.trans st) ok2 (sl_del sl3) (by rw [List.length_set]; exact hl3)
      · exact fun e2 S2 σ2 W2 H2 hq st ok2 sl3 hl3 => cs.ct _ S2 _ W2 H2 hq (s1.trans st) ok2 (sl_del sl3) (by rw [List.length_set]; exact hl3)
      · exact fun _ _ _ _ _ _ _ _ _ hq _ _ _ _ _ => hq.elim
theorem pds_tryM {body : List Stmt} {h₀ : ExceptHandler} {hds : List ExceptHandler} {zs : List Cz} {pos : Pos} {wb : WPs} (hs : X.stack = X.env :: X.outer) (hf : X.env.frame = some X.env.locals) (hN : X.N.Nodup)
    (hb : ∀ (pn : List (Addr × Obj)) (xe : Value → Shared → Prop), PassesOwn (model X.prog X.w) X.A X.env xe → PDss (X.tr pn xe) body wb)
    (cz : Czs X (h₀ :: hds) zs) : PDs X (.Try body (h₀ :: hds) [] [] pos) (wTryM X.K zs wb) := by
  refine ⟨fun Wx tk => PS.imp (ps_try_clz hs hf hN (tb := fun W => lS X.K W X.N.length wb) (fun W pn xe tkW pass => (hb pn xe pass).run W tkW) (czs_to cz)) ?_⟩
  rintro D σ H ⟨W, env, S, q, ok, sl, hl, hw, cs⟩
  exact ⟨W, env, S, _, ok, sl, hl, hw, cs.nx, cs.rt, cs.bk, cs.ct, fun C fs e S1 dd gs σ1 W1 H1 tk1 s1 ok1 sl1 e1 r1 => take_wish rfl cs s1 ok1 sl1 e1 r1 cz tk1⟩
end
end DL
set_option Elab.async false
set_option linter.all false
set_option maxRecDepth 100000
set_option maxHeartbeats 1000000
/-! The data layer, part zb: xs.reverse(), list(range(n)). -/
namespace DL
open PySem PySem.Spec PyProof.Rows L2
theorem reps_rev {K : PySem.W.Frag} {W : Hp} : ∀ {xs : List D} {vs : List V}, Reps K W xs vs → Reps K W xs.reverse vs.reverse
  | [], vs, h => by
    rw [show vs = [] from h]
    exact rfl
  | x :: r, vs, ⟨v, w, e, rv, rr⟩ => by
    subst e
    rw [List.reverse_cons, List.reverse_cons]
    exact (reps_rev rr).append (Reps.one rv)
def oReverse : OM := fun S d ds Q => mutL S d fun a xs => ds = [] ∧ Q .non (put S a (.lst xs.reverse))
theorem md_reverse {X : Cx} : MtR X "list.reverse" (lM X.K oReverse) := MtR.imp mt_reverse fun x vs H Q ⟨W, S, d, ds, Q0, ok, r, rs, ho, cv⟩ => by
  obtain ⟨a, xs, us, rfl, rfl, e1, e2, rv, none, told⟩ := mutL_rep ok r ho
  subst none
  exact ⟨a, us, rfl, rs, e2, cv _ _ _ _ _ told (ok.stC e1) (ok.chg e1 ⟨_, rfl, reps_rev rv⟩) rfl⟩
/-- list(range(n)) -/
def wListRg (w : WPe) : WPe := fun env S Q X => w env S (fun d S1 => asI d fun n => (0 ≤ n ∧ n ≤ 16777216) ∧ Q (.lst (rngD 0 n.toNat)) S1) X
theorem rg_reps {K : PySem.W.Frag} {W : Hp} {n : Int} : Reps K W (rngD 0 n.toNat) (rgV 0 n) := by
  have e1 : rngD 0 n.toNat = ((List.range n.toNat).map fun (i : Nat) => (0 : Int) + (i : Int)).map D.int := by unfold rngD; rw [List.map_map]; rfl
  have e2 : rgV 0 n = ((List.range n.toNat).map fun (i : Nat) => (0 : Int) + (i : Int)).map V.int := by unfold rgV; rw [List.map_map, Int.sub_zero]; rfl
  rw [e1, e2]
  exact reps_intsW
theorem pd_listRg {X : Cx} {a : Expr} {w : WPe} {p pos p2 pos2 : Pos} (hc : X.calm = true) (hm : X.mg "list" = none) (hm2 : X.mg "range" = none) (ha : PD X a w) (hg : Gl X "list" := by rfl) (hg2 : Gl X "range" := by rfl)
    (na : starEach [.Call (.Name "range" p2) [a] [] pos2] X.env = (false, eval (.Call (.Name "range" p2) [a] [] pos2) X.env) :: starEach [] X.env := by rfl) (na2 : starEach [a] X.env = (false, eval a X.env) :: starEach [] X.env := by rfl) :
    PD X (.Call (.Name "list" p) [.Call (.Name "range" p2) [a] [] pos2] [] pos) (wListRg w) :=
  ⟨fun Wx tk => PE.imp (pe_listRg hc hg hm (prg_1 hg2 hm2 (ha.run Wx tk) na2) na) fun σ H Q ⟨W, env, S, Q0, X1, ok, sl, hw, cv, cx⟩ => ⟨W, env, S, _, X1, ok, sl, hw, fun d S1 v W1 H1 h1 s1 ok1 r1 => by
    obtain ⟨n, rfl, hi, told⟩ := asI_ex h1
    exact ⟨n, r1, RgOk.of_le (Int.le_refl _) hi.2 (by decide) hi.1, fun q hq => cv _ S1 _ _ _ told (s1.trans (ok1.stW hq)) (ok1.newW hq) ⟨q, _, rfl, upd_same, rg_reps⟩⟩, cx⟩⟩
end DL
set_option Elab.async false
set_option linter.all false
set_option maxRecDepth 100000
set_option maxHeartbeats 1000000
/-! The data layer, part zc: xs.insert(i, y). -/
namespace DL
open PySem PySem.Spec PyProof.Rows L2
def oInsert : OM := fun S d ds Q => mutL S d fun a xs => two ds fun i y => asI i fun i => (xs.length < sizeLine ∧ 0 ≤ i ∧ i < 2 ^ 63) ∧ Q .non (put S a (.lst (xs.take i.toNat ++ [y] ++ xs.drop i.toNat)))
theorem reps_drop2 {K : PySem.W.Frag} {W : Hp} : ∀ {ds : List D} {vs : List V} (n : Nat), Reps K W ds vs → Reps K W (ds.drop n) (vs.drop n)
  | ds, vs, 0, h => h
  | [], vs, n + 1, h => by rw [show vs = [] from h]; rfl
  | x :: r, vs, n + 1, ⟨v, w, e, rv, rr⟩ => by subst e; exact reps_drop2 n rr
theorem md_insert {X : Cx} : MtR X "list.insert" (lM X.K oInsert) := MtR.imp mt_insert fun x vs H Q ⟨W, S, d, ds, Q0, ok, r, rs, ho, cv⟩ => by
  obtain ⟨a, xs, us, rfl, rfl, e1, e2, rv, h⟩ := mutL_rep ok r ho
  obtain ⟨i, y, rfl, h⟩ := two_ex h
  obtain ⟨i, rfl, ⟨h1, h2, h3⟩, h⟩ := asI_ex h
  obtain ⟨v1, r1, rfl, e3, rs⟩ := rs
  obtain ⟨v2, r2, rfl, e4, rs⟩ := rs
  have e3 : v1 = .int i := e3
  subst e3
  rw [show r2 = [] from rs]
  exact ⟨a, us, i, v2, rfl, rfl, e2, by rw [rv.length]; exact h1, h2, h3, cv _ _ _ _ _ h (ok.stC e1) (ok.chg e1 ⟨_, rfl, ((rv.take i.toNat).append (Reps.one e4)).append (reps_drop2 i.toNat rv)⟩) rfl⟩
end DL
set_option Elab.async false
set_option linter.all false
set_option maxRecDepth 100000
set_option maxHeartbeats 2000000
/-! The data layer, part zd: classes called by keyword, some keyword-only parameters left to their defaults. -/
namespace DL
open PySem PySem.Spec PyProof.Rows L2
section
variable {X : Cx} {C : Addr} {k n m : Nat} {f : Addr} {fd : FuncData} {ps ks : List Str} {perm : List Nat} {spec : Ctr} {x : Str} {p pos : Pos} {e : Expr} {es : List Expr} {kws : List Keyword} {wa wk : WPa} {dfl : List D} {dvs : List V} {us0 : List Value}
/-- C(e, .., k = v, ..): n positional values (the new instance among them), m by name or default -/
def wMakeKD (C : Addr) (N : List Str) (spec : Ctr) (n m : Nat) (perm : List Nat) (dfl : List D) (wa wk : WPa) : WPe := fun env S Q X => wa env S (fun ds S1 => wk env S1 (fun es S2 => ∀ x, S2 x = none → spec (pickK n m perm (.ref x :: ds) (es ++ dfl)) (put S2 x (.ins C N (noneV N))) (fun r S3 => r = .non ∧ Q (.ref x) S3) X) X) X
theorem pd_makeKD {N : List Str} (M : Mk X.K C f) (hN : N.Nodup) (hl : N.length ≤ 900) (F : FnD X.prog X.w X.K X.mg X.base k f fd ps spec) (hr : Room (k + 1) X.A) (hm : X.mg x = some (.ref C)) (rd : Reps X.K (fun _ => none) dfl dvs)
    (hb : KBinds X.K fd ps ks (fun us ws => pickK n m perm us (ws ++ us0)) (fun us ws => pickK n m perm us (ws ++ dvs)))
    (ha : PDa X (e :: es) wa) (hkw : PDk X kws wk) (hg : Gl X x := by rfl) (hdb : (x == ("__debug__" : Str)) = false := by decide) (hall : (backToKw pos (keywordEach kws X.env)).all (·.1.isSome) = true := by rfl) (hks : (backToKw pos (keywordEach kws X.env)).filterMap (·.1) = ks := by rfl)
    (he : starEach (e :: es) X.env = (false, eval e X.env) :: starEach es X.env := by rfl)
    (hpl : ((backTo pos (starEach (e :: es) X.env)).any (·.1) || (backToKw pos (keywordEach kws X.env)).any (·.1.isNone)) = false := by rfl) : PD X (.Call (.Name x p) (e :: es) kws pos) (wMakeKD C N spec n m perm dfl wa wk) := by
  refine ⟨fun Wx tk => ⟨fun pins s σ H Q I h => ?_⟩⟩
  obtain ⟨W, env, S, Q0, X1, ok, sl, hw, cv, cx⟩ := h
  refine wpAny_Call_Name_kw (ld_glob I hg hm ?_ hdb)
  have h1 : lA X.K Wx wa σ H fun vs H1 => lA X.K Wx wk σ H1 fun zs H2 => ∀ y dy, H2 y = none → H2 dy = none → dy ≠ y →
      lSp X.K spec (pickK n m perm (.ref y :: vs) (zs ++ dvs)) (upd (upd H2 dy (.own y)) y (.ins C dy [])) (fun v H3 => v = .non ∧ Q (.ref y) H3) fun c d H' => Wx c d σ H' := ⟨W, env, S, _, X1, ok, sl, hw, fun ds S1 vs W1 H1 h1 s1 ok1 r1 =>
    ⟨W1, env, S1, _, X1, ok1, sl.mono s1.vis, h1, fun es S2 zs W2 H2 h2 s2 ok2 r2 y dy hy hdy hne => by
      have hy2 : (upd H2 dy (HO.own y)) y = none := by rw [upd_ne (Ne.symm hne)]; exact hy
      have ok3 := (ok2.junk (o := .own y) hdy).newS (m := .ins C N (noneV N)) (o := .ins C dy []) hy2 ⟨dy, [], rfl, frep_new hN hl⟩
      have st := (ok2.stJ (o := .own y) hdy).trans (Ok.stS (m := .ins C N (noneV N)) (o := .ins C dy []) (ok2.junk (o := .own y) hdy) hy2)
      exact ⟨W2, _, pickK n m perm (.ref y :: ds) (es ++ dfl), _, X1, ok3, reps_pickK (ds := .ref y :: ds) (vs := .ref y :: vs) ⟨_, _, rfl, rfl, r1.mono s2.vis⟩ (r2.append (rd.mono same_no)), h2 y (ok2.fresh hy).2, fun d S3 v W3 H3 ⟨hd, h3⟩ s3 ok4 r4 => by
        subst hd
        exact ⟨r4, cv _ S3 _ W3 H3 h3 (s1.trans (s2.trans (st.trans s3))) ok4 rfl⟩, cx.mono (s1.trans (s2.trans st))⟩, cx.mono s1⟩, cx⟩
  refine PySem.W.callWith_KW (h₀ := X.base) I.ok.mod.kin M.kp hall (thn ((ha.run Wx tk).run pos pins s σ H _ I h1) fun us s1 ⟨vs, H1, I1, r, q⟩ => ?_) hpl he
  refine thn ((hkw.run Wx tk).run pos pins s1 σ H1 _ I1 q) fun ws s2 ⟨zs, H2, I2, rz, q2⟩ => ⟨I2.kIn, ?_⟩
  rw [hks]
  exact run_makeKS M F hr hb (passAt tk σ) I2 r rz q2
end
def MkAtKD (K : PySem.W.Frag) (C : Addr) (qual : Str) (st : Stmt) (ps ks : List Str) (n m : Nat) (perm : List Nat) (dfl : List D) : Prop := ∃ f fd, Fun K "__init__" qual st f fd ∧ Mk K C f ∧ ∃ dvs us0, Reps K (fun _ => none) dfl dvs ∧ KBinds K fd ps ks (fun us ws => pickK n m perm us (ws ++ us0)) (fun us ws => pickK n m perm us (ws ++ dvs))
def MkCKD (P : Program) (w : World) (K : PySem.W.Frag) (mg : Str → Option Value) (base : Heap) (C : Addr) (k : Nat) (ps ks : List Str) (n m : Nat) (perm : List Nat) (dfl : List D) (spec : Ctr) : Prop :=
  ∃ f fd, FnD P w K mg base k f fd ps spec ∧ Mk K C f ∧ ∃ dvs us0, Reps K (fun _ => none) dfl dvs ∧ KBinds K fd ps ks (fun us ws => pickK n m perm us (ws ++ us0)) (fun us ws => pickK n m perm us (ws ++ dvs))
theorem MkCKD.mk {P : Program} {w : World} {K : PySem.W.Frag} {mg : Str → Option Value} {base : Heap} {C : Addr} {qual : Str} {st : Stmt} {N ps ks : List Str} {k n m : Nat} {perm : List Nat} {dfl : List D} {spec : Ctr} {ws : WPs} (D : MkAtKD K C qual st ps ks n m perm dfl) (S : FnScope N ps (defScope st)) (hle : ps.length ≤ N.length)
    (len : ∀ ds S Q E, spec ds S Q E → ds.length = ps.length)
    (hd : ∀ (f : Addr) (cdv : Value) (A : Around) (outer : List Env) (s : Shared) (H : Hp) (E : XK), Room k (A.deeper (envOfC qual (defScope st) s.heap.objs.size f cdv)) → PDss (cxOf (L2.CX P w) P w K mg base N qual (defScope st) f cdv A outer s H E) (defBody st) ws)
    (hr : ∀ ds S Q X1, spec ds S Q X1 → ws (startD N ds) S (endQ Q X1)) : MkCKD P w K mg base C (k + 1) ps ks n m perm dfl spec := by
  obtain ⟨f, fd, F, hm, hb⟩ := D
  exact ⟨f, fd, fnd_mk F S hle len hd hr, hm, hb⟩
section
variable {X : Cx} {x : Str} {p pos : Pos} {e : Expr} {es : List Expr} {kws : List Keyword} {wa wk : WPa} {k n m : Nat} {perm : List Nat} {ps ks : List Str} {spec : Ctr} {C : Addr} {dfl : List D}
theorem pd_mkKD {N : List Str} (G : MkCKD X.prog X.w X.K X.mg X.base C k ps ks n m perm dfl spec) (hm : X.mg x = some (.ref C)) (hN : N.Nodup) (hl : N.length ≤ 900) (hr : Room (k + 1) X.A) (ha : PDa X (e :: es) wa) (hkw : PDk X kws wk)
    (hg : Gl X x := by rfl) (hdb : (x == ("__debug__" : Str)) = false := by decide) (hall : (backToKw pos (keywordEach kws X.env)).all (·.1.isSome) = true := by rfl) (hks : (backToKw pos (keywordEach kws X.env)).filterMap (·.1) = ks := by rfl)
    (he : starEach (e :: es) X.env = (false, eval e X.env) :: starEach es X.env := by rfl)
    (hpl : ((backTo pos (starEach (e :: es) X.env)).any (·.1) || (backToKw pos (keywordEach kws X.env)).any (·.1.isNone)) = false := by rfl) : PD X (.Call (.Name x p) (e :: es) kws pos) (wMakeKD C N spec n m perm dfl wa wk) := by
  obtain ⟨f, fd, F, M, dvs, us0, rd, hb⟩ := G
  exact pd_makeKD M hN hl F hr hm rd hb ha hkw hg hdb hall hks he hpl
end
theorem kbd_mk {K : PySem.W.Frag} {x qual : Str} {st : Stmt} {KD : Addr} {ps ks : List Str} {kws : List (Str × V)} {oc : Value} {od an : Option Addr} {osl : Array (Option Value)} {doc pm cdv ct : Value} {n m0 : Nat} {perm : List Nat} (hps : ps ≠ [])
    (hq : ∀ q ∈ kws, ∃ u, PySem.W.nsIn K KD q.1 = some (some u) ∧ RelV q.2 u)
    (h : ∀ (us ws k0 : List Value), us.length = n → ws.length = m0 → k0.length = kws.length →
      KwChain KD ((kws.map (·.1)).zip k0) (bindArgs (PySem.W.fnOf x qual (defArgs st) (defBody st) (defScope st) .none (.ref KD) doc pm an cdv ct) ⟨us, ks.zip ws⟩) (ps.zip (pick perm (us ++ (ws ++ k0))))) :
    ∃ us0, KBinds K (PySem.W.fnOf x qual (defArgs st) (defBody st) (defScope st) .none (.ref KD) doc pm an cdv ct) ps ks (fun us ws => pickK n (m0 + kws.length) perm us (ws ++ us0)) (fun us ws => pickK n (m0 + kws.length) perm us (ws ++ kws.map (·.2))) := by
  obtain ⟨k0, hl, rk, hks⟩ := kwd_vals hq
  refine ⟨k0, ?_, ?_⟩
  · intro s us ws X hlen
    unfold pickK at hlen ⊢
    rw [List.length_append, hl] at hlen ⊢
    by_cases q : us.length = n ∧ ws.length + kws.length = m0 + kws.length
    · rw [if_pos q]
      exact BindsTo.of_looks fun M => KwChain.looks X hks (h us ws k0 q.1 (by omega) hl)
    · rw [if_neg q] at hlen
      exact absurd (List.eq_nil_of_length_eq_zero hlen.symm) hps
  · intro vs us zs ws r1 r2
    unfold pickK
    rw [List.length_append, List.length_append, r1.length, r2.length, rk.length]
    by_cases q : us.length = n ∧ ws.length + k0.length = m0 + kws.length
    · rw [if_pos q, if_pos q]
      exact vals_pick (r1.append (r2.append rk)) perm
    · rw [if_neg q, if_neg q]
      exact .nil
end DL
set_option Elab.async false
set_option linter.all false
set_option maxRecDepth 100000
set_option maxHeartbeats 1000000
/-! The data layer, part ze: a local list that will not be changed any more behind a statement is taken as data from there on. -/
namespace DL
open PySem PySem.Spec PyProof.Rows L2
def wFrzV (i : Nat) (w : WPs) : WPs := fun env S q => w env S { q with nx := fun e S1 => some! (getV e i) fun d => frzD S1 d fun d2 S2 => q.nx (setV e i d2) S2 }
theorem pds_frzV {X : Cx} {st : Stmt} {w : WPs} {i : Nat} (h : PDs X st w) : PDs X st (wFrzV i w) :=
  ⟨fun Wx tk => PS.imp (h.run Wx tk) fun D σ H ⟨W, env, S, q, ok, sl, hl, hw, cs⟩ => ⟨W, env, S, _, ok, sl, hl, hw, fun e S1 σ1 W1 H1 h1 s1 ok1 sl1 hl1 => by
    obtain ⟨d, hd, h2⟩ := some!_ex h1
    obtain ⟨v, hv, rv⟩ := sl1 i d hd
    refine frz_go (Q := fun v' H2 => v' = v → D.nx σ1 H2) ok1 rv h2 (fun d2 S2 v2 W2 H2 q2 s2 ok2 r2 e2 => ?_) rfl
    subst e2
    have sl2 := (sl1.mono s2.vis).set (d := d2) (lt_of_some hv) r2
    have es : σ1.set i (some v2) = σ1 := by
      refine List.ext_getElem? fun j => ?_
      rw [List.getElem?_set]
      by_cases z : i = j
      · subst z
        rw [if_pos rfl, if_pos (lt_of_some hv), hv]
      · rw [if_neg z]
    rw [es] at sl2
    exact cs.nx _ S2 σ1 W2 H2 q2 (s1.trans s2) ok2 sl2 hl1, cs.rt, cs.bk, cs.ct, cs.xc⟩⟩
/-- list(range(n)), to be changed -/
def wListRgM (w : WPe) : WPe := fun env S Q X => w env S (fun d S1 => asI d fun n => (0 ≤ n ∧ n ≤ 16777216) ∧ ∀ p, S1 p = none → Q (.ref p) (DL.put S1 p (.lst (rngD 0 n.toNat)))) X
theorem pd_listRgM {X : Cx} {a : Expr} {w : WPe} {p pos p2 pos2 : Pos} (hc : X.calm = true) (hm : X.mg "list" = none) (hm2 : X.mg "range" = none) (ha : PD X a w) (hg : Gl X "list" := by rfl) (hg2 : Gl X "range" := by rfl)
    (na : starEach [.Call (.Name "range" p2) [a] [] pos2] X.env = (false, eval (.Call (.Name "range" p2) [a] [] pos2) X.env) :: starEach [] X.env := by rfl) (na2 : starEach [a] X.env = (false, eval a X.env) :: starEach [] X.env := by rfl) :
    PD X (.Call (.Name "list" p) [.Call (.Name "range" p2) [a] [] pos2] [] pos) (wListRgM w) :=
  ⟨fun Wx tk => PE.imp (pe_listRg hc hg hm (prg_1 hg2 hm2 (ha.run Wx tk) na2) na) fun σ H Q ⟨W, env, S, Q0, X1, ok, sl, hw, cv, cx⟩ => ⟨W, env, S, _, X1, ok, sl, hw, fun d S1 v W1 H1 h1 s1 ok1 r1 => by
    obtain ⟨n, rfl, hi, told⟩ := asI_ex h1
    exact ⟨n, r1, RgOk.of_le (Int.le_refl _) hi.2 (by decide) hi.1, fun q hq => cv _ _ _ _ _ (told q (ok1.fresh hq).2) (s1.trans (ok1.stS hq)) (ok1.newS hq ⟨_, rfl, rg_reps⟩) rfl⟩, cx⟩⟩
/-- the index of data in a list that may be data itself -/
def oIndexL : OM := fun S d ds Q => some! (seqM S d) fun xs => one ds fun e => layP S e ∧ PyData.canLayAll0 (toPs xs) = true ∧ xs.length ≤ sizeLine ∧
  ∃ (k : Nat) (y : PyData), (toPs xs)[k]? = some y ∧ PyData.eqv y (toP (resD S e)) = true ∧ (∀ (m : Nat) z, m < k → (toPs xs)[m]? = some z → PyData.eqv z (toP (resD S e)) = false) ∧ Q (.int (k : Nat)) S
theorem md_indexL {X : Cx} (hu : X.A.units + 64 < cLine) : MtR X "list.index" (lM X.K oIndexL) := by
  intro pins s σ H x vs v us Q I rx rv ⟨W, S, d, ds, Q0, ok, r, rs, ho, cv⟩
  obtain ⟨xs, e0, h⟩ := some!_ex ho
  obtain ⟨a, ws, rfl, e2, rvv⟩ := seqM_rep ok r e0
  obtain ⟨e, rfl, ⟨l1, l2⟩, c2, c3, k, y, k1, k2, k3, q⟩ := one_ex h
  obtain ⟨w, rfl, rw_⟩ := reps1 rs
  obtain ⟨u, rfl, ru⟩ := rv.one
  cases rx
  obtain ⟨z, its, n, rI, hl, eI⟩ := I.lstM e2
  obtain ⟨bs, r1⟩ := Dp.reads I _ w u (dp_lay ok rw_ l1) ru
  obtain ⟨as, r2⟩ := Dp.readsAll I _ ws its (dps_of ok.vis rvv c2) rI
  have hd := PyData.plain_of_canLay0 _ l1
  have hxs := PyData.plainAll_of_canLay0 _ c2
  have em := SeqAt.readsAll_map_plain _ _ _ hxs r2
  have at_ : ∀ (m : Nat) (t : Value), its[m]? = some t → (toPs xs)[m]? = some (SeqAt.readOf s.heap t) := fun m t ht => by
    rw [← em, List.getElem?_map, ht]; rfl
  obtain ⟨t, ht, et⟩ : ∃ t, its[k]? = some t ∧ SeqAt.readOf s.heap t = y := by
    rw [← em, List.getElem?_map] at k1
    obtain ⟨t, h1, h2⟩ := Option.map_eq_some_iff.mp k1
    exact ⟨t, h1, h2⟩
  have hk := lt_of_some ht
  have hits : its.length = xs.length := by
    have h1 := congrArg List.length em
    have h2 : ∀ xs : List D, (toPs xs).length = xs.length := fun xs => by
      induction xs with
      | nil => rfl
      | cons x r ih => show (toPs r).length + 1 = _; rw [ih]; rfl
    rw [List.length_map, h2] at h1
    exact h1
  have hz := c3
  rw [sizeLine_eq] at hz
  have hEq := SeqAt.items_plain (A := X.A) (vs := its.toArray) (by simpa using r2) r1 hxs hd (by have := Nat.min_le_right (PyData.depthAll (toPs xs)) (toP (resD S e)).depth; omega)
  generalize toP (resD S e) = de at *
  refine call_meets F.slot_list_index ⟨_, eI, rfl⟩ F.entry_list_index (F.args_list_index_2 _ _)
    (SeqAt.list_index2_found a its.toArray n none #[] u (fun j => PyData.eqv (SeqAt.readOf s.heap (its[j]?.getD .none)) de) k (by simpa using hk) (Nat.zero_le _) (by omega) (by rw [ht]; show PyData.eqv (SeqAt.readOf s.heap t) de = true; rw [et]; exact k2) ?_) ⟨eI, fun j hj => ?_, ?_⟩
  · intro m hm _ hlt
    have hm' : m < its.length := by simpa using hm
    rw [List.getElem?_eq_getElem hm']
    exact k3 m _ hlt (at_ m _ (List.getElem?_eq_getElem hm'))
  · have hj' : j < its.length := by simpa using hj
    rw [List.getElem?_eq_getElem hj']
    exact hEq _ (by simp)
  · exact ⟨.int (k : Nat), H, I.tok _, ⟨_, rfl⟩, cv _ S _ W H q Stp.refl ok rfl⟩
/-- a method of a list that may be data itself -/
def wMtL (o : OM) (wo : WPe) (wa : WPa) : WPe := fun env S Q X => wo env S (fun x S1 => some! (seqM S1 x) fun _ => wa env S1 (fun ds S2 => o S2 x ds Q) X) X
section
variable {X : Cx} {o e : Expr} {es : List Expr} {name : Str} {apos cpos : Pos} {mid : String} {om : OM} {wo : WPe} {wa : WPa}
theorem pd_lmL (slot : Slot "list" name mid) (hty : typeOf (.builtin mid) = pure (.type "method_descriptor")) (hm : MtR X mid (lM X.K om)) (ho : PD X o wo) (ha : PDa X (e :: es) wa)
    (hbase : attributeBase o name X.env (eval o X.env) = eval o X.env := by rfl)
    (hfew : ((backTo cpos (starEach (e :: es) X.env)).all (fun x => !x.1) && (backToKw cpos (keywordEach [] X.env)).all (fun x => x.1.isSome)
      && decide ((e :: es).length + ([] : List Keyword).length + (if ([] : List Keyword).isEmpty then 0 else 1) < 30)) = true := by rfl)
    (hline : (apos.endLine == cpos.line) = true := by rfl) (hs : starEach (e :: es) X.env = (false, eval e X.env) :: starEach es X.env := by rfl) (hplain : (backTo cpos (starEach es X.env)).any (·.1) = false := by rfl) :
    PD X (.Call (.Attribute o name apos) (e :: es) [] cpos) (wMtL om wo wa) :=
  ⟨fun Wx tk => PE.imp (pe_bm PySem.F.plainAttrs_list slot hty hm (ho.run Wx tk) (ha.run Wx tk) hbase hfew hline hs hplain) fun σ H Q ⟨W, env, S, Q0, X1, ok, sl, hw, cv, cx⟩ => ⟨W, env, S, _, X1, ok, sl, hw, fun d S1 v W1 H1 h1 s1 ok1 r1 => by
    obtain ⟨xs, e0, h2⟩ := some!_ex h1
    obtain ⟨a, vs, rfl, e2, rv⟩ := seqM_rep ok1 r1 e0
    exact ⟨.inl ⟨rfl, vs, SqL.of e2⟩, W1, env, S1, _, X1, ok1, sl.mono s1.vis, h2, fun ds S2 us W2 H2 h3 s2 ok2 r2 => ⟨W2, S2, _, ds, Q0, ok2, r1.mono s2.vis, r2, h3, cv.mono (s1.trans s2)⟩, cx.mono s1⟩, cx⟩⟩
end
end DL
set_option Elab.async false
set_option linter.all false
set_option maxRecDepth 100000
set_option maxHeartbeats 1000000
/-! The data layer, part zf: own classes that bring their own ==: x == y, x != y, isinstance(x, own class). -/
namespace DL
open PySem PySem.Spec PyProof.Rows L2
section
variable {prog : Program} {w : World} {A : Around} {E : Value → Shared → Prop} {s : Shared} {K : PySem.W.Frag} {x C L f : Addr} {h₀ : Heap} {m : Str → Option Value} {ox : Obj} {od : Option Obj} {b tb : Value}
theorem ne_bound {M : Model} {args : List Value} {Q : Option Value → Shared → Prop} (X : K.In s.heap) (I : PySem.W.InstAt s.heap x ox C od) (hs : PySem.W.findIn K (.ref C) "__ne__" = some (some (.builtin "object.__ne__")))
    (h : wpAny M A (call (.builtin "object.__ne__") (.ref x :: args)) (fun v => Q (some v)) E s) : wpAny M A (callSpecialIfBound? (.ref x) "__ne__" args) Q E s := by
  simp only [callSpecialIfBound?, bindSpecialIfBound?]
  refine wpAny_holding (wpAny_bind (wpAny_bind (wpAny_bind (I.type.here ((PySem.W.looks_findIn X hs).here ?_)))))
  simp only [PySem.F.cmp_object.ne.bind]
  refine wpAny_bind (wpAny_askSetting (wpAny_ite ?_))
  have fin : wpAny M A (call (.builtin "object.__ne__") ([.ref x] ++ args) >>= fun v => pure (some v)) Q E s := wpAny_bind (wpAny_mono h (fun v s' h' => wpAny_pure h') fun _ _ h' => h')
  split
  · exact wpAny_bind (wpAny_pure (wpAny_pure fin))
  · exact wpAny_tryCatch (wpAny_bind (wpAny_pure (wpAny_pure fin)))
theorem ne_entry {Q : Fin → Shared → Prop} (hu : A.units < cLine) (X : K.In s.heap) (I : PySem.W.InstAt s.heap x ox C od) (hs : PySem.W.findIn K (.ref C) "__eq__" = some (some (.ref f))) (hf : PySem.W.isFn K (.ref f) = true)
    (hcall : wpAny (model prog w) A (call (.ref f) [.ref x, b]) (fun v s' => ∃ q, v = .bool q ∧ Q (.done (.ret (.bool (!q)))) s') E s) :
    wpAny (model prog w) A (Builtin.«object.__ne__» ⟨[.ref x, b], []⟩) Q E s := by
  unfold Builtin.«object.__ne__»
  repeat (first
    | with_reducible refine wpAny_cRoomFor hu ?_
    | (refine wpAny_bind (m := callSpecialIfBound? (.ref x) (Str.ofString "__eq__") [b])
        (PySem.W.ifBound_K X I hs hf (wpAny_mono hcall (fun r s' hr => by
          obtain ⟨q, rfl, hq⟩ := hr
          repeat (first | exact hq | exact wpAny_pure hq | exact wpAny_truthy_bool hq | (refine wpAny_bind (m := truthy (.bool _)) (wpAny_truthy_bool ?_)) | wp_step)) fun _ _ e => e)))
    | wp_step)
theorem cmp_ne_K {Q : Value → Shared → Prop} (hu : A.units + 1 < cLine) (F : Fr h₀ L s.heap m) (X₀ : K.In h₀) (I : PySem.W.InstAt s.heap x ox C od) (hb : PySem.W.Looks (model prog w) s.heap (typeOf b) tb) (hn : PySem.W.notFirst K C tb = true)
    (hs : PySem.W.findIn K (.ref C) "__eq__" = some (some (.ref f))) (hf : PySem.W.isFn K (.ref f) = true) (hne : PySem.W.findIn K (.ref C) "__ne__" = some (some (.builtin "object.__ne__"))) (hm : PySem.W.mroIn K C (.type "object") = some true)
    (h : wpAny (model prog w) A.in1 (call (.ref f) [.ref x, b]) (fun v s' => ∃ q, v = .bool q ∧ Q (.bool (!q)) s') E s) : wpAny (model prog w) A (richCompare .NotEq (.ref x) b) Q E s := by
  have X := X₀.keeps F.keep
  have one : wpAny (model prog w) A (tryCompare (.ref x) "__ne__" b) (fun r s' => ∃ v, r = some v ∧ Q v s') E s := by
    unfold tryCompare
    refine wpAny_bind (ne_bound X I hne (wpAny_call (codeAny_call_builtin PySem.F.cmp_object.ne.plain PySem.F.cmpEntry_ne
      (PySem.W.check_slot PySem.F.cmpKind_ne PySem.F.cmpSplit_ne (I.type.andThen (PySem.W.looks_mroIn X hm)) (PySem.F.cmpArgs_ne _ _)
        (ne_entry (A := A.in1) (by show A.in1.units < cLine; rw [Around.in1_units]; exact hu) X I hs hf (wpAny_mono h (fun v s' hv => ?_) fun _ _ e => e))))))
    obtain ⟨q, rfl, hq⟩ := hv
    first | exact ⟨q, rfl, wpAny_pure ⟨_, rfl, hq⟩⟩ | exact ⟨q, rfl, wpAny_pure (wpAny_pure ⟨_, rfl, hq⟩)⟩
  unfold richCompare
  simp only [oneThing_ref]
  refine wpAny_holding (wpAny_bind (wpAny_cRoomFor (Nat.lt_of_succ_lt hu) ?_))
  rw [cmpInfo_NotEq]
  dsimp only
  refine wpAny_bind (I.type.here (wpAny_bind (hb.here ?_)))
  split
  · rename_i q
    have e : PySem.W.subIn K tb (.ref C) = some false := by
      rcases Bool.or_eq_true_iff.mp hn with e | e
      · rw [beq_iff_eq.mp e] at q; simp at q
      · exact beq_iff_eq.mp e
    refine wpAny_bind ((PySem.W.looks_subIn X e).here ?_)
    simp only [Bool.false_eq_true, if_false]
    refine wpAny_bind (wpAny_mono one (fun r s' z => ?_) fun _ _ e => e)
    obtain ⟨v, rfl, hq⟩ := z
    exact wpAny_pure hq
  · refine wpAny_bind (wpAny_pure ?_)
    simp only [Bool.false_eq_true, if_false]
    refine wpAny_bind (wpAny_mono one (fun r s' z => ?_) fun _ _ e => e)
    obtain ⟨v, rfl, hq⟩ := z
    exact wpAny_pure hq
end
/-! ### types -/
theorem ld_cls {M : Model} {h : Heap} {a : Addr} {o : Obj} (e : h.get? a = some o) : PySem.W.Looks M h (typeOf (.ref a)) o.cls := by
  unfold typeOf
  exact (PySem.W.Looks.ld e).andThen .now
theorem subT {K : PySem.W.Frag} {n : String} {C : Addr} (h : (fastBuiltinMro n).isSome = true) : PySem.W.subIn K (.type n) (.ref C) = some false := by
  show (fastBuiltinMro n).map (·.contains (.ref C)) = some false
  unfold fastBuiltinMro at h ⊢
  cases e : fastFind? n with
  | none => rw [e] at h; cases h
  | some x =>
    show some ((x.mro.map Value.type).contains (.ref C)) = some false
    congr 1
    have key : ∀ l : List String, (l.map Value.type).contains (Value.ref C) = false := by
      intro l
      induction l with
      | nil => rfl
      | cons y r ih => rw [List.map_cons, List.contains_cons, ih, Bool.or_false]; simp
    exact key _
section
variable {X : Cx} {pins : List (Addr × Obj)} {σ : L2.St} {H : Hp} {s : Shared}
theorem ty_looks {x : V} {u t : Value} {M : Model} (I : L2.Inv X pins σ H s) (rx : RelV x u) (ty : TyX X.K H x t) : PySem.W.Looks M s.heap (typeOf u) t := by
  cases ty with
  | base b =>
    cases b with
    | non => cases (show u = Value.none from rx); exact .of_pure rfl
    | bl y => cases (show u = Value.bool y from rx); exact .of_pure rfl
    | int i => obtain ⟨t, q⟩ := (show ∃ t, u = Value.int i t from rx); cases q; exact .of_pure rfl
    | str y => obtain ⟨t, q⟩ := (show ∃ t, u = Value.str y t from rx); cases q; exact .of_pure rfl
    | flt y => obtain ⟨t, q⟩ := (show ∃ t, u = Value.float y t from rx); cases q; exact .of_pure rfl
    | @lst a xs ea =>
      cases (show u = Value.ref a from rx)
      obtain ⟨_, _, n, _, h1⟩ := (show ObjOk X.prog X.w H s.heap a (.lst xs) from I.hok a _ ea)
      exact ld_cls h1
    | @frz a ob xs ea =>
      cases (show u = Value.ref a from rx)
      obtain ⟨_, _, _, n, _, h1⟩ := (show ObjOk X.prog X.w H s.heap a (.frz ob (.lst xs)) from I.hok a _ ea)
      exact ld_cls h1
    | @tup a xs ea =>
      cases (show u = Value.ref a from rx)
      obtain ⟨_, _, _, o, h1, h2, _⟩ := (show ObjOk X.prog X.w H s.heap a (.tup xs) from I.hok a _ ea)
      have := ld_cls (M := M) h1
      rwa [h2] at this
    | @dK a kvs ea =>
      cases (show u = Value.ref a from rx)
      obtain ⟨_, _, vs, _, o, es, ep, h1, h2, _⟩ := (show ObjOk X.prog X.w H s.heap a (.dK kvs) from I.hok a _ ea)
      have := ld_cls (M := M) h1
      rwa [h2.1] at this
    | @dT a kvs ea =>
      cases (show u = Value.ref a from rx)
      obtain ⟨_, _, xs, _, o, es, ep, h1, h2, _⟩ := (show ObjOk X.prog X.w H s.heap a (.dT kvs) from I.hok a _ ea)
      have := ld_cls (M := M) h1
      rwa [h2.1] at this
    | @ins a C dx fs ea cl ha hn htk hm =>
      cases (show u = Value.ref a from rx)
      obtain ⟨mA, O, _⟩ := ins_get I.hok ea
      obtain ⟨od, J, _⟩ := O.look
      exact J.type
  | byt y => obtain ⟨t, q⟩ := (show ∃ t, u = Value.bytes y t from rx); cases q; exact .of_pure rfl
  | @set a S n ea =>
    cases (show u = Value.ref a from rx)
    obtain ⟨o, _, _, _, e, ex, _⟩ := I.hok a _ ea
    have := ld_cls (M := M) e
    rwa [ex.1] at this
  | @kList a o e c =>
    cases (show u = Value.ref a from rx)
    have := ld_cls (M := M) (I.kIn a o e)
    rwa [c] at this
  | @kTuple a o e c =>
    cases (show u = Value.ref a from rx)
    have := ld_cls (M := M) (I.kIn a o e)
    rwa [c] at this
  | @kDict a o e c =>
    cases (show u = Value.ref a from rx)
    have := ld_cls (M := M) (I.kIn a o e)
    rwa [c] at this
  | @fTuple a ob xs ea =>
    cases (show u = Value.ref a from rx)
    obtain ⟨_, _, _, _, o, h1, h2, _⟩ := (show ObjOk X.prog X.w H s.heap a (.frz ob (.tup xs)) from I.hok a _ ea)
    have := ld_cls (M := M) h1
    rwa [h2] at this
  | @fDict a ob kvs ea =>
    cases (show u = Value.ref a from rx)
    obtain ⟨_, _, _, vs, _, o, es, ep, h1, h2, _⟩ := (show ObjOk X.prog X.w H s.heap a (.frz ob (.dK kvs)) from I.hok a _ ea)
    have := ld_cls (M := M) h1
    rwa [h2.1] at this
theorem run_in {A : Around} {CX : CXT} {k : Nat} {f : Addr} {fd : FuncData} {ps : List Str} {sp : Sp} {E : L2.St → XK} {Q : VK} {us : List Value} {vs : List V} (F : FnOk X.prog X.w X.K X.mg X.base CX k f fd ps sp) (hr : Room k A) (e0 : Env0 X.prog X.w X.K X.mg X.base A X.stack s H) (hb : Binds X.K fd ps []) (hx : PassesAt CX X σ (E σ))
    (I : L2.Inv X pins σ H s) (r : Vals vs us) (h : sp vs H Q (E σ)) : wpAny (model X.prog X.w) A (call (.ref f) us) (EP X pins σ Q) X.xe s := by
  have hl : us.length = ps.length := by rw [← r.length]; exact F.len _ _ _ _ h
  have b := hb s us I.kIn (by rw [List.append_nil]; exact hl)
  rw [List.append_nil] at b
  refine wpAny_call (codeAny_mono (F.run A X.stack s H ⟨us, []⟩ us vs Q (E σ) hr e0 b r h) fun r s' hq => ?_)
  cases r with
  | error e => exact hx pins H s e s' I hq
  | ok fl =>
    cases fl with
    | ret u => exact I.after hq
    | next => exact False.elim hq
    | brk => exact False.elim hq
    | cont => exact False.elim hq
end
/-! ### x == y and x != y by an own class's == -/
def othD (C : Addr) (N : List Str) (S : Sto) (y : D) : Prop := isIns C N S y ∨ ∃ nm, tyN S y = some nm ∧ (fastBuiltinMro nm).isSome = true
def oEqO (C : Addr) (N : List Str) (spec : Ctr) : O2 := fun S x y Q => isIns C N S x ∧ othD C N S y ∧ spec [x, y] S (fun d S' => ∃ b, d = .bl b ∧ Q (.bl b) S') (fun _ _ _ => False)
def oNeO (C : Addr) (N : List Str) (spec : Ctr) : O2 := fun S x y Q => isIns C N S x ∧ othD C N S y ∧ spec [x, y] S (fun d S' => ∃ b, d = .bl b ∧ Q (.bl (!b)) S') (fun _ _ _ => False)
theorem oth_looks {X : Cx} {pins : List (Addr × Obj)} {σ : L2.St} {H W : Hp} {s : Shared} {S : Sto} {C : Addr} {N : List Str} {y : D} {v : V} {u : Value} {M : Model} (I : L2.Inv X pins σ H s) (ok : Ok X.K W S H) (r : Rep X.K W y v) (ru : RelV v u) (h : othD C N S y) (hN : ("__eq__" : Str) ∉ N) :
    ∃ tb, PySem.W.Looks M s.heap (typeOf u) tb ∧ PySem.W.notFirst X.K C tb = true := by
  rcases h with h | ⟨nm, h1, h2⟩
  · obtain ⟨p1, dx1, fs1, rfl, at1, _⟩ := isIns_rep ok r h hN
    obtain rfl : u = Value.ref p1 := ru
    obtain ⟨_, i1, _⟩ := ins_get I.hok at1
    obtain ⟨_, J1, _⟩ := i1.look
    exact ⟨.ref C, J1.type, by unfold PySem.W.notFirst; simp⟩
  · exact ⟨.type nm, ty_looks I ru (tyN_rep ok r h1), by unfold PySem.W.notFirst; rw [subT h2]; simp⟩
theorem opd_eqO {X : Cx} {C : Addr} {k : Nat} {N ps : List Str} {spec : Ctr} (G : MtC X.prog X.w X.K X.mg X.base C k "__eq__" ps spec) (hN : ("__eq__" : Str) ∉ N) (hr : Room k X.A) :
    OpR X (compareOp .Eq) (lOp X.K (oEqO C N spec)) := fun pins s σ H x y v u Q I rx ry ⟨W, S, d1, d2, Q0, okS, rep1, rep2, ⟨in1, in2, told⟩, cv⟩ => by
  obtain ⟨f, fd, F, hmet, hbind⟩ := G
  obtain ⟨tb, hb, hn⟩ := oth_looks (M := model X.prog X.w) I okS rep2 ry in2 hN
  obtain ⟨p1, dx1, fs1, rfl, at1, _⟩ := isIns_rep okS rep1 in1 hN
  obtain rfl : v = Value.ref p1 := rx
  obtain ⟨_, i1, _⟩ := ins_get I.hok at1
  obtain ⟨_, J1, _⟩ := i1.look
  obtain ⟨_, frame⟩ := I.fr
  have call := run_in (E := fun _ _ _ _ => False) (A := X.A) (us := [.ref p1, u]) (vs := [.ref p1, y]) (Q := fun z H' => ∃ b, z = V.bl b ∧ Q (.bl b) H') F hr I.env0 hbind (fun _ _ _ _ _ _ h => (cx_no h).elim) I (.cons rfl (.cons ry .nil))
      ⟨W, S, [d1, d2], _, fun _ _ _ => False, okS, ⟨_, _, rfl, rep1, ⟨_, _, rfl, rep2, rfl⟩⟩, told, fun d S' z W' H' ⟨b, e1, h2⟩ st ok' r' => by
        subst e1
        exact ⟨b, r', cv _ S' _ W' H' h2 st ok' rfl⟩, fun _ _ _ _ _ _ _ h => h.elim⟩
  show wpAny _ X.A (richCompare .Eq (.ref p1) u) _ _ s
  refine PySem.W.cmp_K (op := .Eq) hr.units0 frame I.ok.mod.kin J1 hb hn hmet.at_ hmet.fn (wpAny_mono call (fun r s' ⟨z, H', I', rz, b, ez, q⟩ => ?_) fun _ _ h => h)
  subst ez
  obtain rfl : r = Value.bool b := rz
  exact ⟨.bl b, H', I', rfl, q⟩
theorem opd_neO {X : Cx} {C : Addr} {k : Nat} {N ps : List Str} {spec : Ctr} (G : MtC X.prog X.w X.K X.mg X.base C k "__eq__" ps spec) (hN : ("__eq__" : Str) ∉ N) (hr : Room (k + 1) X.A) (hne : PySem.W.findIn X.K (.ref C) "__ne__" = some (some (.builtin "object.__ne__"))) (hm : PySem.W.mroIn X.K C (.type "object") = some true) :
    OpR X (compareOp .NotEq) (lOp X.K (oNeO C N spec)) := fun pins s σ H x y v u Q I rx ry ⟨W, S, d1, d2, Q0, okS, rep1, rep2, ⟨in1, in2, told⟩, cv⟩ => by
  obtain ⟨f, fd, F, hmet, hbind⟩ := G
  obtain ⟨tb, hb, hn⟩ := oth_looks (M := model X.prog X.w) I okS rep2 ry in2 hN
  obtain ⟨p1, dx1, fs1, rfl, at1, _⟩ := isIns_rep okS rep1 in1 hN
  obtain rfl : v = Value.ref p1 := rx
  obtain ⟨_, i1, _⟩ := ins_get I.hok at1
  obtain ⟨_, J1, _⟩ := i1.look
  obtain ⟨_, frame⟩ := I.fr
  have call := run_in (E := fun _ _ _ _ => False) (A := X.A.in1) (us := [.ref p1, u]) (vs := [.ref p1, y]) (Q := fun z H' => ∃ b, z = V.bl b ∧ Q (.bl (!b)) H') F (Room.in1 hr) I.env0.in1 hbind (fun _ _ _ _ _ _ h => (cx_no h).elim) I (.cons rfl (.cons ry .nil))
      ⟨W, S, [d1, d2], _, fun _ _ _ => False, okS, ⟨_, _, rfl, rep1, ⟨_, _, rfl, rep2, rfl⟩⟩, told, fun d S' z W' H' ⟨b, e1, h2⟩ st ok' r' => by
        subst e1
        exact ⟨b, r', cv _ S' _ W' H' h2 st ok' rfl⟩, fun _ _ _ _ _ _ _ h => h.elim⟩
  show wpAny _ X.A (richCompare .NotEq (.ref p1) u) _ _ s
  refine cmp_ne_K (by have := hr.units; omega) frame I.ok.mod.kin J1 hb hn hmet.at_ hmet.fn hne hm (wpAny_mono call (fun r s' ⟨z, H', I', rz, b, ez, q⟩ => ?_) fun _ _ h => h)
  subst ez
  obtain rfl : r = Value.bool b := rz
  exact ⟨b, rfl, .bl (!b), H', I', rfl, q⟩
/-! ### isinstance(x, own class) -/
/-- what the written part tells of an own class -/
structure OwnC (K : PySem.W.Frag) (C : Addr) : Prop where
  cl : Cls K C
  ca : PySem.W.findIn K (.ref C) "__class__" = some (some (.builtin "object.__class__"))
  cg : PySem.W.specialIn K (.builtin "object.__class__") "__get__" = some (some (.builtin "getset_descriptor.__get__"))
  ct : PySem.W.takesIn K (.builtin "object.__class__") = some true
  mo : PySem.W.mroIn K C (.type "object") = some true
  ic : PySem.W.isClsIn K C = true
  ty : PySem.W.typeIn K (.ref C) = some (.type "type")
theorem kitT_of {K : PySem.W.Frag} {C : Addr} {n : String} (O : OwnC K C) (h : (fastBuiltinMro n).isSome = true) : PySem.W.kitOne K (.type n) (.ref C) = some false := by
  unfold PySem.W.kitOne
  rw [if_neg (by simp)]
  have e2 : ((PySem.W.clsIn K C).isSome && PySem.W.typeIn K (.ref C) == some (.type "type")) = true := by
    have h2' : (PySem.W.clsIn K C).isSome = true := O.ic
    rw [h2', O.ty] <;> rfl
  show (if ((PySem.W.clsIn K C).isSome && PySem.W.typeIn K (.ref C) == some (.type "type")) = true then PySem.W.subIn K (.type n) (.ref C) else none) = some false
  rw [if_pos e2]
  exact subT h
def wIsO (C : Addr) (N : List Str) (w : WPe) : WPe := fun env S Q X => w env S (fun d S1 => (isIns C N S1 d ∧ Q (.bl true) S1) ∨ ((∃ nm, tyN S1 d = some nm ∧ (fastBuiltinMro nm).isSome = true) ∧ Q (.bl false) S1)) X
theorem pd_isO {X : Cx} {e e2 : Expr} {w : WPe} {p pos : Pos} {C : Addr} {N : List Str} (O : OwnC X.K C) (hN : ("__eq__" : Str) ∉ N) (he : PD X e w) (hc : PE X e2 (tC (.ref C))) (hm : X.mg "isinstance" = none) (hg : Gl X "isinstance" := by rfl)
    (hs : starEach [e, e2] X.env = (false, eval e X.env) :: starEach [e2] X.env := by rfl) (hs2 : starEach [e2] X.env = [(false, eval e2 X.env)] := by rfl) (hpl : (backTo pos (starEach [e2] X.env)).any (·.1) = false := by rfl) :
    PD X (.Call (.Name "isinstance" p) [e, e2] [] pos) (wIsO C N w) :=
  ⟨fun Wx tk => PE.imp (pe_callB call_isi hg hm (by decide +kernel) (pa_cons (he.run Wx tk) (pa_cons hc pa_nil hs2) hs) (by decide) (by decide) hs hpl) fun σ H Q ⟨W, env, S, Q0, X1, ok, sl, hw, cv, cx⟩ => ⟨W, env, S, _, X1, ok, sl, hw, fun d S1 v W1 H1 h1 s1 ok1 r1 => by
    rcases h1 with ⟨hi, h1⟩ | ⟨⟨nm, e1, e2⟩, h1⟩
    · obtain ⟨a, dx, fs, rfl, hat, _⟩ := isIns_rep ok1 r1 hi hN
      exact ⟨.ref a, .ref C, .ref C, .ref C, true, rfl, .own C, .base (.ins hat O.cl O.ca O.cg O.ct O.mo), kit_self, cv _ S1 _ W1 H1 h1 s1 ok1 rfl⟩
    · exact ⟨v, .ref C, .type nm, .ref C, false, rfl, .own C, tyN_rep ok1 r1 e1, kitT_of O e2, cv _ S1 _ W1 H1 h1 s1 ok1 rfl⟩, cx⟩⟩
theorem mro_non : (fastBuiltinMro "NoneType").isSome = true := by decide +kernel
theorem mro_int : (fastBuiltinMro "int").isSome = true := by decide +kernel
theorem mro_str : (fastBuiltinMro "str").isSome = true := by decide +kernel
theorem mro_tup : (fastBuiltinMro "tuple").isSome = true := by decide +kernel
theorem mro_lst : (fastBuiltinMro "list").isSome = true := by decide +kernel
theorem mro_bl : (fastBuiltinMro "bool").isSome = true := by decide +kernel
end DL
set_option Elab.async false
set_option linter.all false
set_option maxRecDepth 100000
set_option maxHeartbeats 1000000
/-! The data layer, part zg: a def that calls itself, called while an exception is handled. -/
namespace DL
open PySem PySem.Spec PyProof.Rows L2
section
variable {P : Program} {w : World} {K : PySem.W.Frag} {mg : Str → Option Value} {base : Heap} {x qual : Str} {st : Stmt} {ps : List Str} {k : Nat}
theorem FnTC.zero (D : DefAt K mg x qual st ps) : FnTC P w K mg base k x ps (fun _ _ _ _ _ _ _ => False) := by
  obtain ⟨f, fd, F, hm, hb⟩ := D
  exact ⟨fun _ _ _ _ _ _ _ _ h => h, f, fd, ⟨fun _ _ _ _ _ _ _ h => h.elim, fun _ _ _ _ _ _ _ _ _ _ _ _ _ _ _ _ _ _ _ _ ⟨_, _, _, _, _, _, _, h, _⟩ => h.elim⟩, hm, F.kp, hb⟩
theorem FnTC.imp {spec spec' : Addr → Addr → Addr → Ctr} (F : FnTC P w K mg base k x ps spec) (nox : ∀ a dd C ds S Q E E', spec' a dd C ds S Q E → spec' a dd C ds S Q E') (h : ∀ a dd C ds S Q X1, spec' a dd C ds S Q X1 → spec a dd C ds S Q X1) : FnTC P w K mg base k x ps spec' := by
  obtain ⟨_, f, fd, G, r⟩ := F
  exact ⟨nox, f, fd, ⟨fun a dd C ds S Q E z => G.len a dd C ds S Q E (h _ _ _ _ _ _ _ z), fun a dd C oe A outer s H args us vs Q h1 h2 h3 h4 h5 h6 h7 h8 ⟨W, S, ds, Q0, X1, ok, rr, hs, cv, cx⟩ =>
    G.run a dd C oe A outer s H args us vs Q h1 h2 h3 h4 h5 h6 h7 h8 ⟨W, S, ds, Q0, X1, ok, rr, h _ _ _ _ _ _ _ hs, cv, cx⟩⟩, r⟩
theorem FnTC.mono {spec : Addr → Addr → Addr → Ctr} {k' : Nat} (F : FnTC P w K mg base k x ps spec) (h : k ≤ k') : FnTC P w K mg base k' x ps spec := by
  obtain ⟨nox, f, fd, G, r⟩ := F
  exact ⟨nox, f, fd, ⟨G.len, fun a dd C oe A outer s H args us vs Q h1 => G.run a dd C oe A outer s H args us vs Q (h1.mono h)⟩, r⟩
end
/-! ### a statement that is never reached -/
def wNever : WPs := fun _ _ _ => False
theorem pds_never {X : Cx} {st : Stmt} : PDs X st wNever := ⟨fun Wx tk => ⟨fun pins s σ H D I h => by
  obtain ⟨_, _, _, _, _, _, _, z, _⟩ := h
  exact z.elim⟩⟩
end DL
set_option Elab.async false
set_option linter.all false
set_option maxRecDepth 100000
set_option maxHeartbeats 1000000
namespace K09
open PySem PySem.Spec PyProof.Rows L2 DL
structure Cl where
  K : PySem.W.Frag
  Net : Addr
  LayerReader : Addr
  Sums : Addr
  ServeError : Addr
  InvalidNumber : Addr
  InvalidLetter : Addr
  InvalidRow : Addr
  TooMany : Addr
  Undefined : Addr
  exL : PySem.W.exmOne K (.ref InvalidLetter) (.ref InvalidLetter) = some true
  kLo : PySem.W.kitAny K (.ref InvalidLetter) [.ref InvalidNumber, .ref InvalidRow, .ref TooMany, .ref Undefined] = some false
  kLs : PySem.W.kitOne K (.ref InvalidLetter) (.ref ServeError) = some true
  isL : IsC K InvalidLetter
  xfL : XfC K InvalidLetter ∧ PySem.W.findIn K (.ref InvalidLetter) "letter" = some none
/-- a value whose class is known -/
def Kn (S : Sto) (d : D) : Prop := ∃ n, tyN S d = some n
def inR (l m : Int) (d : D) : Bool := match d with
  | .int v => decide (l ≤ v ∧ v ≤ m)
  | _ => false
def isLet (L : Nat) (d : D) : Bool := inR 0 ((L : Int) - 1) d
def N_Net : List Str := ["prime", "embed", "shift", "layers", "out", "end"]
def N_Sums : List Str := ["net", "count", "matrices"]
def N_LayerReader : List Str := ["net", "count", "ahead", "pairs", "matrices"]
def Ext (S S' : Sto) : Prop := ∀ a m, S a = some m → S' a = some m
/-! ### nets -/
abbrev Vec := List Int
abbrev Mat := List Vec
structure Lay where
  q : Mat
  k : Mat
  v : Mat
  f : Mat
  s : Mat
structure NetV where
  prime : Int
  embed : Mat
  shift : Vec
  layers : List Lay
  out : Mat
structure Rw where
  pairs : List (Vec × Vec)
  wts : Vec
def dM (m : Mat) : D := .tup (m.map dT)
def dLay (l : Lay) : D := .tup [dM l.q, dM l.k, dM l.v, dM l.f, dM l.s]
def dNetT (n : NetV) : D := .tup [.int n.prime, dM n.embed, dT n.shift, .tup (n.layers.map dLay), dM n.out]
def dO (o : Option Int) : D := match o with
  | none => .non
  | some i => .int i
def netF (n : NetV) (e : Option Int) : List D := [.int n.prime, dM n.embed, dT n.shift, .tup (n.layers.map dLay), dM n.out, dO e]
def dNet (c : Cl) (n : NetV) (e : Option Int) : D := .obj c.Net N_Net (netF n e)
def dP (p : Vec × Vec) : D := .tup [dT p.1, dT p.2]
def dRw (r : Rw) : D := .tup [.tup (r.pairs.map dP), dT r.wts]
def psum (a b : Vec) : Int := (List.zipWith (· * ·) a b).sum
def timesF (p : Int) (m : Mat) (v : Vec) : Vec := m.map fun r => psum r v % p
def plusF (p : Int) (a b : Vec) : Vec := List.zipWith (fun x y => (x + y) % p) a b
def lookF (p : Int) (q : Vec) (pairs : List (Vec × Vec)) : Vec := pairs.foldl (fun f kv => plusF p f (kv.2.map (psum q kv.1 * ·))) (q.map fun _ => 0)
def pairF (p : Int) (l : Lay) (x : Vec) : Vec × Vec := (timesF p l.k x, timesF p l.v x)
def beforeF (rows : List Rw) (i : Nat) : List (Vec × Vec) := rows.map fun w => w.pairs.getD i ([], [])
def nextX (p : Int) (bef : List (Vec × Vec)) (l : Lay) (x : Vec) : Vec :=
  let x1 := plusF p x (lookF p (timesF p l.q x) (bef ++ [pairF p l x]))
  plusF p x1 (timesF p l.s ((timesF p l.f x1).map fun n => n * n))
def stepL (p : Int) (rows : List Rw) (st : List (Vec × Vec) × Vec) (l : Lay) : List (Vec × Vec) × Vec := (st.1 ++ [pairF p l st.2], nextX p (beforeF rows st.1.length) l st.2)
def x0F (n : NetV) (rows : List Rw) (l : Int) : Vec := plusF n.prime (n.embed.getD l.toNat []) (n.shift.map ((rows.length : Int) * ·))
def rowF (n : NetV) (rows : List Rw) (l : Int) : Rw :=
  let st := n.layers.foldl (stepL n.prime rows) ([], x0F n rows l)
  ⟨st.1, n.out.map fun v => 1 + psum v st.2 % n.prime⟩
def rowsF (n : NetV) (ls : Vec) : List Rw := ls.foldl (fun rows l => rows ++ [rowF n rows l]) []
/-- small numbers -/
def Sm (v : Vec) : Prop := ∀ x, x ∈ v → 0 ≤ x ∧ x < 1000000
def Wd (w : Nat) (v : Vec) : Prop := v.length = w ∧ Sm v
def MatOk (w : Nat) (m : Mat) : Prop := ∀ v, v ∈ m → Wd w v
def LayOk (w : Nat) (l : Lay) : Prop := (l.q.length = w ∧ MatOk w l.q) ∧ (l.k.length = w ∧ MatOk w l.k) ∧ (l.v.length = w ∧ MatOk w l.v) ∧ (l.f.length = w ∧ MatOk w l.f) ∧ (l.s.length = w ∧ MatOk w l.s)
def thePrimes : List Int := [2, 3, 5, 7, 11, 13, 17, 19, 23, 29, 31, 37, 41, 43, 47, 53, 59, 61, 67, 71, 73, 79, 83, 89, 97]
structure NetOk (w L : Nat) (n : NetV) : Prop where
  w1 : 1 ≤ w ∧ w ≤ 4
  l1 : 1 ≤ L ∧ L ≤ 12
  pr : n.prime ∈ thePrimes
  em : n.embed.length = L ∧ MatOk w n.embed
  sh : Wd w n.shift
  la : n.layers.length ≤ 3 ∧ ∀ l, l ∈ n.layers → LayOk w l
  ou : n.out.length = L ∧ MatOk w n.out
structure RwOk (w L m : Nat) (r : Rw) : Prop where
  pa : r.pairs.length = m ∧ ∀ p, p ∈ r.pairs → Wd w p.1 ∧ Wd w p.2
  wt : r.wts.length = L ∧ ∀ x, x ∈ r.wts → 1 ≤ x ∧ x ≤ 97
def RowsOk (w L m : Nat) (rows : List Rw) : Prop := rows.length ≤ 50000 ∧ ∀ r, r ∈ rows → RwOk w L m r
def LetsOk (L : Nat) (ls : Vec) : Prop := ∀ l, l ∈ ls → 0 ≤ l ∧ l < (L : Int)
/-- a matrix, some layers, as they may be read at a store -/
def MatAt (S : Sto) (d : D) (m : Mat) : Prop := ∃ ds, seqA S d = some ds ∧ ds.length = m.length ∧ ∀ (i : Nat) x v, ds[i]? = some x → m[i]? = some v → seqA S x = some (v.map D.int)
def lay5 (l : Lay) : List Mat := [l.q, l.k, l.v, l.f, l.s]
def LayAt (S : Sto) (d : D) (l : Lay) : Prop := ∃ gs, seqA S d = some gs ∧ gs.length = 5 ∧ ∀ (j : Nat) g m, gs[j]? = some g → (lay5 l)[j]? = some m → MatAt S g m
def LaysAt (S : Sto) (d : D) (ls : List Lay) : Prop := ∃ ds, seqA S d = some ds ∧ ds.length = ls.length ∧ ∀ (i : Nat) x l, ds[i]? = some x → ls[i]? = some l → LayAt S x l
def isInt (d : D) : Bool := match d with
  | .int _ => true
  | _ => false
def sp_is_between (c : Cl) : Ctr := fun ds S Q _ => ∃ d, ∃ l m : Int, ds = [d, .int l, .int m] ∧ Kn S d ∧ Q (.bl (inR l m d)) S
def sp_vector_of (c : Cl) : Ctr := fun ds S Q _ => ∃ (v : Vec) (d : D), ds = [d] ∧ seqA S d = some (v.map D.int) ∧ Q (dT v) S
def sp_matrix_of (c : Cl) : Ctr := fun ds S Q _ => ∃ (m : Mat) (d : D), ds = [d] ∧ MatAt S d m ∧ m.length ≤ 1000 ∧ Q (dM m) S
def sp_product_sum (c : Cl) : Ctr := fun ds S Q _ => ∃ i j a b, ds = [dR i a, dR j b] ∧ Sm a ∧ Sm b ∧ Q (.int (psum a b)) S
def sp_Net_init (c : Cl) : Ctr := fun ds S Q _ => ∃ a w L n e d1 d2 d3 d4, ds = [.ref a, .int n.prime, d1, d2, d3, d4, dO e] ∧ NetOk w L n ∧ MatAt S d1 n.embed ∧ seqA S d2 = some (n.shift.map D.int) ∧ LaysAt S d3 n.layers ∧ MatAt S d4 n.out ∧ S a = some (.ins c.Net N_Net (noneV N_Net)) ∧ Q .non (put S a (.ins c.Net N_Net ((netF n e).map some)))
def sp_Net_is_letter (c : Cl) : Ctr := fun ds S Q _ => ∃ n e d, ds = [dNet c n e, d] ∧ Kn S d ∧ Q (.bl (isLet n.embed.length d)) S
def sp_Net_rest (c : Cl) : Ctr := fun ds S Q _ => ∃ n e v, ds = [dNet c n e, .int v] ∧ 0 < n.prime ∧ Q (.int (v % n.prime)) S
def sp_Net_times (c : Cl) : Ctr := fun ds S Q _ => ∃ n e m j v, ds = [dNet c n e, dM m, dR j v] ∧ 0 < n.prime ∧ m.length ≤ 1000 ∧ (∀ r, r ∈ m → Sm r) ∧ Sm v ∧ Q (dT (timesF n.prime m v)) S
def sp_Net_plus (c : Cl) : Ctr := fun ds S Q _ => ∃ n e i j a b, ds = [dNet c n e, dR i a, dR j b] ∧ 0 < n.prime ∧ a.length ≤ 1000 ∧ Q (dT (plusF n.prime a b)) S
/-- plain data of a depth: None, bools, ints, texts, tuples, lists -/
def plain : Nat → D → Prop
  | _, .non => True
  | _, .bl _ => True
  | _, .int _ => True
  | _, .str x => PyData.strOk x = true
  | 0, .tup _ => False
  | 0, .lst _ => False
  | n + 1, .tup xs => xs.length ≤ 1000 ∧ ∀ x, x ∈ xs → plain n x
  | n + 1, .lst xs => xs.length ≤ 1000 ∧ ∀ x, x ∈ xs → plain n x
  | _, _ => False
/-- what may stand among letters -/
def Fine (d : D) : Prop := (∀ S, Kn S d) ∧ plain 5 d
def firstBad (L : Nat) (xs : List D) : Option D := xs.find? fun d => !isLet L d
/-- a row of any things, a tuple or a list -/
def dS (l : Bool) (xs : List D) : D := match l with
  | true => .tup xs
  | false => .lst xs
/-! ### sums of pairs -/
/-- the sum of the pairs' products, as a matrix -/
def sumMat (p : Int) (w : Nat) (prs : List (Vec × Vec)) : Mat := (List.range w).map fun i => (List.range w).map fun k => ((prs.map fun pr => pr.2.getD i 0 * pr.1.getD k 0).sum) % p
def sumsOf (n : NetV) (kept : List Rw) : List Mat := (List.range n.layers.length).map fun i => sumMat n.prime n.shift.length (beforeF kept i)
/-- a row over the kept ones -/
def rowB (n : NetV) (cnt : Nat) (kept : List Rw) (l : Int) : Rw :=
  let st := n.layers.foldl (stepL n.prime kept) ([], plusF n.prime (n.embed.getD l.toNat []) (n.shift.map ((cnt : Int) * ·)))
  ⟨st.1, n.out.map fun v => 1 + psum v st.2 % n.prime⟩
/-- with a pair, times times -/
def withF (p : Int) (m : Mat) (pr : Vec × Vec) (t : Int) : Mat := List.zipWith (fun row wo => List.zipWith (fun old nu => (old + t * wo * nu) % p) row pr.1) m pr.2
def sp_no_matrix (c : Cl) : Ctr := fun ds S Q _ => ∃ w : Nat, ds = [.int (w : Nat)] ∧ w ≤ 4 ∧ ∀ p, 0 < p → Q (dM (sumMat p w [])) S
def sp_with_pair (c : Cl) : Ctr := fun ds S Q _ => ∃ n e m pr t w L, ds = [dNet c n e, dM m, dP pr, .int t] ∧ NetOk w L n ∧ (m.length = w ∧ MatOk w m) ∧ (Wd w pr.1 ∧ Wd w pr.2) ∧ (t = 1 ∨ t = -1) ∧ ∀ S', Ext S S' → Q (dM (withF n.prime m pr t)) S'
def rdF (c : Cl) (n : NetV) (e : Option Int) (cnt : Nat) (mats : List Mat) (P M : Addr) : MO := .ins c.LayerReader N_LayerReader [some (dNet c n e), some (.int (cnt : Nat)), some (.tup (mats.map dM)), some (.ref P), some (.ref M)]
def sp_LayerReader_init (c : Cl) : Ctr := fun ds S Q _ => ∃ R n e cnt mats, ds = [.ref R, dNet c n e, .int (cnt : Nat), .tup (mats.map dM)] ∧ S R = some (.ins c.LayerReader N_LayerReader (noneV N_LayerReader)) ∧
  ∀ P M S', S P = none → S M = none → P ≠ M → S' R = some (rdF c n e cnt mats P M) → S' P = some (.lst []) → S' M = some (.lst []) → (∀ a m, a ≠ R → S a = some m → S' a = some m) → Q .non S'
def sp_LayerReader_read (c : Cl) : Ctr := fun ds S Q _ => ∃ R n e cnt kept P M l w L, ds = [.ref R, .int l] ∧ NetOk w L n ∧ RowsOk w L n.layers.length kept ∧ cnt ≤ 50000 ∧ (0 ≤ l ∧ l < (L : Int)) ∧ S R = some (rdF c n e cnt (sumsOf n kept) P M) ∧ S P = some (.lst []) ∧ S M = some (.lst []) ∧ P ≠ M ∧ P ≠ R ∧ M ≠ R ∧
  ∀ S', S' R = some (rdF c n e cnt (sumsOf n kept) P M) → S' P = some (.lst ((rowB n cnt kept l).pairs.map dP)) → S' M = some (.lst ((sumsOf n (kept ++ [rowB n cnt kept l])).map dM)) → (∀ a m, a ≠ P → a ≠ M → S a = some m → S' a = some m) → Q (dT (rowB n cnt kept l).wts) S'
/-! ### the law -/
def poolMO (cells : Vec) (at_ big seed : Int) : MO := .lst [dL cells, .int at_, .int big, .int seed]
def PoolAt (S : Sto) (p : Addr) : Prop := ∃ cells at_ big seed, S p = some (poolMO cells at_ big seed) ∧ cells.length ≤ 63 ∧ 0 ≤ at_ ∧ (0 ≤ seed ∧ seed < 2305843009213693951)
/-- a draw's way: the pool has changed, nothing else that stood -/
structure Dr (p : Addr) (S S' : Sto) : Prop where
  po : PoolAt S' p
  ex : ∀ a m, a ≠ p → S a = some m → S' a = some m
def dML (m : Mat) : D := .lst (m.map dL)
def dLayL (l : Lay) : D := .tup ((lay5 l).map dML)
def dPlan (n : NetV) (e : Option Int) : D := .lst [.int n.prime, dML n.embed, dL n.shift, .lst (n.layers.map dLayL), dML n.out, dO e]
def sp__law_pool (c : Cl) : Ctr := fun ds S Q _ => ∃ cells : List Int, ds = [.fro (cells.map D.int)] ∧ cells.length ≤ 63 ∧ ∀ p S', S p = none → PoolAt S' p → Ext S S' → Q (.ref p) S'
def sp__law_draw (c : Cl) : Ctr := fun ds S Q _ => ∃ p m, ds = [.ref p, .int m] ∧ PoolAt S p ∧ (0 < m ∧ m ≤ 1000000000000000000000000000000) ∧ ∀ r S', (0 ≤ r ∧ r < m) → Dr p S S' → Q (.int r) S'
def sp__law_number (c : Cl) : Ctr := fun ds S Q _ => ∃ p pr, ds = [.ref p, .int pr] ∧ PoolAt S p ∧ pr ∈ thePrimes ∧ ∀ r S', (0 ≤ r ∧ r < 1000) → Dr p S S' → Q (.int r) S'
def sp__law_matrix (c : Cl) : Ctr := fun ds S Q _ => ∃ p pr w, ds = [.ref p, .int pr, .int (w : Nat)] ∧ PoolAt S p ∧ pr ∈ thePrimes ∧ (1 ≤ w ∧ w ≤ 4) ∧ ∀ m S', (m.length = w ∧ MatOk w m) → Dr p S S' → Q (dML m) S'
def sp__law_net (c : Cl) : Ctr := fun ds S Q _ => ∃ p pr L w k, ds = [.ref p, .int pr, .int (L : Nat), .int (w : Nat), .int (k : Nat)] ∧ PoolAt S p ∧ pr ∈ thePrimes ∧ (1 ≤ L ∧ L ≤ 12) ∧ (1 ≤ w ∧ w ≤ 4) ∧ k ≤ 3 ∧ ∀ n e S', NetOk w L n → n.prime = pr → n.layers.length = k → Dr p S S' → Q (dPlan n e) S'
def sp__law_wide_net (c : Cl) : Ctr := fun ds S Q _ => ∃ p, ds = [.ref p] ∧ PoolAt S p ∧ ∀ n e w L S', NetOk w L n → Dr p S S' → Q (dPlan n e) S'
/-- the copy of a plan, to be changed: how it may be read, and what is fresh -/
def isRow (m : MO) : Prop := ∃ x r, m = .lst (.int x :: r)
def isGrid (m : MO) : Prop := ∃ (v : Vec) (r : List D), v.length ≤ 100 ∧ m = .lst (dL v :: r)
structure OneAt (S0 S : Sto) (ea es el eo : Addr) (rs os : List Addr) (ly : List (List Addr)) (n : NetV) : Prop where
  e1 : S ea = some (.lst (rs.map D.ref)) ∧ rs ≠ []
  e2 : S eo = some (.lst (os.map D.ref)) ∧ os ≠ []
  e3 : S el = some (.lst (ly.map fun gs => D.tup (gs.map D.ref)))
  e4 : ∃ m, S es = some m ∧ isRow m
  r1 : ∀ r, r ∈ rs ++ os → ∃ m, S r = some m ∧ isRow m
  r2 : ∀ gs, gs ∈ ly → gs.length = 5 ∧ ∀ g, g ∈ gs → ∃ m, S g = some m ∧ isGrid m
  fr : ∀ a, a ∈ ea :: es :: el :: eo :: (rs ++ os ++ ly.flatten) → S0 a = none
  l3 : ly.length ≤ 3
def sp__law_copy (c : Cl) : Ctr := fun ds S Q _ => ∃ n e w L, ds = [dPlan n e] ∧ NetOk w L n ∧ ∀ ea es el eo rs os ly S', Ext S S' → OneAt S S' ea es el eo rs os ly n → MatAt S' (.ref ea) n.embed → seqA S' (.ref es) = some (n.shift.map D.int) → LaysAt S' (.ref el) n.layers → MatAt S' (.ref eo) n.out →
  Q (.lst [.int n.prime, .ref ea, .ref es, .ref el, .ref eo, dO e]) S'
def sp__law_made (c : Cl) : Ctr := fun ds S Q _ => ∃ n e w L b, ds = [dPlan n e, .bl b] ∧ NetOk w L n ∧ ∀ S', Ext S S' → Q (dNet c n e) S'
def sp__law_same_n (c : Cl) (n : Nat) : Ctr := fun ds S Q _ => match n with
  | 0 => False
  | n + 1 => ∃ d, ds = [d, d] ∧ plain n d ∧ Q (.bl true) S
def sp__law_same (c : Cl) : Ctr := fun ds S Q _ => ∃ d, ds = [d, d] ∧ plain 7 d ∧ Q (.bl true) S
/-! ### sums -/
def SumsAt (c : Cl) (S : Sto) (a : Addr) (n : NetV) (e : Option Int) (rows : List Rw) : Prop := S a = some (.ins c.Sums N_Sums [some (dNet c n e), some (.int (rows.length : Nat)), some (.tup ((sumsOf n rows).map dM))])
def begD (n : NetV) (rows : List Rw) : D := .tup [.int ((rows.length : Int) % n.prime), .tup ((sumsOf n rows).map dM)]
def begK (n : NetV) (rows : List Rw) : Int × List Mat := ((rows.length : Int) % n.prime, sumsOf n rows)
def sp_Sums_init (c : Cl) : Ctr := fun ds S Q _ => ∃ a n e w L, ds = [.ref a, dNet c n e] ∧ NetOk w L n ∧ S a = some (.ins c.Sums N_Sums (noneV N_Sums)) ∧ ∀ S', SumsAt c S' a n e [] → (∀ x m, x ≠ a → S x = some m → S' x = some m) → Q .non S'
def sp_Sums_read (c : Cl) : Ctr := fun ds S Q E => ∃ a n e rows d w L, ds = [.ref a, d] ∧ NetOk w L n ∧ RowsOk w L n.layers.length rows ∧ rows.length ≤ 45000 ∧ SumsAt c S a n e rows ∧ Kn S d ∧ (isLet L d = false → E c.InvalidLetter [("letter", d)] S) ∧
  (∀ l, d = .int l → 0 ≤ l ∧ l < (L : Int) → ∀ S', SumsAt c S' a n e (rows ++ [rowF n rows l]) → (∀ x m, x ≠ a → S x = some m → S' x = some m) → Q (dT (rowF n rows l).wts) S')
def sp_Sums_twin (c : Cl) : Ctr := fun ds S Q _ => ∃ a n e rows w L, ds = [.ref a] ∧ NetOk w L n ∧ SumsAt c S a n e rows ∧ ∀ b S', S b = none → SumsAt c S' b n e rows → Ext S S' → Q (.ref b) S'
def sp_Sums___eq__ (c : Cl) : Ctr := fun ds S Q _ => ∃ a n e rows, 0 < n.prime ∧ SumsAt c S a n e rows ∧
  ((∃ b n' e' rows', ds = [.ref a, .ref b] ∧ 0 < n'.prime ∧ SumsAt c S b n' e' rows' ∧ Q (.bl (decide (rows.length = rows'.length) && decide (begK n rows = begK n' rows'))) S) ∨
   (∃ d nm, ds = [.ref a, d] ∧ tyN S d = some nm ∧ (fastBuiltinMro nm).isSome = true ∧ Q (.bl false) S))
def sp_Sums_state (c : Cl) : Ctr := fun ds S Q _ => ∃ a n e rows, ds = [.ref a] ∧ 0 < n.prime ∧ SumsAt c S a n e rows ∧ Q (begD n rows) S
def sp_sums_behind (c : Cl) : Ctr := fun ds S Q E => ∃ n e d xs w L, ds = [dNet c n e, d] ∧ NetOk w L n ∧ seqA S d = some xs ∧ xs.length ≤ 40000 ∧ (∀ x, x ∈ xs → ∀ S, Kn S x) ∧
  (∀ b, firstBad L xs = some b → E c.InvalidLetter [("letter", b)] S) ∧ (∀ ls : Vec, xs = ls.map D.int → LetsOk L ls → ∀ a S', Ext S S' → S a = none → SumsAt c S' a n e (rowsF n ls) → Q (.ref a) S')
/-! ### the law's own -/
def sp__law_times (c : Cl) : Ctr := fun ds S Q _ => ∃ m v p, ds = [dML m, dL v, .int p] ∧ m.length ≤ 1000 ∧ (∀ r, r ∈ m → r.length = v.length ∧ Sm r) ∧ v.length ≤ 1000 ∧ Sm v ∧ 0 < p ∧ Q (dL (timesF p m v)) S
def sp__law_row (c : Cl) : Ctr := fun ds S Q _ => ∃ n e d rows l b w L, ds = [dPlan n e, d, .int l, .int (b : Nat)] ∧ seqM S d = some (rows.map dRw) ∧ b ≤ rows.length ∧ NetOk w L n ∧ RowsOk w L n.layers.length rows ∧ (0 ≤ l ∧ l < (L : Int)) ∧ ∀ S', Ext S S' → Q (dRw (rowB n rows.length (rows.drop b) l)) S'
/-- what is no letter: its class is known, and it is plain -/
def Odd (L : Nat) (d : D) : Prop := isLet L d = false ∧ (∀ S, Kn S d) ∧ plain 5 d
def sp__law_no_letter (c : Cl) : Ctr := fun ds S Q _ => ∃ p L, ds = [.ref p, .int (L : Nat)] ∧ PoolAt S p ∧ (1 ≤ L ∧ L ≤ 12) ∧ ∀ d S', Odd L d → Dr p S S' → Q d S'
def sp__law_grids (c : Cl) : Ctr := fun ds S Q _ => ∃ n e d rows w L, ds = [dPlan n e, d] ∧ seqA S d = some (rows.map dRw) ∧ NetOk w L n ∧ RowsOk w L n.layers.length rows ∧ ∀ S', Ext S S' → Q (.tup ((sumsOf n rows).map dM)) S'
def sp__law_read (c : Cl) : Ctr := fun ds S Q _ => ∃ a n e rows d w L, ds = [.ref a, d] ∧ NetOk w L n ∧ RowsOk w L n.layers.length rows ∧ rows.length ≤ 45000 ∧ SumsAt c S a n e rows ∧ Kn S d ∧ (isLet L d = false → ∀ S', Ext S S' → Q (.tup [.str "letter", d]) S') ∧
  (∀ l, d = .int l → 0 ≤ l ∧ l < (L : Int) → ∀ S', SumsAt c S' a n e (rows ++ [rowF n rows l]) → (∀ x m, x ≠ a → S x = some m → S' x = some m) → Q (.tup [.str "told", dT (rowF n rows l).wts]) S')
/-! ### plans, nets, and what is read of them -/
abbrev Pl := NetV × Option Int
def dPlans (ps : List Pl) : D := .lst (ps.map fun p => dPlan p.1 p.2)
def dNets (c : Cl) (ps : List Pl) : D := .lst (ps.map fun p => dNet c p.1 p.2)
def PsOk (ps : List Pl) : Prop := ps.length = 2 ∧ ∀ p, p ∈ ps → ∃ w L, NetOk w L p.1
structure Rec where
  a : Addr
  i : Nat
  ll : Addr
  rr : Addr
  ls : Vec
def dRec (r : Rec) : D := .lst [.ref r.a, .int (r.i : Nat), .ref r.ll, .ref r.rr]
structure RecAt (c : Cl) (S : Sto) (ps : List Pl) (r : Rec) (n : NetV) (e : Option Int) (w L : Nat) : Prop where
  ix : ps[r.i]? = some (n, e)
  hn : NetOk w L n
  lo : LetsOk L r.ls
  le : r.ls.length ≤ 1000
  su : SumsAt c S r.a n e (rowsF n r.ls)
  hl : S r.ll = some (.lst (r.ls.map D.int))
  hr : S r.rr = some (.lst ((rowsF n r.ls).map dRw))
def adr (r : Rec) : List Addr := [r.a, r.ll, r.rr]
structure AllR (c : Cl) (S : Sto) (ps : List Pl) (A p : Addr) (B : Nat) (rs : List Rec) : Prop where
  at_ : S A = some (.lst (rs.map dRec))
  ok : ∀ r, r ∈ rs → (∃ n e w L, RecAt c S ps r n e w L) ∧ r.ls.length ≤ B
  ne : ∀ r, r ∈ rs → A ∉ adr r ∧ p ∉ adr r ∧ r.ll ≠ r.rr
  nd : ∀ (i j : Nat) r s, i ≠ j → rs[i]? = some r → rs[j]? = some s → ∀ x, x ∈ adr r → x ∉ adr s
  len : 2 ≤ rs.length ∧ rs.length ≤ 6
  po : PoolAt S p
  nA : A ≠ p
def sp__law_own (c : Cl) : Ctr := fun ds S Q _ => ∃ ps r n e w L, ds = [dPlans ps, dRec r] ∧ RecAt c S ps r n e w L ∧ ∀ S', Ext S S' → Q (begD n (rowsF n r.ls)) S'
def sp__law_is_so (c : Cl) : Ctr := fun ds S Q _ => ∃ ps r n e w L, ds = [dPlans ps, dRec r] ∧ RecAt c S ps r n e w L ∧ ∀ S', Ext S S' → Q (.bl true) S'
def withLs (r : Rec) (ls : Vec) : Rec := { r with ls := ls }
def sp__law_reads (c : Cl) : Ctr := fun ds S Q _ => ∃ p ps r n e w L, ds = [.ref p, dPlans ps, dRec r] ∧ PoolAt S p ∧ RecAt c S ps r n e w L ∧ p ∉ adr r ∧ r.ll ≠ r.rr ∧ r.ls.length < 1000 ∧
  ∀ (l : Int) S', (0 ≤ l ∧ l < (L : Int)) → PoolAt S' p → RecAt c S' ps (withLs r (r.ls ++ [l])) n e w L → (∀ x m, x ∉ p :: adr r → S x = some m → S' x = some m) → Q (.bl true) S'
def sp__law_refuses (c : Cl) : Ctr := fun ds S Q _ => ∃ p ps r n e w L, ds = [.ref p, dPlans ps, dRec r] ∧ PoolAt S p ∧ RecAt c S ps r n e w L ∧ p ∉ adr r ∧ ∀ S', Dr p S S' → Q (.bl true) S'
def sp__law_twin (c : Cl) : Ctr := fun ds S Q _ => ∃ p ps A B rs r, ds = [.ref p, dPlans ps, dNets c ps, .ref A, dRec r] ∧ AllR c S ps A p B rs ∧ r ∈ rs ∧ ∀ rs' S', rs.length ≤ rs'.length → AllR c S' ps A p B rs' → Q (.bl true) S'
def sp__law_compared (c : Cl) : Ctr := fun ds S Q _ => ∃ p ps r n e w L r' n' e' w' L', ds = [.ref p, dPlans ps, dRec r, dRec r'] ∧ PoolAt S p ∧ RecAt c S ps r n e w L ∧ RecAt c S ps r' n' e' w' L' ∧ p ∉ adr r ∧ p ∉ adr r' ∧ ∀ S', Dr p S S' → Q (.bl true) S'
def sp__law_plans (c : Cl) : Ctr := fun ds S Q _ => ∃ p, ds = [.ref p] ∧ PoolAt S p ∧ ∀ ps S', PsOk ps → Dr p S S' → Q (dPlans ps) S'
def sp__law_turn (c : Cl) : Ctr := fun ds S Q _ => ∃ p ps A B rs at_, ds = [.ref p, dPlans ps, dNets c ps, .ref A, .int (at_ : Nat)] ∧ AllR c S ps A p B rs ∧ at_ < rs.length ∧ B < 1000 ∧ ∀ rs' S', rs.length ≤ rs'.length → AllR c S' ps A p (B + 1) rs' → Q (.bl true) S'
def sp_law (c : Cl) : Ctr := fun ds S Q _ => ∃ cells : List Int, ds = [.fro (cells.map D.int)] ∧ cells.length ≤ 63 ∧ ∀ S', Q (.bl true) S'
end K09
set_option Elab.async false
set_option linter.all false
set_option maxRecDepth 100000
set_option maxHeartbeats 4000000
namespace K09
open PySem PySem.Spec PyProof.Rows L2 DL
def K_PRIMES : List Int := [2, 3, 5, 7, 11, 13, 17, 19, 23, 29, 31, 37, 41, 43, 47, 53, 59, 61, 67, 71, 73, 79, 83, 89, 97]
def N_is_between_ : List Str := ["value", "least", "most"]
/-- is_between: slots 0 value, 1 least, 2 most, -/
def w_is_between (c : Cl) : WPs := (wRet (wAndV (wIsi "int" (wVar 0)) (wAndV (wNotV (wIsi "bool" (wVar 0))) (wChain oLe oLe (wVar 1) (wVar 0) (wVar 2)))))
def N_vector_of_ : List Str := ["numbers"]
/-- vector_of: slots 0 numbers, -/
def w_vector_of (c : Cl) : WPs := (wRet (wCB oTuple (wCons (wVar 0) wNil)))
def N_matrix_of_ : List Str := ["rows", "row"]
/-- matrix_of: slots 0 rows, 1 row, -/
def w_matrix_of (c : Cl) : WPs := (wRet (wCB oTuple (wCons (wLc (wIt (wVar 0)) (gN 1) wYes (wCall (sp_vector_of c) (wCons (wVar 1) wNil)) [1]) wNil)))
def N_product_sum_ : List Str := ["one", "two", "total", "number", "other"]
/-- product_sum: slots 0 one, 1 two, 2 total, 3 number, 4 other, -/
def w_product_sum (c : Cl) : WPs := (wSeq (wSet 2 (wC (.int 0)))
  (wSeq (wFor (wZip (wVar 0) (wVar 1)) (gT [(gN 3), (gN 4)]) (wAug 2 (oI0 fun i j => .int (i + j)) (wBin oMul (wVar 3) (wVar 4))))
  (wRet (wVar 2))))
def N_Net_init_ : List Str := ["self", "prime", "embed", "shift", "layers", "out", "end", "layer", "matrix"]
/-- Net.__init__: slots 0 self, 1 prime, 2 embed, 3 shift, 4 layers, 5 out, 6 end, 7 layer, 8 matrix, -/
def w_Net_init (c : Cl) : WPs := (wSeq (wIf (wOr (wNot (wTest (wCall (sp_is_between c) (wCons (wVar 1) (wCons (wC (.int 2)) (wCons (wC (.int 97)) wNil)))))) (wTest (wBin (oInD true) (wVar 1) (wC (.tup (K_PRIMES.map D.int)))))) (wRaise (wMkE c.InvalidNumber "number" (wVar 1))) wNext)
  (wSeq (wSetF c.Net N_Net 0 (wVar 0) (wVar 1))
  (wSeq (wSetF c.Net N_Net 1 (wVar 0) (wCall (sp_matrix_of c) (wCons (wVar 2) wNil)))
  (wSeq (wSetF c.Net N_Net 2 (wVar 0) (wCall (sp_vector_of c) (wCons (wVar 3) wNil)))
  (wSeq (wSetF c.Net N_Net 3 (wVar 0) (wCB oTuple (wCons (wLc (wIt (wVar 4)) (gN 7) wYes (wCB oTuple (wCons (wLc (wIt (wVar 7)) (gN 8) wYes (wCall (sp_matrix_of c) (wCons (wVar 8) wNil)) [8]) wNil)) [7]) wNil)))
  (wSeq (wSetF c.Net N_Net 4 (wVar 0) (wCall (sp_matrix_of c) (wCons (wVar 5) wNil)))
  (wSetF c.Net N_Net 5 (wVar 0) (wVar 6))))))))
def N_Net_is_letter_ : List Str := ["self", "value"]
/-- Net.is_letter: slots 0 self, 1 value, -/
def w_Net_is_letter (c : Cl) : WPs := (wRet (wCall (sp_is_between c) (wCons (wVar 1) (wCons (wC (.int 0)) (wCons (wBin oSub (wCB oLen (wCons (wFld c.Net N_Net 1 (wVar 0)) wNil)) (wC (.int 1))) wNil)))))
def N_Net_rest_ : List Str := ["self", "number"]
/-- Net.rest: slots 0 self, 1 number, -/
def w_Net_rest (c : Cl) : WPs := (wRet (wBin oMod (wCB oInt (wCons (wVar 1) wNil)) (wFld c.Net N_Net 0 (wVar 0))))
def N_Net_times_ : List Str := ["self", "matrix", "vector", "row"]
/-- Net.times: slots 0 self, 1 matrix, 2 vector, 3 row, -/
def w_Net_times (c : Cl) : WPs := (wRet (wCB oTuple (wCons (wLc (wIt (wVar 1)) (gN 3) wYes (wMeth c.Net N_Net (sp_Net_rest c) (wVar 0) (wCons (wCall (sp_product_sum c) (wCons (wVar 3) (wCons (wVar 2) wNil))) wNil)) [3]) wNil)))
def N_Net_plus_ : List Str := ["self", "one", "two", "number", "other"]
/-- Net.plus: slots 0 self, 1 one, 2 two, 3 number, 4 other, -/
def w_Net_plus (c : Cl) : WPs := (wRet (wCB oTuple (wCons (wLc (wZip (wVar 1) (wVar 2)) (gT [(gN 3), (gN 4)]) wYes (wMeth c.Net N_Net (sp_Net_rest c) (wVar 0) (wCons (wBin oAdd (wVar 3) (wVar 4)) wNil)) [3, 4]) wNil)))
def N_no_matrix_ : List Str := ["width", "_"]
/-- no_matrix: slots 0 width, 1 _, -/
def w_no_matrix (c : Cl) : WPs := (wRet (wCB oTuple (wCons (wLc (wRg1 (wVar 0)) (gN 1) wYes (wCB oTuple (wCons (wBin oRep (wLst (wCons (wC (.int 0)) wNil)) (wVar 0)) wNil)) [1]) wNil)))
def N_with_pair_ : List Str := ["net", "matrix", "pair", "times", "key", "value", "found", "row", "worth", "old", "number"]
/-- with_pair: slots 0 net, 1 matrix, 2 pair, 3 times, 4 key, 5 value, 6 found, 7 row, 8 worth, 9 old, 10 number, -/
def w_with_pair (c : Cl) : WPs := (wSeq (wAsgG (gT [(gN 4), (gN 5)]) (wVar 2))
  (wSeq (wSet 6 (wLstM wNil))
  (wSeq (wFor (wZip (wVar 1) (wVar 5)) (gT [(gN 7), (gN 8)]) (wDrop (wMt oAppend (wVar 6) (wCons (wCB oTuple (wCons (wLc (wZip (wVar 7) (wVar 4)) (gT [(gN 9), (gN 10)]) wYes (wMeth c.Net N_Net (sp_Net_rest c) (wVar 0) (wCons (wBin oAdd (wVar 9) (wBin oMul (wBin oMul (wVar 3) (wVar 8)) (wVar 10))) wNil)) [9, 10]) wNil)) wNil))))
  (wRet (wCB oTuple (wCons (wVar 6) wNil))))))
def N_LayerReader_init_ : List Str := ["self", "net", "count", "ahead"]
/-- LayerReader.__init__: slots 0 self, 1 net, 2 count, 3 ahead, -/
def w_LayerReader_init (c : Cl) : WPs := (wSeq (wSetF c.LayerReader N_LayerReader 0 (wVar 0) (wVar 1))
  (wSeq (wSetF c.LayerReader N_LayerReader 1 (wVar 0) (wVar 2))
  (wSeq (wSetF c.LayerReader N_LayerReader 2 (wVar 0) (wVar 3))
  (wSeq (wSetF c.LayerReader N_LayerReader 3 (wVar 0) (wLstM wNil))
  (wSetF c.LayerReader N_LayerReader 4 (wVar 0) (wLstM wNil))))))
def N_LayerReader_read_ : List Str := ["self", "letter", "net", "x", "layer", "query", "key", "value", "first", "second", "pair", "matrix", "number", "vector"]
/-- LayerReader.read: slots 0 self, 1 letter, 2 net, 3 x, 4 layer, 5 query, 6 key, 7 value, 8 first, 9 second, 10 pair, 11 matrix, 12 number, 13 vector, -/
def w_LayerReader_read (c : Cl) : WPs := (wSeq (wSet 2 (wFld c.LayerReader N_LayerReader 0 (wVar 0)))
  (wSeq (wSet 3 (wMeth c.Net N_Net (sp_Net_plus c) (wVar 2) (wCons (wBin oIx (wFld c.Net N_Net 1 (wVar 2)) (wVar 1)) (wCons (wLc (wIt (wFld c.Net N_Net 2 (wVar 2))) (gN 12) wYes (wBin oMul (wFld c.LayerReader N_LayerReader 1 (wVar 0)) (wVar 12)) [12]) wNil))))
  (wSeq (wFor (wEnum (wFld c.Net N_Net 3 (wVar 2))) (gT [(gN 4), (gT [(gN 5), (gN 6), (gN 7), (gN 8), (gN 9)])]) (wSeq (wSet 10 (wTup (wCons (wMeth c.Net N_Net (sp_Net_times c) (wVar 2) (wCons (wVar 6) (wCons (wVar 3) wNil))) (wCons (wMeth c.Net N_Net (sp_Net_times c) (wVar 2) (wCons (wVar 7) (wCons (wVar 3) wNil))) wNil))))
  (wSeq (wSet 11 (wCall (sp_with_pair c) (wCons (wVar 2) (wCons (wBin oIx (wFld c.LayerReader N_LayerReader 2 (wVar 0)) (wVar 4)) (wCons (wVar 10) (wCons (wC (.int 1)) wNil))))))
  (wSeq (wSet 3 (wMeth c.Net N_Net (sp_Net_plus c) (wVar 2) (wCons (wVar 3) (wCons (wMeth c.Net N_Net (sp_Net_times c) (wVar 2) (wCons (wVar 11) (wCons (wMeth c.Net N_Net (sp_Net_times c) (wVar 2) (wCons (wVar 5) (wCons (wVar 3) wNil))) wNil))) wNil))))
  (wSeq (wSet 3 (wMeth c.Net N_Net (sp_Net_plus c) (wVar 2) (wCons (wVar 3) (wCons (wMeth c.Net N_Net (sp_Net_times c) (wVar 2) (wCons (wVar 9) (wCons (wLc (wIt (wMeth c.Net N_Net (sp_Net_times c) (wVar 2) (wCons (wVar 8) (wCons (wVar 3) wNil)))) (gN 12) wYes (wBin oMul (wVar 12) (wVar 12)) [12]) wNil))) wNil))))
  (wSeq (wDrop (wMt oAppend (wFld c.LayerReader N_LayerReader 3 (wVar 0)) (wCons (wVar 10) wNil)))
  (wDrop (wMt oAppend (wFld c.LayerReader N_LayerReader 4 (wVar 0)) (wCons (wVar 11) wNil)))))))))
  (wRet (wCB oTuple (wCons (wLc (wIt (wFld c.Net N_Net 4 (wVar 2))) (gN 13) wYes (wBin oAdd (wC (.int 1)) (wMeth c.Net N_Net (sp_Net_rest c) (wVar 2) (wCons (wCall (sp_product_sum c) (wCons (wVar 13) (wCons (wVar 3) wNil))) wNil))) [13]) wNil))))))
def N_Sums_init_ : List Str := ["self", "net", "_"]
/-- Sums.__init__: slots 0 self, 1 net, 2 _, -/
def w_Sums_init (c : Cl) : WPs := (wSeq (wSetF c.Sums N_Sums 0 (wVar 0) (wVar 1))
  (wSeq (wSetF c.Sums N_Sums 1 (wVar 0) (wC (.int 0)))
  (wSetF c.Sums N_Sums 2 (wVar 0) (wCB oTuple (wCons (wLc (wIt (wFld c.Net N_Net 3 (wVar 1))) (gN 2) wYes (wCall (sp_no_matrix c) (wCons (wCB oLen (wCons (wFld c.Net N_Net 2 (wVar 1)) wNil)) wNil)) [2]) wNil)))))
def N_Sums_read_ : List Str := ["self", "letter", "reader", "weights"]
/-- Sums.read: slots 0 self, 1 letter, 2 reader, 3 weights, -/
def w_Sums_read (c : Cl) : WPs := (wSeq (wIf (wNot (wTest (wMeth c.Net N_Net (sp_Net_is_letter c) (wFld c.Sums N_Sums 0 (wVar 0)) (wCons (wVar 1) wNil)))) (wRaise (wMkE c.InvalidLetter "letter" (wVar 1))) wNext)
  (wSeq (wSet 2 (wMake c.LayerReader N_LayerReader (sp_LayerReader_init c) (wCons (wFld c.Sums N_Sums 0 (wVar 0)) (wCons (wFld c.Sums N_Sums 1 (wVar 0)) (wCons (wFld c.Sums N_Sums 2 (wVar 0)) wNil)))))
  (wSeq (wSet 3 (wMeth c.LayerReader N_LayerReader (sp_LayerReader_read c) (wVar 2) (wCons (wVar 1) wNil)))
  (wSeq (wSetF c.Sums N_Sums 2 (wVar 0) (wCB oTuple (wCons (wFld c.LayerReader N_LayerReader 4 (wVar 2)) wNil)))
  (wSeq (wAugF c.Sums N_Sums 1 (oI0 fun i j => .int (i + j)) (wVar 0) (wC (.int 1)))
  (wRet (wVar 3)))))))
def N_Sums_twin_ : List Str := ["self", "found"]
/-- Sums.twin: slots 0 self, 1 found, -/
def w_Sums_twin (c : Cl) : WPs := (wSeq (wSet 1 (wMake c.Sums N_Sums (sp_Sums_init c) (wCons (wFld c.Sums N_Sums 0 (wVar 0)) wNil)))
  (wSeq (wSetF c.Sums N_Sums 1 (wVar 1) (wFld c.Sums N_Sums 1 (wVar 0)))
  (wSeq (wSetF c.Sums N_Sums 2 (wVar 1) (wFld c.Sums N_Sums 2 (wVar 0)))
  (wRet (wVar 1)))))
def N_Sums_state_ : List Str := ["self"]
/-- Sums.state: slots 0 self, -/
def w_Sums_state (c : Cl) : WPs := (wRet (wTup (wCons (wMeth c.Net N_Net (sp_Net_rest c) (wFld c.Sums N_Sums 0 (wVar 0)) (wCons (wFld c.Sums N_Sums 1 (wVar 0)) wNil)) (wCons (wFld c.Sums N_Sums 2 (wVar 0)) wNil))))
def N_Sums___eq___ : List Str := ["self", "other"]
/-- Sums.__eq__: slots 0 self, 1 other, -/
def w_Sums___eq__ (c : Cl) : WPs := (wSeq (wIf (wNot (wTest (wIsO c.Sums N_Sums (wVar 1)))) (wRet (wC (.bl false))) wNext)
  (wRet (wAndV (wBin oEq (wFld c.Sums N_Sums 1 (wVar 0)) (wFld c.Sums N_Sums 1 (wVar 1))) (wBin oEq (wMeth c.Sums N_Sums (sp_Sums_state c) (wVar 0) wNil) (wMeth c.Sums N_Sums (sp_Sums_state c) (wVar 1) wNil)))))
def N_sums_behind_ : List Str := ["net", "letters", "letter", "found"]
/-- sums_behind: slots 0 net, 1 letters, 2 letter, 3 found, -/
def w_sums_behind (c : Cl) : WPs := (wSeq (wFor (wIt (wVar 1)) (gN 2) (wIf (wNot (wTest (wMeth c.Net N_Net (sp_Net_is_letter c) (wVar 0) (wCons (wVar 2) wNil)))) (wRaise (wMkE c.InvalidLetter "letter" (wVar 2))) wNext))
  (wSeq (wSet 3 (wMake c.Sums N_Sums (sp_Sums_init c) (wCons (wVar 0) wNil)))
  (wSeq (wFor (wIt (wVar 1)) (gN 2) (wDrop (wMeth c.Sums N_Sums (sp_Sums_read c) (wVar 3) (wCons (wVar 2) wNil))))
  (wRet (wVar 3)))))
def N__law_pool_ : List Str := ["script", "cell"]
/-- _law_pool: slots 0 script, 1 cell, -/
def w__law_pool (c : Cl) : WPs := (wRet (wLstM (wCons (wLc (wIt (wVar 0)) (gN 1) wYes (wCB oInt (wCons (wVar 1) wNil)) [1]) (wCons (wC (.int 0)) (wCons (wC (.int 0)) (wCons (wC (.int 271828182845904523)) wNil))))))
def N__law_draw_ : List Str := ["pool", "many", "told", "cell", "mixed"]
/-- _law_draw: slots 0 pool, 1 many, 2 told, 3 cell, 4 mixed, -/
def w__law_draw (c : Cl) : WPs := (wSeq (wIf (wTest (wBin oGt (wBin oIx (wVar 0) (wC (.int 2))) (wC (.int 1)))) (wSeq (wSet 2 (wBin oMod (wCB oInt (wCons (wBin oIx (wVar 0) (wC (.int 2))) wNil)) (wVar 1)))
  (wSeq (wSetI (wVar 0) (wC (.int 2)) (wBin oDiv (wBin oIx (wVar 0) (wC (.int 2))) (wVar 1)))
  (wRet (wVar 2)))) wNext)
  (wSeq (wSet 3 (wC (.int 7)))
  (wSeq (wIf (wTest (wBin oLt (wBin oIx (wVar 0) (wC (.int 1))) (wCB oLen (wCons (wBin oIx (wVar 0) (wC (.int 0))) wNil)))) (wSeq (wSet 3 (wBin oIx (wBin oIx (wVar 0) (wC (.int 0))) (wBin oIx (wVar 0) (wC (.int 1)))))
  (wSeq (wSetI (wVar 0) (wC (.int 1)) (wBin oAdd (wBin oIx (wVar 0) (wC (.int 1))) (wC (.int 1))))
  (wIf (wTest (wBin oGe (wVar 3) (wBin oPow (wC (.int 10)) (wC (.int 18))))) (wSeq (wSetI (wVar 0) (wC (.int 2)) (wBin oDiv (wVar 3) (wVar 1)))
  (wRet (wBin oMod (wCB oInt (wCons (wVar 3) wNil)) (wVar 1)))) wNext))) wNext)
  (wSeq (wSet 4 (wBin oMod (wCB oInt (wCons (wBin oAdd (wBin oAdd (wBin oMul (wBin oIx (wVar 0) (wC (.int 3))) (wBin oIx (wVar 0) (wC (.int 3)))) (wBin oMulS (wC (.int 48271)) (wVar 3))) (wC (.int 1442695040888963407))) wNil)) (wC (.int 2305843009213693951))))
  (wSeq (wSetI (wVar 0) (wC (.int 3)) (wBin oMod (wCB oInt (wCons (wBin oAdd (wBin oMul (wVar 4) (wVar 4)) (wC (.int 1013904223))) wNil)) (wC (.int 2305843009213693951))))
  (wRet (wBin oMod (wBin oDiv (wBin oIx (wVar 0) (wC (.int 3))) (wC (.int 1048576))) (wVar 1))))))))
def N__law_number_ : List Str := ["pool", "prime", "kind"]
/-- _law_number: slots 0 pool, 1 prime, 2 kind, -/
def w__law_number (c : Cl) : WPs := (wSeq (wSet 2 (wCall (sp__law_draw c) (wCons (wVar 0) (wCons (wC (.int 5)) wNil))))
  (wSeq (wIf (wTest (wBin oLt (wVar 2) (wC (.int 2)))) (wRet (wVar 2)) wNext)
  (wSeq (wIf (wTest (wBin oEq (wVar 2) (wC (.int 2)))) (wRet (wBin oSub (wVar 1) (wC (.int 1)))) wNext)
  (wRet (wCall (sp__law_draw c) (wCons (wVar 0) (wCons (wVar 1) wNil)))))))
def N__law_matrix_ : List Str := ["pool", "prime", "width", "kind", "i", "k"]
/-- _law_matrix: slots 0 pool, 1 prime, 2 width, 3 kind, 4 i, 5 k, -/
def w__law_matrix (c : Cl) : WPs := (wSeq (wSet 3 (wCall (sp__law_draw c) (wCons (wVar 0) (wCons (wC (.int 6)) wNil))))
  (wSeq (wIf (wTest (wBin oLt (wVar 3) (wC (.int 2)))) (wRet (wLc (wRg1 (wVar 2)) (gN 4) wYes (wLc (wRg1 (wVar 2)) (gN 5) wYes (wBin oMul (wVar 3) (wCB oInt (wCons (wBin oEq (wVar 4) (wVar 5)) wNil))) [5]) [4])) wNext)
  (wRet (wLc (wRg1 (wVar 2)) (gN 4) wYes (wLc (wRg1 (wVar 2)) (gN 5) wYes (wCall (sp__law_number c) (wCons (wVar 0) (wCons (wVar 1) wNil))) [5]) [4]))))
def N__law_net_ : List Str := ["pool", "prime", "letters", "width", "many", "embed", "shift", "layers", "out", "end", "a", "k", "at", "m"]
/-- _law_net: slots 0 pool, 1 prime, 2 letters, 3 width, 4 many, 5 embed, 6 shift, 7 layers, 8 out, 9 end, 10 a, 11 k, 12 at, 13 m, -/
def w__law_net (c : Cl) : WPs := (wSeq (wSet 5 (wLc (wRg1 (wVar 2)) (gN 10) wYes (wLc (wRg1 (wVar 3)) (gN 11) wYes (wCall (sp__law_number c) (wCons (wVar 0) (wCons (wVar 1) wNil))) [11]) [10]))
  (wSeq (wSet 6 (wLc (wRg1 (wVar 3)) (gN 11) wYes (wCall (sp__law_number c) (wCons (wVar 0) (wCons (wVar 1) wNil))) [11]))
  (wSeq (wSet 7 (wLc (wRg1 (wVar 4)) (gN 12) wYes (wCB oTuple (wCons (wLc (wRg1 (wC (.int 5))) (gN 13) wYes (wCall (sp__law_matrix c) (wCons (wVar 0) (wCons (wVar 1) (wCons (wVar 3) wNil)))) [13]) wNil)) [12]))
  (wSeq (wSet 8 (wLc (wRg1 (wVar 2)) (gN 10) wYes (wLc (wRg1 (wVar 3)) (gN 11) wYes (wCall (sp__law_number c) (wCons (wVar 0) (wCons (wVar 1) wNil))) [11]) [10]))
  (wSeq (wSet 9 (wC .non))
  (wSeq (wIf (wTest (wBin oEq (wCall (sp__law_draw c) (wCons (wVar 0) (wCons (wC (.int 3)) wNil))) (wC (.int 0)))) (wSet 9 (wCall (sp__law_draw c) (wCons (wVar 0) (wCons (wVar 2) wNil)))) wNext)
  (wRet (wLst (wCons (wVar 1) (wCons (wVar 5) (wCons (wVar 6) (wCons (wVar 7) (wCons (wVar 8) (wCons (wVar 9) wNil))))))))))))))
def N__law_wide_net_ : List Str := ["pool", "primes", "prime", "letters"]
/-- _law_wide_net: slots 0 pool, 1 primes, 2 prime, 3 letters, -/
def w__law_wide_net (c : Cl) : WPs := (wSeq (wSet 1 (wLst (wCons (wC (.int 2)) (wCons (wC (.int 3)) (wCons (wC (.int 5)) (wCons (wC (.int 7)) (wCons (wC (.int 11)) (wCons (wC (.int 13)) (wCons (wC (.int 17)) (wCons (wC (.int 19)) (wCons (wC (.int 23)) (wCons (wC (.int 29)) (wCons (wC (.int 31)) (wCons (wC (.int 37)) (wCons (wC (.int 41)) (wCons (wC (.int 43)) (wCons (wC (.int 47)) (wCons (wC (.int 53)) (wCons (wC (.int 59)) (wCons (wC (.int 61)) (wCons (wC (.int 67)) (wCons (wC (.int 71)) (wCons (wC (.int 73)) (wCons (wC (.int 79)) (wCons (wC (.int 83)) (wCons (wC (.int 89)) (wCons (wC (.int 97)) wNil)))))))))))))))))))))))))))
  (wSeq (wSet 2 (wBin oIx (wVar 1) (wCall (sp__law_draw c) (wCons (wVar 0) (wCons (wC (.int 25)) wNil)))))
  (wSeq (wSet 3 (wBin oAdd (wC (.int 1)) (wCall (sp__law_draw c) (wCons (wVar 0) (wCons (wC (.int 4)) wNil)))))
  (wSeq (wIf (wTest (wBin oEq (wCall (sp__law_draw c) (wCons (wVar 0) (wCons (wC (.int 3)) wNil))) (wC (.int 0)))) (wSet 3 (wBin oAdd (wC (.int 4)) (wCall (sp__law_draw c) (wCons (wVar 0) (wCons (wC (.int 9)) wNil))))) wNext)
  (wRet (wCall (sp__law_net c) (wCons (wVar 0) (wCons (wVar 2) (wCons (wVar 3) (wCons (wBin oAdd (wC (.int 1)) (wCall (sp__law_draw c) (wCons (wVar 0) (wCons (wC (.int 4)) wNil)))) (wCons (wCall (sp__law_draw c) (wCons (wVar 0) (wCons (wC (.int 4)) wNil))) wNil)))))))))))
def N__law_copy_ : List Str := ["plan", "layers", "layer", "grid", "row", "v"]
/-- _law_copy: slots 0 plan, 1 layers, 2 layer, 3 grid, 4 row, 5 v, -/
def w__law_copy (c : Cl) : WPs := (wSeq (wSet 1 (wLcM (wIt (wBin oIx (wVar 0) (wC (.int 3)))) (gN 2) wYes (wCB oTuple (wCons (wLc (wIt (wVar 2)) (gN 3) wYes (wLcM (wIt (wVar 3)) (gN 4) wYes (wCB oList (wCons (wVar 4) wNil)) [4]) [3]) wNil)) [2]))
  (wRet (wLst (wCons (wBin oIx (wVar 0) (wC (.int 0))) (wCons (wLcM (wIt (wBin oIx (wVar 0) (wC (.int 1)))) (gN 5) wYes (wCB oListM (wCons (wVar 5) wNil)) [5]) (wCons (wCB oListM (wCons (wBin oIx (wVar 0) (wC (.int 2))) wNil)) (wCons (wVar 1) (wCons (wLcM (wIt (wBin oIx (wVar 0) (wC (.int 4)))) (gN 5) wYes (wCB oListM (wCons (wVar 5) wNil)) [5]) (wCons (wBin oIx (wVar 0) (wC (.int 5))) wNil)))))))))
def N__law_made_ : List Str := ["plan", "loose", "one", "layers", "embed", "net", "v", "at", "grid", "layer", "row", "k"]
/-- _law_made: slots 0 plan, 1 loose, 2 one, 3 layers, 4 embed, 5 net, 6 v, 7 at, 8 grid, 9 layer, 10 row, 11 k, -/
def w__law_made (c : Cl) : WPs := (wSeq (wSet 2 (wCall (sp__law_copy c) (wCons (wVar 0) wNil)))
  (wSeq (wIf (wNot (wTest (wVar 1))) (wSeq (wSet 3 (wLc (wIt (wBin oIx (wVar 2) (wC (.int 3)))) (gN 9) wYes (wCB oTuple (wCons (wLc (wIt (wVar 9)) (gN 8) wYes (wCB oTuple (wCons (wLc (wIt (wVar 8)) (gN 10) wYes (wCB oTuple (wCons (wVar 10) wNil)) [10]) wNil)) [8]) wNil)) [9]))
  (wSeq (wSet 4 (wCB oTuple (wCons (wLc (wIt (wBin oIx (wVar 2) (wC (.int 1)))) (gN 6) wYes (wCB oTuple (wCons (wVar 6) wNil)) [6]) wNil)))
  (wRet (wFrz (wMake c.Net N_Net (sp_Net_init c) (wCons (wBin oIx (wVar 2) (wC (.int 0))) (wCons (wVar 4) (wCons (wCB oTuple (wCons (wBin oIx (wVar 2) (wC (.int 2))) wNil)) (wCons (wCB oTuple (wCons (wVar 3) wNil)) (wCons (wCB oTuple (wCons (wLc (wIt (wBin oIx (wVar 2) (wC (.int 4)))) (gN 6) wYes (wCB oTuple (wCons (wVar 6) wNil)) [6]) wNil)) (wCons (wBin oIx (wVar 2) (wC (.int 5))) wNil))))))))))) wNext)
  (wSeq (wSet 5 (wFrz (wMake c.Net N_Net (sp_Net_init c) (wCons (wBin oIx (wVar 2) (wC (.int 0))) (wCons (wBin oIx (wVar 2) (wC (.int 1))) (wCons (wBin oIx (wVar 2) (wC (.int 2))) (wCons (wBin oIx (wVar 2) (wC (.int 3))) (wCons (wBin oIx (wVar 2) (wC (.int 4))) (wCons (wBin oIx (wVar 2) (wC (.int 5))) wNil)))))))))
  (wSeq (wFor (wIt (wBin oAdd (wBin oIx (wVar 2) (wC (.int 1))) (wBin oIx (wVar 2) (wC (.int 4))))) (gN 6) (wSetI (wVar 6) (wC (.int 0)) (wBin oAdd (wBin oIx (wVar 6) (wC (.int 0))) (wC (.int 1)))))
  (wSeq (wSetI (wBin oIx (wVar 2) (wC (.int 2))) (wC (.int 0)) (wBin oAdd (wBin oIx (wBin oIx (wVar 2) (wC (.int 2))) (wC (.int 0))) (wC (.int 1))))
  (wSeq (wFor (wRg1 (wCB oLen (wCons (wBin oIx (wVar 2) (wC (.int 3))) wNil))) (gN 7) (wSeq (wSet 8 (wBin oIx (wBin oIx (wBin oIx (wVar 2) (wC (.int 3))) (wVar 7)) (wVar 7)))
  (wSetI (wVar 8) (wC (.int 0)) (wLc (wIt (wBin oIx (wVar 8) (wC (.int 0)))) (gN 11) wYes (wBin oAdd (wVar 11) (wC (.int 1))) [11]))))
  (wSeq (wDrop (wMt oReverse (wBin oIx (wVar 2) (wC (.int 1))) wNil))
  (wSeq (wDrop (wMt oAppend (wBin oIx (wVar 2) (wC (.int 3))) (wCons (wTup wNil) wNil)))
  (wSeq (wDrop (wMt oAppend (wBin oIx (wVar 2) (wC (.int 4))) (wCons (wLst (wCons (wC (.int 0)) wNil)) wNil)))
  (wRet (wVar 5)))))))))))
def N__law_times_ : List Str := ["grid", "x", "prime", "row", "k"]
/-- _law_times: slots 0 grid, 1 x, 2 prime, 3 row, 4 k, -/
def w__law_times (c : Cl) : WPs := (wRet (wLc (wIt (wVar 0)) (gN 3) wYes (wBin oMod (wCB oSum (wCons (wLc (wRg1 (wCB oLen (wCons (wVar 1) wNil))) (gN 4) wYes (wBin oMul (wBin oIx (wVar 3) (wVar 4)) (wBin oIx (wVar 1) (wVar 4))) [4]) wNil)) (wVar 2)) [3]))
def N__law_row_ : List Str := ["plan", "before", "letter", "begin", "prime", "size", "x", "pairs", "at", "query", "near", "worth", "first", "second", "q", "pair", "more", "u", "w", "both", "k", "row", "y", "one"]
/-- _law_row: slots 0 plan, 1 before, 2 letter, 3 begin, 4 prime, 5 size, 6 x, 7 pairs, 8 at, 9 query, 10 near, 11 worth, 12 first, 13 second, 14 q, 15 pair, 16 more, 17 u, 18 w, 19 both, 20 k, 21 row, 22 y, 23 one, -/
def w__law_row (c : Cl) : WPs := (wSeq (wSet 4 (wBin oIx (wVar 0) (wC (.int 0))))
  (wSeq (wSet 5 (wListRg (wCB oLen (wCons (wBin oIx (wVar 0) (wC (.int 2))) wNil))))
  (wSeq (wSet 6 (wLc (wIt (wVar 5)) (gN 20) wYes (wBin oMod (wCB oInt (wCons (wBin oAdd (wBin oIx (wBin oIx (wBin oIx (wVar 0) (wC (.int 1))) (wVar 2)) (wVar 20)) (wBin oMul (wCB oLen (wCons (wVar 1) wNil)) (wBin oIx (wBin oIx (wVar 0) (wC (.int 2))) (wVar 20)))) wNil)) (wVar 4)) [20]))
  (wSeq (wSet 7 (wLstM wNil))
  (wSeq (wFor (wRg1 (wCB oLen (wCons (wBin oIx (wVar 0) (wC (.int 3))) wNil))) (gN 8) (wSeq (wAsgG (gT [(gN 9), (gN 10), (gN 11), (gN 12), (gN 13)]) (wBin oIx (wBin oIx (wVar 0) (wC (.int 3))) (wVar 8)))
  (wSeq (wSet 14 (wCall (sp__law_times c) (wCons (wVar 9) (wCons (wVar 6) (wCons (wVar 4) wNil)))))
  (wSeq (wSet 15 (wTup (wCons (wCB oTuple (wCons (wCall (sp__law_times c) (wCons (wVar 10) (wCons (wVar 6) (wCons (wVar 4) wNil)))) wNil)) (wCons (wCB oTuple (wCons (wCall (sp__law_times c) (wCons (wVar 11) (wCons (wVar 6) (wCons (wVar 4) wNil)))) wNil)) wNil))))
  (wSeq (wSet 16 (wLc (wIt (wVar 5)) (gN 20) wYes (wC (.int 0)) [20]))
  (wSeq (wFor (wIt (wBin oAdd (wLc (wIt (wSl (wVar 1) (wP (wVar 3)) wNoP)) (gN 21) wYes (wBin oIx (wBin oIx (wVar 21) (wC (.int 0))) (wVar 8)) [21]) (wLst (wCons (wVar 15) wNil)))) (gT [(gN 17), (gN 18)]) (wSeq (wSet 19 (wCB oSum (wCons (wLc (wIt (wVar 5)) (gN 20) wYes (wBin oMul (wBin oIx (wVar 14) (wVar 20)) (wBin oIx (wVar 17) (wVar 20))) [20]) wNil)))
  (wSet 16 (wLc (wIt (wVar 5)) (gN 20) wYes (wBin oAdd (wBin oIx (wVar 16) (wVar 20)) (wBin oMul (wVar 19) (wBin oIx (wVar 18) (wVar 20)))) [20]))))
  (wSeq (wSet 6 (wLc (wIt (wVar 5)) (gN 20) wYes (wBin oMod (wCB oInt (wCons (wBin oAdd (wBin oIx (wVar 6) (wVar 20)) (wBin oIx (wVar 16) (wVar 20))) wNil)) (wVar 4)) [20]))
  (wSeq (wSet 16 (wCall (sp__law_times c) (wCons (wVar 13) (wCons (wLc (wIt (wCall (sp__law_times c) (wCons (wVar 12) (wCons (wVar 6) (wCons (wVar 4) wNil))))) (gN 22) wYes (wBin oMul (wVar 22) (wVar 22)) [22]) (wCons (wVar 4) wNil)))))
  (wSeq (wSet 6 (wLc (wIt (wVar 5)) (gN 20) wYes (wBin oMod (wCB oInt (wCons (wBin oAdd (wBin oIx (wVar 6) (wVar 20)) (wBin oIx (wVar 16) (wVar 20))) wNil)) (wVar 4)) [20]))
  (wDrop (wMt oAppend (wVar 7) (wCons (wVar 15) wNil))))))))))))
  (wRet (wTup (wCons (wCB oTuple (wCons (wVar 7) wNil)) (wCons (wCB oTuple (wCons (wLc (wIt (wCall (sp__law_times c) (wCons (wBin oIx (wVar 0) (wC (.int 4))) (wCons (wVar 6) (wCons (wVar 4) wNil))))) (gN 23) wYes (wBin oAdd (wC (.int 1)) (wVar 23)) [23]) wNil)) wNil)))))))))
def N__law_same_ : List Str := ["told", "due", "k"]
/-- _law_same: slots 0 told, 1 due, 2 k, -/
def w__law_same (c : Cl) (n : Nat) : WPs := (wSeq (wIf (wTest (wBin oIsN (wVar 1) (wC .non))) (wRet (wBin oIsN (wVar 0) (wC .non))) wNext)
  (wSeq (wIf (wOr (wTest (wIsi "bool" (wVar 1))) (wTest (wIsi "bool" (wVar 0)))) (wRet (wAndV (wIsi "bool" (wVar 1)) (wAndV (wIsi "bool" (wVar 0)) (wBin oEq (wVar 0) (wVar 1))))) wNext)
  (wSeq (wIf (wTest (wIsiT ["tuple", "list"] (wVar 1))) (wSeq (wIf (wOr (wNot (wTest (wIsiT ["tuple", "list"] (wVar 0)))) (wTest (wBin oNe (wIsi "list" (wVar 0)) (wIsi "list" (wVar 1))))) (wRet (wC (.bl false))) wNext)
  (wSeq (wIf (wTest (wBin oNe (wCB oLen (wCons (wVar 0) wNil)) (wCB oLen (wCons (wVar 1) wNil)))) (wRet (wC (.bl false))) wNext)
  (wSeq (wFor (wRg1 (wCB oLen (wCons (wVar 1) wNil))) (gN 2) (wIf (wNot (wTest (wCall (sp__law_same_n c n) (wCons (wBin oIx (wVar 0) (wVar 2)) (wCons (wBin oIx (wVar 1) (wVar 2)) wNil))))) (wRet (wC (.bl false))) wNext))
  (wRet (wC (.bl true)))))) wNext)
  (wSeq (wIf (wTest (wIsi "str" (wVar 1))) (wRet (wAndV (wIsi "str" (wVar 0)) (wBin oEq (wVar 0) (wVar 1)))) wNext)
  (wRet (wAndV (wIsi "int" (wVar 0)) (wBin oEq (wVar 0) (wVar 1))))))))
def N__law_no_letter_ : List Str := ["pool", "letters", "kind"]
/-- _law_no_letter: slots 0 pool, 1 letters, 2 kind, -/
def w__law_no_letter (c : Cl) : WPs := (wSeq (wSet 2 (wCall (sp__law_draw c) (wCons (wVar 0) (wCons (wC (.int 9)) wNil))))
  (wSeq (wIf (wTest (wBin oEq (wVar 2) (wC (.int 0)))) (wRet (wVar 1)) wNext)
  (wSeq (wIf (wTest (wBin oEq (wVar 2) (wC (.int 1)))) (wRet (wBin oSub (wUn oNeg (wC (.int 1))) (wCall (sp__law_draw c) (wCons (wVar 0) (wCons (wVar 1) wNil))))) wNext)
  (wSeq (wIf (wTest (wBin oEq (wVar 2) (wC (.int 2)))) (wRet (wC (.bl true))) wNext)
  (wSeq (wIf (wTest (wBin oEq (wVar 2) (wC (.int 3)))) (wRet (wC (.bl false))) wNext)
  (wSeq (wIf (wTest (wBin oEq (wVar 2) (wC (.int 4)))) (wRet (wC .non)) wNext)
  (wSeq (wIf (wTest (wBin oEq (wVar 2) (wC (.int 5)))) (wRet (wC (.str "0"))) wNext)
  (wSeq (wIf (wTest (wBin oEq (wVar 2) (wC (.int 6)))) (wRet (wTup (wCons (wC (.int 0)) wNil))) wNext)
  (wSeq (wIf (wTest (wBin oEq (wVar 2) (wC (.int 7)))) (wRet (wLst (wCons (wC (.int 0)) (wCons (wC .non) wNil)))) wNext)
  (wRet (wBin oAdd (wBin oAdd (wVar 1) (wC (.int 1))) (wCall (sp__law_draw c) (wCons (wVar 0) (wCons (wBin oPow (wC (.int 10)) (wC (.int 30))) wNil))))))))))))))
def N__law_read_ : List Str := ["sums", "letter", "e"]
/-- _law_read: slots 0 sums, 1 letter, 2 e, -/
def w__law_read (c : Cl) : WPs := (wTryM c.K [⟨c.InvalidLetter, some 2, fun a dd C => (wSeq (wIf (wOr (wTest (wIsET c.K a dd C [c.InvalidNumber, c.InvalidRow, c.TooMany, c.Undefined] (wVar 2))) (wNot (wTest (wIsE c.K a dd C c.ServeError (wVar 2))))) (wRet (wTup (wCons (wC (.str "other")) (wCons (wC (.str "")) wNil)))) wNext)
  (wRet (wTup (wCons (wC (.str "letter")) (wCons (wExF c.K a dd C "letter" (wVar 2)) wNil)))))⟩, ⟨c.ServeError, none, fun a dd C => (wRet (wTup (wCons (wC (.str "other")) (wCons (wC (.str "")) wNil))))⟩] (wRet (wTup (wCons (wC (.str "told")) (wCons (wMeth c.Sums N_Sums (sp_Sums_read c) (wVar 0) (wCons (wVar 1) wNil)) wNil)))))
def N__law_grids_ : List Str := ["plan", "rows", "size", "grids", "at", "grid", "pairs", "weights", "u", "w", "i", "k", "line"]
/-- _law_grids: slots 0 plan, 1 rows, 2 size, 3 grids, 4 at, 5 grid, 6 pairs, 7 weights, 8 u, 9 w, 10 i, 11 k, 12 line, -/
def w__law_grids (c : Cl) : WPs := (wSeq (wSet 2 (wListRg (wCB oLen (wCons (wBin oIx (wVar 0) (wC (.int 2))) wNil))))
  (wSeq (wSet 3 (wLstM wNil))
  (wSeq (wFor (wRg1 (wCB oLen (wCons (wBin oIx (wVar 0) (wC (.int 3))) wNil))) (gN 4) (wSeq (wSet 5 (wLc (wIt (wVar 2)) (gN 10) wYes (wLc (wIt (wVar 2)) (gN 11) wYes (wC (.int 0)) [11]) [10]))
  (wSeq (wFor (wIt (wVar 1)) (gT [(gN 6), (gN 7)]) (wSeq (wAsgG (gT [(gN 8), (gN 9)]) (wBin oIx (wVar 6) (wVar 4)))
  (wSet 5 (wLc (wIt (wVar 2)) (gN 10) wYes (wLc (wIt (wVar 2)) (gN 11) wYes (wBin oMod (wCB oInt (wCons (wBin oAdd (wBin oIx (wBin oIx (wVar 5) (wVar 10)) (wVar 11)) (wBin oMul (wBin oIx (wVar 9) (wVar 10)) (wBin oIx (wVar 8) (wVar 11)))) wNil)) (wBin oIx (wVar 0) (wC (.int 0)))) [11]) [10]))))
  (wDrop (wMt oAppend (wVar 3) (wCons (wCB oTuple (wCons (wLc (wIt (wVar 5)) (gN 12) wYes (wCB oTuple (wCons (wVar 12) wNil)) [12]) wNil)) wNil))))))
  (wRet (wCB oTuple (wCons (wVar 3) wNil))))))
def N__law_own_ : List Str := ["plans", "one", "plan"]
/-- _law_own: slots 0 plans, 1 one, 2 plan, -/
def w__law_own (c : Cl) : WPs := (wSeq (wSet 2 (wBin oIx (wVar 0) (wBin oIx (wVar 1) (wC (.int 1)))))
  (wRet (wTup (wCons (wBin oMod (wCB oInt (wCons (wCB oLen (wCons (wBin oIx (wVar 1) (wC (.int 2))) wNil)) wNil)) (wBin oIx (wVar 2) (wC (.int 0)))) (wCons (wCall (sp__law_grids c) (wCons (wVar 2) (wCons (wBin oIx (wVar 1) (wC (.int 3))) wNil))) wNil)))))
def N__law_is_so_ : List Str := ["plans", "one", "due"]
/-- _law_is_so: slots 0 plans, 1 one, 2 due, -/
def w__law_is_so (c : Cl) : WPs := (wSeq (wSet 2 (wCall (sp__law_own c) (wCons (wVar 0) (wCons (wVar 1) wNil))))
  (wSeq (wIf (wOr (wNot (wTest (wCall (sp__law_same c) (wCons (wFld c.Sums N_Sums 1 (wBin oIx (wVar 1) (wC (.int 0)))) (wCons (wCB oLen (wCons (wBin oIx (wVar 1) (wC (.int 2))) wNil)) wNil))))) (wNot (wTest (wCall (sp__law_same c) (wCons (wFld c.Sums N_Sums 2 (wBin oIx (wVar 1) (wC (.int 0)))) (wCons (wBin oIx (wVar 2) (wC (.int 1))) wNil)))))) (wRet (wC (.bl false))) wNext)
  (wRet (wCall (sp__law_same c) (wCons (wMeth c.Sums N_Sums (sp_Sums_state c) (wBin oIx (wVar 1) (wC (.int 0))) wNil) (wCons (wVar 2) wNil))))))
def N__law_reads_ : List Str := ["pool", "plans", "one", "plan", "letter", "row"]
/-- _law_reads: slots 0 pool, 1 plans, 2 one, 3 plan, 4 letter, 5 row, -/
def w__law_reads (c : Cl) : WPs := (wSeq (wSet 3 (wBin oIx (wVar 1) (wBin oIx (wVar 2) (wC (.int 1)))))
  (wSeq (wSet 4 (wCall (sp__law_draw c) (wCons (wVar 0) (wCons (wCB oLen (wCons (wBin oIx (wVar 3) (wC (.int 1))) wNil)) wNil))))
  (wSeq (wSet 5 (wCall (sp__law_row c) (wCons (wVar 3) (wCons (wBin oIx (wVar 2) (wC (.int 3))) (wCons (wVar 4) (wCons (wC (.int 0)) wNil))))))
  (wSeq (wIf (wNot (wTest (wCall (sp__law_same c) (wCons (wCall (sp__law_read c) (wCons (wBin oIx (wVar 2) (wC (.int 0))) (wCons (wVar 4) wNil))) (wCons (wTup (wCons (wC (.str "told")) (wCons (wBin oIx (wVar 5) (wC (.int 1))) wNil))) wNil))))) (wRet (wC (.bl false))) wNext)
  (wSeq (wDrop (wMt oAppend (wBin oIx (wVar 2) (wC (.int 2))) (wCons (wVar 4) wNil)))
  (wSeq (wDrop (wMt oAppend (wBin oIx (wVar 2) (wC (.int 3))) (wCons (wVar 5) wNil)))
  (wRet (wC (.bl true)))))))))
def N__law_refuses_ : List Str := ["pool", "plans", "one", "bad"]
/-- _law_refuses: slots 0 pool, 1 plans, 2 one, 3 bad, -/
def w__law_refuses (c : Cl) : WPs := (wSeq (wSet 3 (wCall (sp__law_no_letter c) (wCons (wVar 0) (wCons (wCB oLen (wCons (wBin oIx (wBin oIx (wVar 1) (wBin oIx (wVar 2) (wC (.int 1)))) (wC (.int 1))) wNil)) wNil))))
  (wRet (wAndV (wCall (sp__law_same c) (wCons (wCall (sp__law_read c) (wCons (wBin oIx (wVar 2) (wC (.int 0))) (wCons (wVar 3) wNil))) (wCons (wTup (wCons (wC (.str "letter")) (wCons (wVar 3) wNil))) wNil))) (wCall (sp__law_is_so c) (wCons (wVar 1) (wCons (wVar 2) wNil))))))
def N__law_twin_ : List Str := ["pool", "plans", "nets", "all_sums", "one", "made", "handed"]
/-- _law_twin: slots 0 pool, 1 plans, 2 nets, 3 all_sums, 4 one, 5 made, 6 handed, -/
def w__law_twin (c : Cl) : WPs := (wSeq (wIf (wTest (wBin oEq (wCall (sp__law_draw c) (wCons (wVar 0) (wCons (wC (.int 2)) wNil))) (wC (.int 0)))) (wSet 5 (wMeth c.Sums N_Sums (sp_Sums_twin c) (wBin oIx (wVar 4) (wC (.int 0))) wNil)) (wSeq (wSet 6 (wCB oListM (wCons (wBin oIx (wVar 4) (wC (.int 2))) wNil)))
  (wSeq (wSet 5 (wCall (sp_sums_behind c) (wCons (wBin oIx (wVar 2) (wBin oIx (wVar 4) (wC (.int 1)))) (wCons (wVar 6) wNil))))
  (wSeq (wIf (wTest (wBin oNe (wVar 6) (wBin oIx (wVar 4) (wC (.int 2))))) (wRet (wC (.bl false))) wNext)
  (wDrop (wMt oAppend (wVar 6) (wCons (wC (.int 0)) wNil)))))))
  (wSeq (wIf (wTest (wBin oLt (wCB oLen (wCons (wVar 3) wNil)) (wC (.int 6)))) (wDrop (wMt oAppend (wVar 3) (wCons (wLst (wCons (wVar 5) (wCons (wBin oIx (wVar 4) (wC (.int 1))) (wCons (wCB oListM (wCons (wBin oIx (wVar 4) (wC (.int 2))) wNil)) (wCons (wCB oListM (wCons (wBin oIx (wVar 4) (wC (.int 3))) wNil)) wNil))))) wNil))) wNext)
  (wRet (wCall (sp__law_is_so c) (wCons (wVar 1) (wCons (wLst (wCons (wVar 5) (wCons (wBin oIx (wVar 4) (wC (.int 1))) (wCons (wBin oIx (wVar 4) (wC (.int 2))) (wCons (wBin oIx (wVar 4) (wC (.int 3))) wNil))))) wNil))))))
def N__law_compared_ : List Str := ["pool", "plans", "one", "other", "due", "strange"]
/-- _law_compared: slots 0 pool, 1 plans, 2 one, 3 other, 4 due, 5 strange, -/
def w__law_compared (c : Cl) : WPs := (wSeq (wSet 4 (wAndV (wBin oEq (wCB oLen (wCons (wBin oIx (wVar 2) (wC (.int 2))) wNil)) (wCB oLen (wCons (wBin oIx (wVar 3) (wC (.int 2))) wNil))) (wBin oEq (wCall (sp__law_own c) (wCons (wVar 1) (wCons (wVar 2) wNil))) (wCall (sp__law_own c) (wCons (wVar 1) (wCons (wVar 3) wNil))))))
  (wSeq (wIf (wOr (wNot (wTest (wCall (sp__law_same c) (wCons (wBin (oEqO c.Sums N_Sums (sp_Sums___eq__ c)) (wBin oIx (wVar 2) (wC (.int 0))) (wBin oIx (wVar 3) (wC (.int 0)))) (wCons (wVar 4) wNil))))) (wNot (wTest (wCall (sp__law_same c) (wCons (wBin (oNeO c.Sums N_Sums (sp_Sums___eq__ c)) (wBin oIx (wVar 2) (wC (.int 0))) (wBin oIx (wVar 3) (wC (.int 0)))) (wCons (wNotV (wVar 4)) wNil)))))) (wRet (wC (.bl false))) wNext)
  (wSeq (wSet 5 (wBin oIx (wLst (wCons (wC .non) (wCons (wCB oLen (wCons (wBin oIx (wVar 2) (wC (.int 2))) wNil)) (wCons (wCall (sp__law_own c) (wCons (wVar 1) (wCons (wVar 2) wNil))) (wCons (wC (.str "sums")) (wCons (wTup wNil) wNil)))))) (wCall (sp__law_draw c) (wCons (wVar 0) (wCons (wC (.int 5)) wNil)))))
  (wRet (wAndV (wCall (sp__law_same c) (wCons (wBin (oEqO c.Sums N_Sums (sp_Sums___eq__ c)) (wBin oIx (wVar 2) (wC (.int 0))) (wVar 5)) (wCons (wC (.bl false)) wNil))) (wCall (sp__law_same c) (wCons (wBin (oNeO c.Sums N_Sums (sp_Sums___eq__ c)) (wBin oIx (wVar 2) (wC (.int 0))) (wVar 5)) (wCons (wC (.bl true)) wNil))))))))
def N__law_plans_ : List Str := ["pool", "prime", "many", "turn"]
/-- _law_plans: slots 0 pool, 1 prime, 2 many, 3 turn, -/
def w__law_plans (c : Cl) : WPs := (wSeq (wIf (wTest (wBin oEq (wCall (sp__law_draw c) (wCons (wVar 0) (wCons (wC (.int 2)) wNil))) (wC (.int 0)))) (wRet (wLst (wCons (wCall (sp__law_wide_net c) (wCons (wVar 0) wNil)) (wCons (wCall (sp__law_wide_net c) (wCons (wVar 0) wNil)) wNil)))) wNext)
  (wSeq (wSet 1 (wBin oIx (wLst (wCons (wC (.int 2)) (wCons (wC (.int 3)) (wCons (wC (.int 5)) wNil)))) (wCall (sp__law_draw c) (wCons (wVar 0) (wCons (wC (.int 3)) wNil)))))
  (wSeq (wSet 2 (wCall (sp__law_draw c) (wCons (wVar 0) (wCons (wC (.int 3)) wNil))))
  (wRet (wLc (wRg1 (wC (.int 2))) (gN 3) wYes (wCall (sp__law_net c) (wCons (wVar 0) (wCons (wVar 1) (wCons (wBin oAdd (wC (.int 1)) (wCall (sp__law_draw c) (wCons (wVar 0) (wCons (wC (.int 3)) wNil)))) (wCons (wC (.int 1)) (wCons (wVar 2) wNil)))))) [3])))))
def N__law_turn_ : List Str := ["pool", "plans", "nets", "all_sums", "at", "kind", "one"]
/-- _law_turn: slots 0 pool, 1 plans, 2 nets, 3 all_sums, 4 at, 5 kind, 6 one, -/
def w__law_turn (c : Cl) : WPs := (wSeq (wSet 5 (wCall (sp__law_draw c) (wCons (wVar 0) (wCons (wC (.int 12)) wNil))))
  (wSeq (wSet 6 (wBin oIx (wVar 3) (wVar 4)))
  (wSeq (wIf (wTest (wBin oLt (wVar 5) (wC (.int 7)))) (wRet (wCall (sp__law_reads c) (wCons (wVar 0) (wCons (wVar 1) (wCons (wVar 6) wNil))))) wNext)
  (wSeq (wIf (wTest (wBin oEq (wVar 5) (wC (.int 7)))) (wRet (wCall (sp__law_refuses c) (wCons (wVar 0) (wCons (wVar 1) (wCons (wVar 6) wNil))))) wNext)
  (wSeq (wIf (wTest (wBin oEq (wVar 5) (wC (.int 8)))) (wRet (wCall (sp__law_twin c) (wCons (wVar 0) (wCons (wVar 1) (wCons (wVar 2) (wCons (wVar 3) (wCons (wVar 6) wNil))))))) wNext)
  (wSeq (wIf (wTest (wBin oEq (wVar 5) (wC (.int 9)))) (wRet (wCall (sp__law_is_so c) (wCons (wVar 1) (wCons (wVar 6) wNil)))) wNext)
  (wRet (wCall (sp__law_compared c) (wCons (wVar 0) (wCons (wVar 1) (wCons (wVar 6) (wCons (wBin oIx (wVar 3) (wCall (sp__law_draw c) (wCons (wVar 0) (wCons (wCB oLen (wCons (wVar 3) wNil)) wNil)))) wNil))))))))))))
def N_law_ : List Str := ["script", "pool", "plans", "nets", "all_sums", "many", "at", "turn", "one"]
/-- law: slots 0 script, 1 pool, 2 plans, 3 nets, 4 all_sums, 5 many, 6 at, 7 turn, 8 one, -/
def w_law (c : Cl) : WPs := (wSeq (wSet 1 (wCall (sp__law_pool c) (wCons (wVar 0) wNil)))
  (wSeq (wSet 2 (wCall (sp__law_plans c) (wCons (wVar 1) wNil)))
  (wSeq (wSet 3 (wLc (wIt (wVar 2)) (gN 8) wYes (wCall (sp__law_made c) (wCons (wVar 8) (wCons (wBin oEq (wCall (sp__law_draw c) (wCons (wVar 1) (wCons (wC (.int 2)) wNil))) (wC (.int 0))) wNil))) [8]))
  (wSeq (wSet 4 (wLstM (wCons (wLst (wCons (wMake c.Sums N_Sums (sp_Sums_init c) (wCons (wBin oIx (wVar 3) (wC (.int 0))) wNil)) (wCons (wC (.int 0)) (wCons (wLstM wNil) (wCons (wLstM wNil) wNil))))) (wCons (wLst (wCons (wMake c.Sums N_Sums (sp_Sums_init c) (wCons (wBin oIx (wVar 3) (wC (.int 1))) wNil)) (wCons (wC (.int 1)) (wCons (wLstM wNil) (wCons (wLstM wNil) wNil))))) wNil))))
  (wSeq (wIf (wTest (wBin oEq (wCall (sp__law_draw c) (wCons (wVar 1) (wCons (wC (.int 2)) wNil))) (wC (.int 0)))) (wDrop (wMt oAppend (wVar 4) (wCons (wLst (wCons (wMake c.Sums N_Sums (sp_Sums_init c) (wCons (wBin oIx (wVar 3) (wC (.int 0))) wNil)) (wCons (wC (.int 0)) (wCons (wLstM wNil) (wCons (wLstM wNil) wNil))))) wNil))) wNext)
  (wSeq (wIf (wOr (wNot (wTest (wCall (sp__law_compared c) (wCons (wVar 1) (wCons (wVar 2) (wCons (wBin oIx (wVar 4) (wC (.int 0))) (wCons (wBin oIx (wVar 4) (wC (.int 1))) wNil))))))) (wNot (wTest (wCall (sp__law_is_so c) (wCons (wVar 2) (wCons (wBin oIx (wVar 4) (wC (.int 0))) wNil)))))) (wRet (wC (.bl false))) wNext)
  (wSeq (wSet 5 (wBin oAdd (wC (.int 12)) (wCall (sp__law_draw c) (wCons (wVar 1) (wCons (wC (.int 12)) wNil)))))
  (wSeq (wIf (wTest (wBin oEq (wCall (sp__law_draw c) (wCons (wVar 1) (wCons (wC (.int 6)) wNil))) (wC (.int 0)))) (wSet 5 (wC (.int 40))) wNext)
  (wSeq (wSet 6 (wC (.int 0)))
  (wSeq (wFor (wRg1 (wVar 5)) (gN 7) (wSeq (wIf (wTest (wBin oEq (wCall (sp__law_draw c) (wCons (wVar 1) (wCons (wC (.int 3)) wNil))) (wC (.int 0)))) (wSet 6 (wCall (sp__law_draw c) (wCons (wVar 1) (wCons (wCB oLen (wCons (wVar 4) wNil)) wNil)))) wNext)
  (wIf (wNot (wTest (wCall (sp__law_turn c) (wCons (wVar 1) (wCons (wVar 2) (wCons (wVar 3) (wCons (wVar 4) (wCons (wVar 6) wNil)))))))) (wRet (wC (.bl false))) wNext)))
  (wSeq (wIf (wOr (wNot (wTest (wCall (sp__law_twin c) (wCons (wVar 1) (wCons (wVar 2) (wCons (wVar 3) (wCons (wVar 4) (wCons (wBin oIx (wVar 4) (wVar 6)) wNil)))))))) (wNot (wTest (wCall (sp__law_refuses c) (wCons (wVar 1) (wCons (wVar 2) (wCons (wBin oIx (wVar 4) (wC (.int 0))) wNil))))))) (wRet (wC (.bl false))) wNext)
  (wSeq (wFor (wIt (wVar 4)) (gN 8) (wIf (wOr (wNot (wTest (wCall (sp__law_is_so c) (wCons (wVar 2) (wCons (wVar 8) wNil))))) (wNot (wTest (wCall (sp__law_compared c) (wCons (wVar 1) (wCons (wVar 2) (wCons (wVar 8) (wCons (wBin oIx (wVar 4) (wVar 6)) wNil)))))))) (wRet (wC (.bl false))) wNext))
  (wRet (wAndV (wCall (sp__law_reads c) (wCons (wVar 1) (wCons (wVar 2) (wCons (wBin oIx (wVar 4) (wBin oSub (wCB oLen (wCons (wVar 4) wNil)) (wC (.int 1)))) wNil)))) (wCall (sp__law_is_so c) (wCons (wVar 2) (wCons (wBin oIx (wVar 4) (wVar 6)) wNil)))))))))))))))))
end K09
set_option Elab.async false
set_option linter.all false
set_option maxRecDepth 100000
set_option maxHeartbeats 1000000
namespace K09
open PySem PySem.Spec PyProof.Rows L2 DL
theorem seq_k {w u : WPs} {env : DE} {S : Sto} {q : QS} (h : ∀ q1 : QS, (∀ e s, u e s q → q1.nx e s) → q1.rt = q.rt → q1.bk = q.bk → q1.ct = q.ct → q1.xc = q.xc → w env S q1) : wSeq w u env S q :=
  h { q with nx := fun e s => u e s q } (fun _ _ z => z) rfl rfl rfl rfl
theorem kt2 : kitB "bool" "int" = some true := by decide +kernel
theorem kt3 : kitB "int" "int" = some true := by decide +kernel
theorem kt7 : kitB "bool" "bool" = some true := by decide +kernel
theorem kt8 : kitB "int" "bool" = some false := by decide +kernel
theorem oIx_eq {S : Sto} {x d : D} {i : Int} {xs : List D} (h : seqA S x = some xs) (h2 : atI xs i = some d) (Q : Qd) : oIx S x (.int i) Q = Q d S := by
  show some! (seqA S x) _ = _
  rw [h]
  show some! (atI xs i) _ = _
  rw [h2]
  rfl
theorem at_k {α : Type} {xs : List α} {k : Nat} {x : α} (h : xs[k]? = some x) : atI xs (k : Int) = some x := by
  have hl := lt_of_some h
  unfold atI ixN
  rw [if_pos (by omega), if_pos (by omega)]
  show xs[(k : Int).toNat]? = _
  rw [Int.toNat_natCast]; exact h
theorem at_z {α : Type} {xs : List α} {k : Int} {x : α} (h0 : 0 ≤ k) (h : xs[k.toNat]? = some x) : atI xs k = some x := by
  have := at_k h
  rw [Int.toNat_of_nonneg h0] at this; exact this
theorem seqA_at {S : Sto} {p : Addr} {xs : List D} (h : S p = some (.lst xs)) : seqA S (.ref p) = some xs := by
  show (match S p with | some (MO.lst xs) => some xs | _ => none) = _
  rw [h]
theorem seqL_at {S : Sto} {p : Addr} {xs : List D} (h : S p = some (.lst xs)) : seqL S (.ref p) = some xs := seqA_at h
theorem ext_refl (S : Sto) : Ext S S := fun _ _ z => z
theorem ext_put {S S' : Sto} {p : Addr} {m : MO} (e : Ext S S') (h : S' p = none) : Ext S (put S' p m) := fun a n z => by
  have := e a n z
  rw [put_ne (fun y => by rw [y, h] at this; cases this)]; exact this
theorem ext_none {S S' : Sto} {p : Addr} (e : Ext S S') (h : S' p = none) : S p = none := by
  cases z : S p with
  | none => rfl
  | some m => rw [e p m z] at h; cases h
theorem ext_chg {S S' : Sto} {p : Addr} {m : MO} (e : Ext S S') (h : S p = none) : Ext S (put S' p m) := fun a n z => by
  rw [put_ne (fun y => by rw [y, h] at z; cases z)]; exact e a n z
theorem ext_del {S S' : Sto} {p : Addr} (e : Ext S S') (h : S p = none) : Ext S (del S' p) := fun a n z => by
  show (if a = p then none else S' a) = _
  rw [if_neg (fun y => by rw [y, h] at z; cases z)]; exact e a n z
theorem ext_trans {S S' S'' : Sto} (e : Ext S S') (e2 : Ext S' S'') : Ext S S'' := fun a n z => e2 a n (e a n z)
theorem oLen_of {S : Sto} {d : D} {xs : List D} {Q : Qd} (h : seqA S d = some xs) (q : Q (.int (xs.length : Nat)) S) : oLen S [d] Q := by
  have key : some! (seqA S d) fun xs => Q (.int (xs.length : Nat)) S := by rw [h]; exact q
  cases d with
  | str x => cases h
  | _ => exact key
theorem mulw {i j : Int} (hi : 0 ≤ i ∧ i < 10000000000000000000) (hj : 0 ≤ j ∧ j < 10000000000000000000) : CMulW i j := by
  have key : ∀ i : Int, 0 ≤ i ∧ i < 10000000000000000000 → i.natAbs.log2 < 100 := fun i hi => by
    by_cases z : i.natAbs = 0
    · rw [z]; decide
    · have := (Nat.log2_lt (k := 64) z).mpr (by omega); omega
  have := key i hi
  have := key j hj
  unfold CMulW
  omega
theorem divw {i j : Int} (h : 0 < j ∧ j ≤ 1000000000) : CDivW i j := by
  refine ⟨h.1, ?_⟩
  by_cases z : j.natAbs = 0
  · omega
  · have : j.natAbs.log2 < 61 := by rw [Nat.log2_lt z]; omega
    omega
theorem z1 : 1 ≤ sizeLine := by decide
theorem z2 : 2 ≤ sizeLine := by decide
theorem fm_map {α β : Type} {f : α → Option β} {g : α → β} : ∀ (l : List α), (∀ x, x ∈ l → f x = some (g x)) → l.filterMap f = l.map g
  | [], _ => rfl
  | x :: r, h => by rw [List.filterMap_cons, h x List.mem_cons_self, List.map_cons, fm_map r fun y hy => h y (List.mem_cons_of_mem _ hy)]
theorem compI_filt {α : Type} {t : WPg} {tt : WPt} {te : WPe} {g : Sto → Prop} {env : DE} {S : Sto} {Q : List D → Sto → Prop} (xs : List α) (f v : α → D) (p : α → Bool) (hg : g S)
    (h : ∀ a, a ∈ xs → ∀ R : Option D → Sto → Prop, R (if p a = true then some (v a) else none) S → t (f a) env fun e => tt e S (fun b S1 => if b = true then te e S1 (fun y S2 => R (some y) S2) X0 else R none S1) X0)
    (hq : Q ((xs.filter p).map v) S) : compI t tt te g env (xs.map f) S Q := by
  refine compI_inv (fun i acc S' => S' = S ∧ acc = ((xs.take i).filter p).map v) ⟨rfl, by simp⟩ (fun i acc S' hh => by rw [hh.1]; exact hg) ?_ ?_
  · rintro i d acc S' hi ⟨rfl, rfl⟩
    rw [List.getElem?_map] at hi
    obtain ⟨a, ha, rfl⟩ := Option.map_eq_some_iff.mp hi
    have et : xs.take (i + 1) = xs.take i ++ [a] := by rw [List.take_add_one, ha]; rfl
    refine h a (List.mem_of_getElem? ha) (fun o S2 => match o with | some y => S2 = S' ∧ ((xs.take i).filter p).map v ++ [y] = ((xs.take (i + 1)).filter p).map v | none => S2 = S' ∧ ((xs.take i).filter p).map v = ((xs.take (i + 1)).filter p).map v) ?_
    rw [et, List.filter_append, List.map_append]
    by_cases z : p a = true
    · rw [if_pos z]
      exact ⟨rfl, by rw [List.filter_cons_of_pos z]; rfl⟩
    · rw [if_neg z]
      exact ⟨rfl, by rw [List.filter_cons_of_neg z]; simp⟩
  · rintro acc S' ⟨rfl, rfl⟩
    rw [List.length_map, List.take_length]
    exact hq
theorem compI_vals {α : Type} {t : WPg} {te : WPe} {g : Sto → Prop} {env : DE} {S : Sto} {Q : List D → Sto → Prop} (xs : List α) (f v : α → D) (hg : g S)
    (h : ∀ a, a ∈ xs → ∀ R : D → Sto → Prop, R (v a) S → t (f a) env fun e => te e S R X0)
    (hq : Q (xs.map v) S) : compI t wYes te g env (xs.map f) S Q := by
  refine compI_filt xs f v (fun _ => true) hg (fun a ha R hR => ?_) (by rw [List.filter_eq_self.mpr fun _ _ => rfl]; exact hq)
  have := h a ha (fun y S2 => R (some y) S2) hR
  simpa [wYes] using this
theorem rng_eq {n : Nat} : rngD 0 n = (List.range n).map fun (i : Nat) => D.int (i : Int) := by
  unfold rngD
  exact List.map_congr_left fun i _ => by rw [Int.zero_add]
theorem prime_pos {w L : Nat} {n : NetV} (h : NetOk w L n) : 0 < n.prime ∧ 2 ≤ n.prime ∧ n.prime ≤ 97 := by
  have := h.pr
  simp only [thePrimes, List.mem_cons, List.not_mem_nil, or_false] at this
  omega
theorem kt1 : kitB "NoneType" "int" = some false := by decide +kernel
theorem kt4 : kitB "str" "int" = some false := by decide +kernel
theorem kt5 : kitB "tuple" "int" = some false := by decide +kernel
theorem kt6 : kitB "list" "int" = some false := by decide +kernel
/-- a value of a known class -/
theorem kn_cases {S : Sto} {d : D} (h : Kn S d) : d = .non ∨ (∃ b, d = .bl b) ∨ (∃ i, d = .int i) ∨ (∃ x, d = .str x) ∨ (∃ xs, d = .tup xs) ∨ (tyN S d = some "list" ∧ ∃ xs, seqL S d = some xs ∧ seqA S d = some xs) := by
  obtain ⟨n, h⟩ := h
  have key : (seqL S d).map (fun _ => "list") = some n → seqA S d = seqL S d → tyN S d = (seqL S d).map (fun _ => "list") → (tyN S d = some "list" ∧ ∃ xs, seqL S d = some xs ∧ seqA S d = some xs) := fun h1 h2 h3 => by
    cases e : seqL S d with
    | none => rw [e] at h1; cases h1
    | some xs => exact ⟨by rw [h3, e]; rfl, xs, rfl, by rw [h2, e]⟩
  cases d with
  | non => exact .inl rfl
  | bl b => exact .inr (.inl ⟨b, rfl⟩)
  | int i => exact .inr (.inr (.inl ⟨i, rfl⟩))
  | str x => exact .inr (.inr (.inr (.inl ⟨x, rfl⟩)))
  | tup xs => exact .inr (.inr (.inr (.inr (.inl ⟨xs, rfl⟩))))
  | lst xs => exact .inr (.inr (.inr (.inr (.inr (key h rfl rfl)))))
  | ref a => exact .inr (.inr (.inr (.inr (.inr (key h rfl rfl)))))
  | fro xs => exact .inr (.inr (.inr (.inr (.inr (key h rfl rfl)))))
  | obj C N xs => exact .inr (.inr (.inr (.inr (.inr (key h rfl rfl)))))
  | exc a dd C f x => exact .inr (.inr (.inr (.inr (.inr (key h rfl rfl)))))
theorem list_not_in {S : Sto} {d : D} {l m : Int} (h : tyN S d = some "list") : inR l m d = false := by
  cases d with
  | int i => exact absurd (Option.some.inj (show some "int" = some "list" from h)) (by decide)
  | _ => rfl
theorem kn_int {S : Sto} (i : Int) : Kn S (.int i) := ⟨_, rfl⟩
theorem isLet_int {L : Nat} {i : Int} (h : 0 ≤ i ∧ i < (L : Int)) : isLet L (.int i) = true := decide_eq_true (by omega)
theorem lets_let {L : Nat} {v : Vec} (h : LetsOk L v) : ∀ d, d ∈ v.map D.int → isLet L d = true := fun d hd => by
  obtain ⟨i, hi, rfl⟩ := List.mem_map.mp hd
  exact isLet_int (h i hi)
/-! ### asks of plain letters -/
end K09
set_option Elab.async false
set_option linter.all false
set_option maxRecDepth 100000
set_option maxHeartbeats 1000000
namespace K09
open PySem PySem.Spec PyProof.Rows L2 DL
theorem len_product_sum (c : Cl) : ∀ ds S Q E, sp_product_sum c ds S Q E → ds.length = 2 := by
  rintro ds S Q E ⟨_, _, _, _, rfl, _⟩; rfl
theorem zipD_ints {a b : Vec} : zipD (a.map D.int) (b.map D.int) = (a.zip b).map fun p => D.tup [.int p.1, .int p.2] := by
  unfold zipD
  rw [List.zip_map, List.map_map]
  rfl
theorem psum_zip (a b : Vec) : psum a b = ((a.zip b).map fun p => p.1 * p.2).sum := by
  unfold psum
  rw [List.zip, List.map_zipWith]
theorem zip_mem {a b : Vec} {p : Int × Int} (h : p ∈ a.zip b) : p.1 ∈ a ∧ p.2 ∈ b := ⟨(List.of_mem_zip h).1, (List.of_mem_zip h).2⟩
theorem seqA_dR2 {S : Sto} {k : Bool} {xs : List Int} : seqA S (dR k xs) = some (xs.map D.int) := seqA_dR
theorem rd_product_sum (c : Cl) : ∀ ds S Q X1, sp_product_sum c ds S Q X1 → w_product_sum c (startD N_product_sum_ ds) S (endQ Q X1) := by
  rintro ds S Q X1 ⟨i, j, a, b, rfl, ha, hb, h⟩
  show w_product_sum c [some (dR i a), some (dR j b), none, none, none] S (endQ Q X1)
  unfold w_product_sum
  refine seq_k fun q1 n1 r1 _ _ x1 => ?_
  simp only [wSet, wC, setV]
  refine n1 _ _ ?_
  refine seq_k fun q1 n1 r1 _ _ x1 => ?_
  simp only [wFor, wZip, wVar, getV, some!, seqA_dR]
  refine forI_invq (fun k e S' => S' = S ∧ ∃ x3 x4, e = [some (dR i a), some (dR j b), some (.int (((a.zip b).take k).map fun p => p.1 * p.2).sum), x3, x4]) ⟨rfl, _, _, rfl⟩ (fun k e S' h => ⟨trivial, trivial⟩) ?_ ?_
  · rintro k d e S' hi ⟨rfl, x3, x4, rfl⟩ q hq _ _ _ _
    rw [zipD_ints, List.getElem?_map] at hi
    obtain ⟨p, hp, rfl⟩ := Option.map_eq_some_iff.mp hi
    have hm := zip_mem (List.mem_of_getElem? hp)
    have h1 := ha _ hm.1
    have h2 := hb _ hm.2
    simp only [gT, gAll, gN, setV]
    refine ⟨rfl, ?_⟩
    simp only [wAug, wBin, wVar, getV, setV, some!, oMul, oI, oI0]
    refine ⟨mulw ⟨h1.1, by omega⟩ ⟨h2.1, by omega⟩, hq _ _ ⟨rfl, some (.int p.1), some (.int p.2), ?_⟩⟩
    rw [List.take_add_one, hp]
    simp
  · rintro e S' ⟨rfl, x3, x4, rfl⟩
    refine n1 _ _ ?_
    rw [zipD_ints, List.length_map, List.take_length, ← psum_zip]
    simp only [wRet, wVar, getV, some!]
    exact h
theorem len_Net_rest (c : Cl) : ∀ ds S Q E, sp_Net_rest c ds S Q E → ds.length = 2 := by
  rintro ds S Q E ⟨_, _, _, rfl, _⟩; rfl
theorem rd_Net_rest (c : Cl) : ∀ ds S Q X1, sp_Net_rest c ds S Q X1 → w_Net_rest c (startD N_Net_rest_ ds) S (endQ Q X1) := by
  rintro ds S Q X1 ⟨n, e, v, rfl, hp, h⟩
  show w_Net_rest c [some (dNet c n e), some (.int v)] S (endQ Q X1)
  unfold w_Net_rest
  simp only [wRet, wBin, wCB, wCons, wNil, wFld, wVar, getV, some!, oInt, one, fldD, dNet, true_and, netF, List.getElem?_cons_zero, oMod, oI]
  exact ⟨hp, h⟩
theorem len_Net_times (c : Cl) : ∀ ds S Q E, sp_Net_times c ds S Q E → ds.length = 3 := by
  rintro ds S Q E ⟨_, _, _, _, _, rfl, _⟩; rfl
theorem isN {c : Cl} {n : NetV} {e : Option Int} {S : Sto} : isIns c.Net N_Net S (dNet c n e) := ⟨rfl, rfl⟩
theorem rd_Net_times (c : Cl) : ∀ ds S Q X1, sp_Net_times c ds S Q X1 → w_Net_times c (startD N_Net_times_ ds) S (endQ Q X1) := by
  rintro ds S Q X1 ⟨n, e, m, j, v, rfl, hp, hm, hr, hv, h⟩
  show w_Net_times c [some (dNet c n e), some (dM m), some (dR j v), none] S (endQ Q X1)
  unfold w_Net_times
  simp only [wRet, wCB, wCons, wNil, wLc, wIt, wVar, getV, some!, dM, seqA, delVs, delV, List.length_map]
  refine ⟨by unfold sizeLine; omega, compI_vals m dT (fun r => .int (psum r v % n.prime)) trivial (fun r hr2 R hR => ?_) ?_⟩
  · simp only [gN, setV, wMeth, wCall, wCons, wNil, wVar, getV, some!]
    exact ⟨isN, true, j, r, v, rfl, hr r hr2, hv, n, e, _, rfl, hp, hR⟩
  · simp only [oTuple, one, seqA, seqL, seqM, some!]
    have e : m.map (fun r => D.int (psum r v % n.prime)) = (timesF n.prime m v).map D.int := by unfold timesF; rw [List.map_map]; rfl
    rw [e]
    exact h
theorem len_Net_plus (c : Cl) : ∀ ds S Q E, sp_Net_plus c ds S Q E → ds.length = 3 := by
  rintro ds S Q E ⟨_, _, _, _, _, _, rfl, _⟩; rfl
theorem plusF_zip (p : Int) (a b : Vec) : plusF p a b = (a.zip b).map fun q => (q.1 + q.2) % p := by
  unfold plusF
  rw [List.zip, List.map_zipWith]
theorem rd_Net_plus (c : Cl) : ∀ ds S Q X1, sp_Net_plus c ds S Q X1 → w_Net_plus c (startD N_Net_plus_ ds) S (endQ Q X1) := by
  rintro ds S Q X1 ⟨n, e, i, j, a, b, rfl, hp, hl, h⟩
  show w_Net_plus c [some (dNet c n e), some (dR i a), some (dR j b), none, none] S (endQ Q X1)
  unfold w_Net_plus
  simp only [wRet, wCB, wCons, wNil, wLc, wZip, wVar, getV, some!, seqA_dR, delVs, delV]
  refine ⟨by rw [zipD_length, List.length_map]; unfold sizeLine; omega, ?_⟩
  rw [zipD_ints]
  refine compI_vals (a.zip b) (fun p => D.tup [.int p.1, .int p.2]) (fun q => .int ((q.1 + q.2) % n.prime)) ⟨trivial, trivial⟩ (fun q hq R hR => ?_) ?_
  · simp only [gT, gAll, gN, setV]
    refine ⟨rfl, ?_⟩
    simp only [wMeth, wBin, wCons, wNil, wVar, getV, some!, oAdd]
    exact ⟨isN, n, e, _, rfl, hp, hR⟩
  · simp only [oTuple, one, seqA, seqL, seqM, some!]
    have e : (a.zip b).map (fun q => D.int ((q.1 + q.2) % n.prime)) = (plusF n.prime a b).map D.int := by rw [plusF_zip, List.map_map]; rfl
    rw [e]
    exact h
theorem len_is_between (c : Cl) : ∀ ds S Q E, sp_is_between c ds S Q E → ds.length = 3 := by
  rintro ds S Q E ⟨_, _, _, rfl, _⟩; rfl
theorem rd_is_between (c : Cl) : ∀ ds S Q X1, sp_is_between c ds S Q X1 → w_is_between c (startD N_is_between_ ds) S (endQ Q X1) := by
  rintro ds S Q X1 ⟨d, l, m, rfl, hk, h⟩
  show w_is_between c [some d, some (.int l), some (.int m)] S (endQ Q X1)
  unfold w_is_between
  simp only [wRet, wAndV, wIsi, wNotV, wVar, getV, some!]
  rcases kn_cases hk with rfl | ⟨b, rfl⟩ | ⟨v, rfl⟩ | ⟨x, rfl⟩ | ⟨xs, rfl⟩ | ⟨e1, xs, e2, e3⟩
  · simp only [tyN, kt1, Bool.false_eq_true, if_false]; exact h
  · simp only [tyN, kt2, kt7, if_true, Bool.not_true, Bool.false_eq_true, if_false]; exact h
  · simp only [tyN, kt3, kt8, if_true, Bool.not_false, wChain, wVar, getV, some!, oLe, oI0, decide_eq_true_eq]
    unfold inR at h
    dsimp only at h
    by_cases z : l ≤ v
    · rw [if_pos z]
      by_cases y : v ≤ m
      · rw [decide_eq_true y]; rw [decide_eq_true (⟨z, y⟩ : l ≤ v ∧ v ≤ m)] at h; exact h
      · rw [decide_eq_false y]; rw [decide_eq_false (fun x : l ≤ v ∧ v ≤ m => y x.2)] at h; exact h
    · rw [if_neg z]; rw [decide_eq_false (fun x : l ≤ v ∧ v ≤ m => z x.1)] at h; exact h
  · simp only [tyN, kt4, Bool.false_eq_true, if_false]; exact h
  · simp only [tyN, kt5, Bool.false_eq_true, if_false]; exact h
  · rw [list_not_in e1] at h
    simp only [e1, kt6, Bool.false_eq_true, if_false]; exact h
theorem len_Net_is_letter (c : Cl) : ∀ ds S Q E, sp_Net_is_letter c ds S Q E → ds.length = 2 := by
  rintro ds S Q E ⟨_, _, _, rfl, _⟩; rfl
theorem rd_Net_is_letter (c : Cl) : ∀ ds S Q X1, sp_Net_is_letter c ds S Q X1 → w_Net_is_letter c (startD N_Net_is_letter_ ds) S (endQ Q X1) := by
  rintro ds S Q X1 ⟨n, e, d, rfl, hk, h⟩
  show w_Net_is_letter c [some (dNet c n e), some d] S (endQ Q X1)
  unfold w_Net_is_letter
  simp only [wRet, wBin, wCall, wCB, wCons, wNil, wC, wFld, wVar, getV, some!, oLen, one, fldD, dNet, true_and, netF, List.getElem?_cons_zero, List.getElem?_cons_succ, dM, seqA, seqL, seqM, List.length_map, oSub, oI0]
  exact ⟨_, _, _, rfl, hk, h⟩
theorem isInt_inR {l m : Int} {d : D} : inR l m d = (isInt d && inR l m d) := by cases d <;> rfl
theorem list_not_int {S : Sto} {d : D} (h : tyN S d = some "list") : isInt d = false := by
  cases d with
  | int i => exact absurd (Option.some.inj (show some "int" = some "list" from h)) (by decide)
  | _ => rfl
/-! ### matrices as they may be read -/
theorem oTuple_at {S : Sto} {d : D} {xs : List D} (h : seqA S d = some xs) (Q : Qd) : oTuple S [d] Q = Q (.tup xs) S := by
  simp only [oTuple, one, h, some!]
theorem oLen_at {S : Sto} {d : D} {xs : List D} (h : seqA S d = some xs) (Q : Qd) : oLen S [d] Q = Q (.int (xs.length : Nat)) S := by
  cases d with
  | str x => cases h
  | _ => simp only [oLen, one, h, some!]
theorem len_vector_of (c : Cl) : ∀ ds S Q E, sp_vector_of c ds S Q E → ds.length = 1 := by
  rintro ds S Q E ⟨_, _, rfl, _⟩; rfl
theorem rd_vector_of (c : Cl) : ∀ ds S Q X1, sp_vector_of c ds S Q X1 → w_vector_of c (startD N_vector_of_ ds) S (endQ Q X1) := by
  rintro ds S Q X1 ⟨v, d, rfl, hd, h⟩
  show w_vector_of c [some d] S (endQ Q X1)
  unfold w_vector_of
  have o := fun Q => oTuple_at hd Q
  simp only [wRet, wCB, wCons, wNil, wVar, getV, some!, o]
  exact h
theorem len_matrix_of (c : Cl) : ∀ ds S Q E, sp_matrix_of c ds S Q E → ds.length = 1 := by
  rintro ds S Q E ⟨_, _, rfl, _⟩; rfl
theorem walk_at_seq {S : Sto} {d : D} {xs : List D} (h : seqA S d = some xs) : True := trivial
theorem rd_matrix_of (c : Cl) : ∀ ds S Q X1, sp_matrix_of c ds S Q X1 → w_matrix_of c (startD N_matrix_of_ ds) S (endQ Q X1) := by
  rintro ds S Q X1 ⟨m, d, rfl, ⟨xs, hd, hl, hx⟩, h1000, h⟩
  show w_matrix_of c [some d, none] S (endQ Q X1)
  unfold w_matrix_of
  simp only [wRet, wCB, wCons, wNil, wLc, wIt, wVar, getV, some!, hd, delVs, delV]
  refine ⟨by unfold sizeLine; omega, compI_inv (fun k acc S' => S' = S ∧ acc = (m.take k).map dT) ⟨rfl, rfl⟩ (fun k acc S' hp => by rw [hp.1]; exact hd) ?_ ?_⟩
  · rintro k x acc S' hk ⟨rfl, rfl⟩
    have hkl := lt_of_some hk
    obtain ⟨v, hv⟩ : ∃ v, m[k]? = some v := ⟨_, List.getElem?_eq_getElem (by omega)⟩
    simp only [gN, setV, wYes, if_true, wCall, wCons, wNil, wVar, getV, some!]
    refine ⟨v, x, rfl, hx k x v hk hv, rfl, ?_⟩
    rw [List.take_add_one, hv, List.map_append]; rfl
  · rintro acc S' ⟨rfl, rfl⟩
    rw [hl, List.take_length]
    simp only [oTuple, one, seqA, seqL, seqM, some!]
    exact h
end K09
set_option Elab.async false
set_option linter.all false
set_option maxRecDepth 100000
set_option maxHeartbeats 1000000
namespace K09
open PySem PySem.Spec PyProof.Rows L2 DL
theorem seqA_ext {S S' : Sto} {d : D} {xs : List D} (e : Ext S S') (h : seqA S d = some xs) : seqA S' d = some xs := by
  cases d with
  | ref a =>
    have h' : (match S a with | some (MO.lst xs) => some xs | _ => none) = some xs := h
    show (match S' a with | some (MO.lst xs) => some xs | _ => none) = some xs
    cases q : S a with
    | none => rw [q] at h'; cases h'
    | some m => rw [e a m q]; rw [q] at h'; exact h'
  | _ => exact h
/-! ### bounds, widths -/
theorem psum_bd : ∀ {a b : Vec}, Sm a → Sm b → 0 ≤ psum a b ∧ psum a b ≤ 1000000000000 * (a.length : Int)
  | [], b, _, _ => by unfold psum; simp
  | x :: r, [], _, _ => by unfold psum; simp; omega
  | x :: r, y :: s, ha, hb => by
    have h1 := ha x List.mem_cons_self
    have h2 := hb y List.mem_cons_self
    have ih := psum_bd (a := r) (b := s) (fun z hz => ha z (List.mem_cons_of_mem _ hz)) fun z hz => hb z (List.mem_cons_of_mem _ hz)
    have e : psum (x :: r) (y :: s) = x * y + psum r s := by unfold psum; rw [List.zipWith_cons_cons, List.sum_cons]
    have h3 : 0 ≤ x * y := Int.mul_nonneg h1.1 h2.1
    have h4 : x * y ≤ 1000000 * 1000000 := Int.mul_le_mul (by omega) (by omega) h2.1 (by omega)
    rw [e, List.length_cons]
    omega
theorem sm_mod {p x : Int} (h : 0 < p ∧ p ≤ 97) : 0 ≤ x % p ∧ x % p < 97 := by
  have := Int.emod_nonneg x (show p ≠ 0 by omega)
  have := Int.emod_lt_of_pos x h.1
  omega
def Sm97 (v : Vec) : Prop := ∀ x, x ∈ v → 0 ≤ x ∧ x < 97
theorem Sm97.sm {v : Vec} (h : Sm97 v) : Sm v := fun x hx => by have := h x hx; omega
theorem sm_times {p : Int} {m : Mat} {v : Vec} (h : 0 < p ∧ p ≤ 97) : Sm97 (timesF p m v) := fun x hx => by
  unfold timesF at hx
  obtain ⟨r, _, rfl⟩ := List.mem_map.mp hx
  exact sm_mod h
theorem sm_plus {p : Int} {a b : Vec} (h : 0 < p ∧ p ≤ 97) : Sm97 (plusF p a b) := fun x hx => by
  rw [plusF_zip] at hx
  obtain ⟨q, _, rfl⟩ := List.mem_map.mp hx
  exact sm_mod h
theorem len_plus {p : Int} {a b : Vec} : (plusF p a b).length = min a.length b.length := by
  unfold plusF; rw [List.length_zipWith]
theorem len_times {p : Int} {m : Mat} {v : Vec} : (timesF p m v).length = m.length := by unfold timesF; rw [List.length_map]
theorem sm_sq {v : Vec} (h : Sm97 v) : Sm (v.map fun n => n * n) := fun x hx => by
  obtain ⟨y, hy, rfl⟩ := List.mem_map.mp hx
  have h1 := h y hy
  have h3 : 0 ≤ y * y := Int.mul_nonneg h1.1 h1.1
  have h4 : y * y ≤ 97 * 97 := Int.mul_le_mul (by omega) (by omega) h1.1 (by omega)
  omega
theorem len_look {p : Int} {q : Vec} {w : Nat} : ∀ {pairs : List (Vec × Vec)}, q.length = w → (∀ x, x ∈ pairs → x.2.length = w) → (lookF p q pairs).length = w := by
  intro pairs hq hp
  unfold lookF
  have key : ∀ (ps : List (Vec × Vec)) (f : Vec), (∀ x, x ∈ ps → x.2.length = w) → f.length = w → (ps.foldl (fun f kv => plusF p f (kv.2.map (psum q kv.1 * ·))) f).length = w := by
    intro ps
    induction ps with
    | nil => exact fun f _ h => h
    | cons x r ih =>
      intro f h1 h2
      refine ih _ (fun y hy => h1 y (List.mem_cons_of_mem _ hy)) ?_
      rw [len_plus, List.length_map, h2, h1 x List.mem_cons_self, Nat.min_self]
  exact key pairs _ hp (by rw [List.length_map]; exact hq)
theorem look_snoc {p : Int} {q : Vec} {pairs : List (Vec × Vec)} {k : Nat} {x : Vec × Vec} (h : pairs[k]? = some x) : lookF p q (pairs.take (k + 1)) = plusF p (lookF p q (pairs.take k)) (x.2.map (psum q x.1 * ·)) := by
  unfold lookF
  rw [List.take_add_one, h, List.foldl_append]
  rfl
theorem sm_look {p : Int} {q : Vec} {pairs : List (Vec × Vec)} (h : 0 < p ∧ p ≤ 97) : Sm97 (lookF p q pairs) := by
  unfold lookF
  have key : ∀ (ps : List (Vec × Vec)) (f : Vec), Sm97 f → Sm97 (ps.foldl (fun f kv => plusF p f (kv.2.map (psum q kv.1 * ·))) f) := by
    intro ps
    induction ps with
    | nil => exact fun f h => h
    | cons x r ih => exact fun f _ => ih _ (sm_plus h)
  exact key pairs _ fun x hx => by
    obtain ⟨_, _, rfl⟩ := List.mem_map.mp hx
    omega
/-! ### looked_at -/
theorem ints_map {v : Vec} {f : Int → Int} : v.map (fun x => D.int (f x)) = (v.map f).map D.int := by rw [List.map_map]; rfl
end K09
set_option Elab.async false
set_option linter.all false
set_option maxRecDepth 100000
set_option maxHeartbeats 1000000
namespace K09
open PySem PySem.Spec PyProof.Rows L2 DL
def W97 (w : Nat) (v : Vec) : Prop := v.length = w ∧ Sm97 v
theorem W97.wd {w : Nat} {v : Vec} (h : W97 w v) : Wd w v := ⟨h.1, h.2.sm⟩
structure StOk (w : Nat) (st : List (Vec × Vec) × Vec) : Prop where
  x : W97 w st.2
  pa : ∀ p, p ∈ st.1 → W97 w p.1 ∧ W97 w p.2
theorem w97_times {w : Nat} {p : Int} {m : Mat} {v : Vec} (hp : 0 < p ∧ p ≤ 97) (h : m.length = w) : W97 w (timesF p m v) := ⟨by rw [len_times]; exact h, sm_times hp⟩
theorem w97_plus {w : Nat} {p : Int} {a b : Vec} (hp : 0 < p ∧ p ≤ 97) (ha : a.length = w) (hb : b.length = w) : W97 w (plusF p a b) := ⟨by rw [len_plus, ha, hb, Nat.min_self], sm_plus hp⟩
theorem before_ok {w L m i : Nat} {rows : List Rw} (h : RowsOk w L m rows) (hi : i < m) : ∀ q, q ∈ beforeF rows i → Wd w q.1 ∧ Wd w q.2 := fun q hq => by
  unfold beforeF at hq
  obtain ⟨r, hr, rfl⟩ := List.mem_map.mp hq
  obtain ⟨⟨l, a⟩, _⟩ := h.2 r hr
  have hl : i < r.pairs.length := by omega
  rw [List.getD_eq_getElem?_getD, List.getElem?_eq_getElem hl]
  exact a _ (List.getElem_mem hl)
theorem step_ok {w L m : Nat} {p : Int} {rows : List Rw} {st : List (Vec × Vec) × Vec} {l : Lay} (hp : 0 < p ∧ p ≤ 97) (hr : RowsOk w L m rows) (hi : st.1.length < m) (hl : LayOk w l) (h : StOk w st) : StOk w (stepL p rows st l) := by
  obtain ⟨h1, h2, h3, h4, h5⟩ := hl
  have hk := w97_times (v := st.2) hp h2.1
  have hv := w97_times (v := st.2) hp h3.1
  have hq := w97_times (v := st.2) hp h1.1
  have hlook : (lookF p (timesF p l.q st.2) (beforeF rows st.1.length ++ [pairF p l st.2])).length = w := len_look hq.1 fun x hx => by
    rcases List.mem_append.mp hx with z | z
    · exact (before_ok hr hi x z).2.1
    · rw [List.mem_singleton] at z; subst z; exact hv.1
  have hx1 := w97_plus (b := lookF p (timesF p l.q st.2) (beforeF rows st.1.length ++ [pairF p l st.2])) hp h.x.1 hlook
  refine ⟨w97_plus hp hx1.1 (by rw [len_times]; exact h5.1), fun q hq => ?_⟩
  rcases List.mem_append.mp hq with z | z
  · exact h.pa q z
  · rw [List.mem_singleton] at z; subst z; exact ⟨hk, hv⟩
theorem fold_snoc {α β : Type} {f : β → α → β} {xs : List α} {i : Nat} {x : α} {b : β} (h : xs[i]? = some x) : (xs.take (i + 1)).foldl f b = f ((xs.take i).foldl f b) x := by
  rw [List.take_add_one, h, List.foldl_append]
  rfl
theorem fold_len {p : Int} {rows : List Rw} : ∀ (ls : List Lay) (st : List (Vec × Vec) × Vec), (ls.foldl (stepL p rows) st).1.length = st.1.length + ls.length
  | [], st => rfl
  | l :: r, st => by
    rw [List.foldl_cons, fold_len r]
    show (st.1 ++ [_]).length + _ = _
    simp only [List.length_append, List.length_cons, List.length_nil]; omega
theorem fold_ok {w L m : Nat} {p : Int} {rows : List Rw} (hp : 0 < p ∧ p ≤ 97) (hr : RowsOk w L m rows) : ∀ (ls : List Lay) (st : List (Vec × Vec) × Vec), (∀ l, l ∈ ls → LayOk w l) → st.1.length + ls.length ≤ m → StOk w st → StOk w (ls.foldl (stepL p rows) st)
  | [], st, _, _, h => h
  | l :: r, st, hl, hm, h => by
    rw [List.length_cons] at hm
    rw [List.foldl_cons]
    refine fold_ok hp hr r _ (fun x hx => hl x (List.mem_cons_of_mem _ hx)) ?_ (step_ok hp hr (by omega) (hl l List.mem_cons_self) h)
    show (st.1 ++ [_]).length + _ ≤ _
    rw [List.length_append, List.length_singleton]; omega
theorem x0_ok {w L : Nat} {n : NetV} {rows : List Rw} {l : Int} (hn : NetOk w L n) (hl : 0 ≤ l ∧ l < (L : Int)) : W97 w (x0F n rows l) := by
  have hp := prime_pos hn
  have hlt : l.toNat < n.embed.length := by have := hn.em.1; omega
  refine w97_plus ⟨hp.1, hp.2.2⟩ ?_ (by rw [List.length_map]; exact hn.sh.1)
  rw [List.getD_eq_getElem?_getD, List.getElem?_eq_getElem hlt]
  exact (hn.em.2 _ (List.getElem_mem hlt)).1
theorem row_ok {w L : Nat} {n : NetV} {rows : List Rw} {l : Int} (hn : NetOk w L n) (hr : RowsOk w L n.layers.length rows) (hl : 0 ≤ l ∧ l < (L : Int)) : RwOk w L n.layers.length (rowF n rows l) := by
  have hp := prime_pos hn
  have hp' : 0 < n.prime ∧ n.prime ≤ 97 := ⟨hp.1, hp.2.2⟩
  have ok := fold_ok hp' hr n.layers ([], x0F n rows l) hn.la.2 (by simp) ⟨x0_ok hn hl, fun p h => by cases h⟩
  refine ⟨⟨by show (n.layers.foldl (stepL n.prime rows) ([], x0F n rows l)).1.length = _; rw [fold_len]; simp, fun p h => ⟨(ok.pa p h).1.wd, (ok.pa p h).2.wd⟩⟩, by show (n.out.map _).length = L; rw [List.length_map]; exact hn.ou.1, fun x hx => ?_⟩
  obtain ⟨v, _, rfl⟩ := List.mem_map.mp hx
  have := sm_mod (x := psum v (n.layers.foldl (stepL n.prime rows) ([], x0F n rows l)).2) hp'
  omega
end K09
set_option Elab.async false
set_option linter.all false
set_option maxRecDepth 100000
set_option maxHeartbeats 1000000
namespace K09
open PySem PySem.Spec PyProof.Rows L2 DL
theorem at_last {α : Type} {xs : List α} {x : α} (h : xs.getLast? = some x) : atI xs (-1) = some x := by
  have hne : xs ≠ [] := fun z => by rw [z] at h; cases h
  have hl := List.length_pos_iff.mpr hne
  have key : ixN xs.length (-1) = some (xs.length - 1) := by
    unfold ixN
    rw [if_neg (by decide)]
    first
      | (rw [if_pos (by omega)]; congr 1; omega)
      | (simp; omega)
  unfold atI
  rw [key]
  show xs[xs.length - 1]? = some x
  rw [← List.getLast?_eq_getElem?]; exact h
theorem rowsF_snoc (n : NetV) (ls : Vec) (l : Int) : rowsF n (ls ++ [l]) = rowsF n ls ++ [rowF n (rowsF n ls) l] := by
  unfold rowsF; rw [List.foldl_append]; rfl
theorem rowsF_take {n : NetV} {ls : Vec} {i : Nat} {l : Int} (h : ls[i]? = some l) : rowsF n (ls.take (i + 1)) = rowsF n (ls.take i) ++ [rowF n (rowsF n (ls.take i)) l] := by
  rw [List.take_add_one, h]; exact rowsF_snoc ..
theorem rowsF_len (n : NetV) (ls : Vec) : (rowsF n ls).length = ls.length := by
  have key : ∀ k, (rowsF n (ls.take k)).length = (ls.take k).length := by
    intro k
    induction k with
    | zero => rfl
    | succ k ih =>
      cases h : ls[k]? with
      | none =>
        have hl := List.getElem?_eq_none_iff.mp h
        rw [List.take_of_length_le (by omega : ls.length ≤ k + 1)]
        rw [List.take_of_length_le hl] at ih; exact ih
      | some l =>
        rw [rowsF_take h, List.length_append, ih, List.take_add_one, h, List.length_append]; rfl
  have := key ls.length
  rwa [List.take_length] at this
theorem rowsF_ok {w L : Nat} {n : NetV} {ls : Vec} (hn : NetOk w L n) (hl : LetsOk L ls) (h50 : ls.length ≤ 50000) : ∀ k, RowsOk w L n.layers.length (rowsF n (ls.take k)) := by
  intro k
  induction k with
  | zero => exact ⟨Nat.zero_le _, fun r h => by cases h⟩
  | succ k ih =>
    refine ⟨by rw [rowsF_len, List.length_take]; omega, fun r hr => ?_⟩
    cases h : ls[k]? with
    | none =>
      have hl := List.getElem?_eq_none_iff.mp h
      rw [List.take_of_length_le (by omega : ls.length ≤ k + 1)] at hr
      rw [List.take_of_length_le hl] at ih; exact ih.2 r hr
    | some l =>
      rw [rowsF_take h] at hr
      rcases List.mem_append.mp hr with z | z
      · exact ih.2 r z
      · rw [List.mem_singleton] at z; subst z
        exact row_ok hn ih (hl l (List.mem_of_getElem? h))
theorem prime_in {S : Sto} {p : Int} {Q : Qd} (h : p ∈ thePrimes) (q : Q (.bl false) S) : oInD true S (.int p) (.tup (K_PRIMES.map D.int)) Q := by
  refine ⟨⟨rfl, by show (PyData.int p).depth ≤ 8; exact Nat.zero_le _⟩, by show (PyData.tuple (toPs (K_PRIMES.map D.int))).canLay0 = true; decide +kernel, ?_⟩
  show Q (.bl (!hasD (PyData.int p) (toPs (K_PRIMES.map D.int)))) S
  have e : hasD (PyData.int p) (toPs (K_PRIMES.map D.int)) = true := by
    simp only [thePrimes, List.mem_cons, List.not_mem_nil, or_false] at h
    rcases h with rfl | rfl | rfl | rfl | rfl | rfl | rfl | rfl | rfl | rfl | rfl | rfl | rfl | rfl | rfl | rfl | rfl | rfl | rfl | rfl | rfl | rfl | rfl | rfl | rfl <;> decide +kernel
  rw [e]; exact q
theorem setD_at {S : Sto} {a C : Addr} {N : List Str} {xs : DE} {i : Nat} {d : D} {k : Sto → Prop} (h : S a = some (.ins C N xs)) (q : k (put S a (.ins C N (setV xs i d)))) : setD C N i S (.ref a) d k := by
  show (match S a with | some (MO.ins C' N' xs) => _ | _ => False)
  rw [h]
  exact ⟨⟨rfl, rfl⟩, q⟩
end K09
set_option Elab.async false
set_option linter.all false
set_option maxRecDepth 100000
set_option maxHeartbeats 1000000
namespace K09
open PySem PySem.Spec PyProof.Rows L2 DL
theorem seqA_put {S : Sto} {a C : Addr} {N : List Str} {xs : DE} {m : MO} {d : D} {ys : List D} (h : S a = some (.ins C N xs)) (hd : seqA S d = some ys) : seqA (put S a m) d = some ys := by
  cases d with
  | ref p =>
    by_cases z : p = a
    · subst z
      have : (match S p with | some (.lst xs) => some xs | _ => none) = some ys := hd
      rw [h] at this
      cases this
    · show (match put S a m p with | some (.lst xs) => some xs | _ => none) = some ys
      rw [put_ne z]
      exact hd
  | _ => exact hd
theorem matAt_put {S : Sto} {a C : Addr} {N : List Str} {xs : DE} {m : MO} {d : D} {mt : Mat} (h : S a = some (.ins C N xs)) (hd : MatAt S d mt) : MatAt (put S a m) d mt := by
  obtain ⟨ds, h1, h2, h3⟩ := hd
  exact ⟨ds, seqA_put h h1, h2, fun i x v e1 e2 => seqA_put h (h3 i x v e1 e2)⟩
theorem laysAt_put {S : Sto} {a C : Addr} {N : List Str} {xs : DE} {m : MO} {d : D} {ls : List Lay} (h : S a = some (.ins C N xs)) (hd : LaysAt S d ls) : LaysAt (put S a m) d ls := by
  obtain ⟨ds, h1, h2, h3⟩ := hd
  refine ⟨ds, seqA_put h h1, h2, fun i x l e1 e2 => ?_⟩
  obtain ⟨gs, g1, g2, g3⟩ := h3 i x l e1 e2
  exact ⟨gs, seqA_put h g1, g2, fun j g mt e3 e4 => matAt_put h (g3 j g mt e3 e4)⟩
theorem len_Net_init (c : Cl) : ∀ ds S Q E, sp_Net_init c ds S Q E → ds.length = 7 := by
  rintro ds S Q E ⟨_, _, _, _, _, _, _, _, _, rfl, _⟩; rfl
theorem rd_Net_init (c : Cl) : ∀ ds S Q X1, sp_Net_init c ds S Q X1 → w_Net_init c (startD N_Net_init_ ds) S (endQ Q X1) := by
  rintro ds S Q X1 ⟨a, w, L, n, e, d1, d2, d3, d4, rfl, hn, m1, m2, m3, m4, h0, h⟩
  have hp := prime_pos hn
  have l1 := hn.l1
  show w_Net_init c [some (.ref a), some (.int n.prime), some d1, some d2, some d3, some d4, some (dO e), none, none] S (endQ Q X1)
  unfold w_Net_init
  refine seq_k fun q1 n1 r1 _ _ x1 => ?_
  simp only [wIf, wOr, wNot, wTest, wCall, wBin, wCons, wNil, wVar, wC, getV, some!]
  refine ⟨.int n.prime, 2, 97, rfl, kn_int _, ?_⟩
  rw [show inR 2 97 (.int n.prime) = true from decide_eq_true (⟨hp.2.1, hp.2.2⟩ : 2 ≤ n.prime ∧ n.prime ≤ 97)]
  simp only [Bool.not_true, Bool.false_eq_true, if_false]
  refine prime_in hn.pr ?_
  simp only [Bool.false_eq_true, if_false, wNext]
  refine n1 _ _ ?_
  refine seq_k fun q1 n1 r1 _ _ x1 => ?_
  simp only [wSetF, wVar, getV, some!]
  refine setD_at h0 (n1 _ _ ?_)
  refine seq_k fun q1 n1 r1 _ _ x1 => ?_
  simp only [wSetF, wCall, wCons, wNil, wVar, getV, some!]
  refine ⟨n.embed, d1, rfl, matAt_put h0 m1, by have := hn.em.1; omega, setD_at put_same (n1 _ _ ?_)⟩
  rw [put_put]
  refine seq_k fun q1 n1 r1 _ _ x1 => ?_
  simp only [wSetF, wCall, wCons, wNil, wVar, getV, some!]
  refine ⟨n.shift, d2, rfl, seqA_put h0 m2, setD_at put_same (n1 _ _ ?_)⟩
  rw [put_put]
  refine seq_k fun q1 n1 r1 _ _ x1 => ?_
  generalize hxs : setV (setV (setV (noneV N_Net) 0 (.int n.prime)) 1 (dM n.embed)) 2 (dT n.shift) = xs
  have hs1 : put S a (.ins c.Net N_Net xs) a = some (.ins c.Net N_Net xs) := put_same
  have m3' := laysAt_put (m := .ins c.Net N_Net xs) h0 m3
  generalize hS1 : put S a (.ins c.Net N_Net xs) = S1 at hs1 m3'
  obtain ⟨ds, e1, e2, e3⟩ := m3'
  simp only [wSetF, wCB, wCons, wNil, wLc, wIt, wVar, getV, some!, e1, delVs, delV]
  refine ⟨by have := hn.la.1; unfold sizeLine; omega, compI_inv (fun k acc S' => S' = S1 ∧ acc = (n.layers.take k).map dLay) ⟨rfl, rfl⟩ (fun k acc S' hp => by rw [hp.1]; exact e1) ?_ ?_⟩
  · rintro k x acc S' hk ⟨rfl, rfl⟩
    have hkl := lt_of_some hk
    obtain ⟨l, hl⟩ : ∃ l, n.layers[k]? = some l := ⟨_, List.getElem?_eq_getElem (by omega)⟩
    obtain ⟨gs, g1, g2, g3⟩ := e3 k x l hk hl
    obtain ⟨k1, k2, k3, k4, k5⟩ := hn.la.2 l (List.mem_of_getElem? hl)
    have wle := hn.w1
    simp only [gN, setV, wYes, if_true, wCB, wCons, wNil, wLc, wIt, wVar, getV, some!, g1, delVs, delV]
    refine ⟨by rw [g2]; decide, compI_inv (fun j acc2 S'' => S'' = S' ∧ acc2 = ((lay5 l).take j).map dM) ⟨rfl, rfl⟩ (fun j acc2 S'' hp => by rw [hp.1]; exact g1) ?_ ?_⟩
    · rintro j g acc2 S'' hj ⟨rfl, rfl⟩
      have hjl := lt_of_some hj
      obtain ⟨m, hm⟩ : ∃ m, (lay5 l)[j]? = some m := ⟨_, List.getElem?_eq_getElem (by rw [g2] at hjl; exact hjl)⟩
      have hmm := List.mem_of_getElem? hm
      simp only [gN, setV, wYes, if_true, wCall, wCons, wNil, wVar, getV, some!]
      refine ⟨m, g, rfl, g3 j g m hj hm, ?_, rfl, ?_⟩
      · simp only [lay5, List.mem_cons, List.not_mem_nil, or_false] at hmm
        rcases hmm with rfl | rfl | rfl | rfl | rfl
        · have := k1.1; omega
        · have := k2.1; omega
        · have := k3.1; omega
        · have := k4.1; omega
        · have := k5.1; omega
      · rw [List.take_add_one, hm, List.map_append]; rfl
    · rintro acc2 S'' ⟨rfl, rfl⟩
      have et : (lay5 l).take gs.length = lay5 l := by rw [g2]; rfl
      have en : (n.layers.take (k + 1)).map dLay = (n.layers.take k).map dLay ++ [dLay l] := by rw [List.take_add_one, hl, List.map_append]; rfl
      rw [et]
      simp only [oTuple, one, seqA, seqL, seqM, some!]
      refine ⟨trivial, ?_⟩
      rw [en]; rfl
  rintro acc S' ⟨rfl, rfl⟩
  rw [e2, List.take_length]
  simp only [oTuple, one, seqA, seqL, seqM, some!]
  refine setD_at hs1 (n1 _ _ ?_)
  rw [← hS1, put_put]
  refine seq_k fun q1 n1 r1 _ _ x1 => ?_
  simp only [wSetF, wCall, wCons, wNil, wVar, getV, some!]
  refine ⟨n.out, d4, rfl, matAt_put h0 m4, by have := hn.ou.1; omega, setD_at put_same (n1 _ _ ?_)⟩
  rw [put_put]
  simp only [wSetF, wVar, getV, some!]
  refine setD_at put_same ?_
  rw [put_put]
  subst hxs
  exact h
end K09
set_option Elab.async false
set_option linter.all false
set_option maxRecDepth 100000
set_option maxHeartbeats 1000000
namespace K09
open PySem PySem.Spec PyProof.Rows L2 DL
theorem setIx_at {S : Sto} {a : Addr} {xs : List D} {j : Int} {n : Nat} {d : D} {k : Sto → Prop} (h : S a = some (.lst xs)) (hn : ixN xs.length j = some n) (q : k (put S a (.lst (xs.set n d)))) : setIx S (.ref a) (.int j) d k := by
  show (match S a with | some (MO.lst xs) => _ | _ => False)
  rw [h]
  show some! (ixN xs.length j) _
  rw [hn]
  exact q
theorem mod_lt {x m : Int} (h : 0 < m) : 0 ≤ x % m ∧ x % m < m := ⟨Int.emod_nonneg _ (by omega), Int.emod_lt_of_pos _ h⟩
theorem divw30 {i j : Int} (h : 0 < j ∧ j ≤ 1000000000000000000000000000000) : CDivW i j := by
  refine ⟨h.1, ?_⟩
  by_cases z : j.natAbs = 0
  · omega
  · have : j.natAbs.log2 < 101 := by rw [Nat.log2_lt z]; omega
    omega
theorem len__law_pool (c : Cl) : ∀ ds S Q E, sp__law_pool c ds S Q E → ds.length = 1 := by
  rintro ds S Q E ⟨_, rfl, _⟩; rfl
theorem rd__law_pool (c : Cl) : ∀ ds S Q X1, sp__law_pool c ds S Q X1 → w__law_pool c (startD N__law_pool_ ds) S (endQ Q X1) := by
  rintro ds S Q X1 ⟨cells, rfl, hl, h⟩
  show w__law_pool c [some (.fro (cells.map D.int)), none] S (endQ Q X1)
  unfold w__law_pool
  simp only [wRet, wLstM, wCB, wCons, wNil, wLc, wIt, wVar, wC, getV, some!, seqA, seqL, delVs, delV, List.length_map]
  refine ⟨by unfold sizeLine; omega, compI_vals cells D.int D.int trivial (fun r hr2 R hR => ?_) ⟨show 4 ≤ sizeLine by decide, fun p hp => h p _ hp ⟨cells, 0, 0, _, put_same, hl, by decide, by decide⟩ (ext_put (ext_refl S) hp)⟩⟩
  simp only [gN, setV, wCB, wCons, wNil, wVar, getV, some!, oInt, one]
  exact hR
theorem len__law_draw (c : Cl) : ∀ ds S Q E, sp__law_draw c ds S Q E → ds.length = 2 := by
  rintro ds S Q E ⟨_, _, rfl, _⟩; rfl
theorem e1018 : (10 : Int) ^ Int.toNat 18 = 1000000000000000000 := by decide +kernel
theorem rd__law_draw (c : Cl) : ∀ ds S Q X1, sp__law_draw c ds S Q X1 → w__law_draw c (startD N__law_draw_ ds) S (endQ Q X1) := by
  rintro ds S Q X1 ⟨p, m, rfl, ⟨cells, at_, big, seed, hS, hl, h0, hs⟩, hm, h⟩
  show w__law_draw c [some (.ref p), some (.int m), none, none, none] S (endQ Q X1)
  have ex : ∀ {S' : Sto} {x : MO}, (∀ a m, a ≠ p → S a = some m → S' a = some m) → ∀ a m, a ≠ p → S a = some m → put S' p x a = some m := fun e a m ne z => by rw [put_ne ne]; exact e a m ne z
  have ix : ∀ {S : Sto} {at_ big seed : Int}, S p = some (poolMO cells at_ big seed) → (∀ Q, oIx S (.ref p) (.int 0) Q = Q (dL cells) S) ∧ (∀ Q, oIx S (.ref p) (.int 1) Q = Q (.int at_) S) ∧ (∀ Q, oIx S (.ref p) (.int 2) Q = Q (.int big) S) ∧ (∀ Q, oIx S (.ref p) (.int 3) Q = Q (.int seed) S) := fun hS => ⟨oIx_eq (seqA_at hS) rfl, oIx_eq (seqA_at hS) rfl, oIx_eq (seqA_at hS) rfl, oIx_eq (seqA_at hS) rfl⟩
  unfold w__law_draw
  refine seq_k fun q1 n1 r1 _ _ x1 => ?_
  obtain ⟨i0, i1, i2, i3⟩ := ix hS
  simp only [wIf, wTest, wBin, wVar, wC, getV, some!, i2, oGt, oI0]
  by_cases hb : decide (1 < big) = true
  · rw [if_pos hb]
    refine seq_k fun q2 n2 r2 _ _ x2 => ?_
    simp only [wSet, wBin, wCB, wCons, wNil, wVar, wC, getV, setV, some!, i2, oInt, one, oMod, oI]
    refine ⟨hm.1, n2 _ _ ?_⟩
    refine seq_k fun q3 n3 r3 _ _ x3 => ?_
    simp only [wSetI, wBin, wVar, wC, getV, some!, i2, oDiv, oI]
    refine ⟨divw30 hm, setIx_at (n := 2) hS rfl (n3 _ _ ?_)⟩
    simp only [wRet, wVar, getV, some!, r3, r2, r1]
    exact h _ _ (mod_lt hm.1) ⟨⟨cells, at_, _, seed, put_same, hl, h0, hs⟩, ex fun _ _ _ z => z⟩
  · rw [if_neg hb]
    refine n1 _ _ ?_
    refine seq_k fun q1 n1 r1 _ _ x1 => ?_
    simp only [wSet, wC, setV]
    refine n1 _ _ ?_
    -- the cell
    have fin : ∀ (cell at_ : Int) (S' : Sto) (x : Option D), 0 ≤ at_ → S' p = some (poolMO cells at_ big seed) → (∀ a m, a ≠ p → S a = some m → S' a = some m) → ((wSeq (wSet 4 (wBin oMod (wCB oInt (wCons (wBin oAdd (wBin oAdd (wBin oMul (wBin oIx (wVar 0) (wC (.int 3))) (wBin oIx (wVar 0) (wC (.int 3)))) (wBin oMulS (wC (.int 48271)) (wVar 3))) (wC (.int 1442695040888963407))) wNil)) (wC (.int 2305843009213693951))))
  (wSeq (wSetI (wVar 0) (wC (.int 3)) (wBin oMod (wCB oInt (wCons (wBin oAdd (wBin oMul (wVar 4) (wVar 4)) (wC (.int 1013904223))) wNil)) (wC (.int 2305843009213693951))))
  (wRet (wBin oMod (wBin oDiv (wBin oIx (wVar 0) (wC (.int 3))) (wC (.int 1048576))) (wVar 1)))))) [some (.ref p), some (.int m), x, some (.int cell), none] S' (endQ Q X1) := by
      intro cell at_ S' x h0 hS' hex
      obtain ⟨i0, i1, i2, i3⟩ := ix hS'
      refine seq_k fun q1 n1 r1 _ _ x1 => ?_
      simp only [wSet, wBin, wCB, wCons, wNil, wVar, wC, getV, setV, some!, i3, oInt, one, oMod, oMul, oMulS, oI, oI0, oAdd]
      refine ⟨mulw ⟨hs.1, by omega⟩ ⟨hs.1, by omega⟩, .inl (by decide), by decide, n1 _ _ ?_⟩
      have y0 := mod_lt (x := seed * seed + 48271 * cell + 1442695040888963407) (m := 2305843009213693951) (by decide)
      generalize (seed * seed + 48271 * cell + 1442695040888963407) % 2305843009213693951 = y at y0
      refine seq_k fun q2 n2 r2 _ _ x2 => ?_
      simp only [wSetI, wBin, wCB, wCons, wNil, wVar, wC, getV, some!, oInt, one, oMod, oMul, oI, oI0, oAdd]
      refine ⟨mulw ⟨y0.1, by omega⟩ ⟨y0.1, by omega⟩, by decide, setIx_at (n := 3) hS' rfl (n2 _ _ ?_)⟩
      have z0 := mod_lt (x := y * y + 1013904223) (m := 2305843009213693951) (by decide)
      generalize (y * y + 1013904223) % 2305843009213693951 = z at z0
      have e1 : put S' p (MO.lst ([dL cells, .int at_, .int big, .int seed].set 3 (.int z))) p = some (poolMO cells at_ big z) := put_same
      have e2 := ex (x := MO.lst ([dL cells, .int at_, .int big, .int seed].set 3 (.int z))) hex
      generalize put S' p (MO.lst ([dL cells, .int at_, .int big, .int seed].set 3 (.int z))) = S2 at e1 e2
      obtain ⟨j0, j1, j2, j3⟩ := ix e1
      simp only [wRet, wBin, wVar, wC, getV, some!, j3, oMod, oDiv, oI, r1, r2]
      exact ⟨divw (by decide), hm.1, h _ _ (mod_lt hm.1) ⟨⟨cells, at_, big, z, e1, hl, h0, z0⟩, e2⟩⟩
    refine seq_k fun q2 n2 r2 _ _ x2 => ?_
    have lc : seqA S (dL cells) = some (cells.map D.int) := rfl
    have ll := fun Q => oLen_at lc Q
    simp only [wIf, wTest, wBin, wCB, wCons, wNil, wVar, wC, getV, some!, i0, i1, ll, oLt, oI0, List.length_map]
    by_cases hat : decide (at_ < (cells.length : Int)) = true
    · have hat' := of_decide_eq_true hat
      rw [if_pos hat]
      obtain ⟨cell, hc⟩ : ∃ x, cells[at_.toNat]? = some x := ⟨_, List.getElem?_eq_getElem (by omega)⟩
      have ic : ∀ Q, oIx S (dL cells) (.int at_) Q = Q (.int cell) S := oIx_eq lc (at_z h0 (by rw [List.getElem?_map, hc]; rfl))
      refine seq_k fun q3 n3 r3 _ _ x3 => ?_
      simp only [wSet, wBin, wVar, wC, getV, setV, some!, i0, i1, ic]
      refine n3 _ _ ?_
      refine seq_k fun q4 n4 r4 _ _ x4 => ?_
      simp only [wSetI, wBin, wVar, wC, getV, some!, i1, oAdd]
      refine setIx_at (n := 1) hS rfl (n4 _ _ ?_)
      have e1 : put S p (MO.lst ([dL cells, .int at_, .int big, .int seed].set 1 (.int (at_ + 1)))) p = some (poolMO cells (at_ + 1) big seed) := put_same
      have e2 := ex (x := MO.lst ([dL cells, .int at_, .int big, .int seed].set 1 (.int (at_ + 1)))) (fun (_ : Addr) (_ : MO) _ z => z)
      generalize put S p (MO.lst ([dL cells, .int at_, .int big, .int seed].set 1 (.int (at_ + 1)))) = S2 at e1 e2
      simp only [wIf, wTest, wBin, wVar, wC, getV, some!, oPow, oI, oGe, oI0, e1018]
      refine ⟨by unfold CPow; decide, ?_⟩
      by_cases hg : decide (1000000000000000000 ≤ cell) = true
      · rw [if_pos hg]
        refine seq_k fun q5 n5 r5 _ _ x5 => ?_
        simp only [wSetI, wBin, wVar, wC, getV, some!, oDiv, oI]
        refine ⟨divw30 hm, setIx_at (n := 2) e1 rfl (n5 _ _ ?_)⟩
        simp only [wRet, wBin, wCB, wCons, wNil, wVar, getV, some!, oInt, one, oMod, oI, r1, r2, r3, r4, r5]
        exact ⟨hm.1, h _ _ (mod_lt hm.1) ⟨⟨cells, at_ + 1, _, seed, put_same, hl, by omega, hs⟩, ex e2⟩⟩
      · rw [if_neg hg]
        simp only [wNext]
        refine n2 _ _ ?_
        exact fin cell (at_ + 1) S2 none (by omega) e1 e2
    · rw [if_neg hat]
      simp only [wNext]
      refine n2 _ _ ?_
      exact fin 7 at_ S none h0 hS fun _ _ _ z => z
end K09
set_option Elab.async false
set_option linter.all false
set_option maxRecDepth 100000
set_option maxHeartbeats 1000000
namespace K09
open PySem PySem.Spec PyProof.Rows L2 DL
theorem dr_refl {p : Addr} {S : Sto} (h : PoolAt S p) : Dr p S S := ⟨h, fun _ _ _ z => z⟩
theorem dr_trans {p : Addr} {S S' S'' : Sto} (h : Dr p S S') (h2 : Dr p S' S'') : Dr p S S'' := ⟨h2.po, fun a m ne z => h2.ex a m ne (h.ex a m ne z)⟩
/-- a comprehension whose items draw -/
theorem compI_dr {α : Type} {t : WPg} {te : WPe} {env : DE} {S : Sto} {items : List D} {Q : List D → Sto → Prop} {p : Addr} (f : α → D) (ok : α → Prop) (hS : PoolAt S p)
    (h : ∀ (i : Nat) (d : D) (S' : Sto), items[i]? = some d → Dr p S S' → ∀ R : D → Sto → Prop, (∀ a S'', ok a → Dr p S' S'' → R (f a) S'') → t d env fun e => te e S' R X0)
    (hq : ∀ (as : List α) (S' : Sto), as.length = items.length → (∀ a, a ∈ as → ok a) → Dr p S S' → Q (as.map f) S') : compI t wYes te (fun _ => True) env items S Q := by
  refine compI_inv (fun i acc S' => ∃ as : List α, as.length = i ∧ (∀ a, a ∈ as → ok a) ∧ Dr p S S' ∧ acc = as.map f) ⟨[], rfl, (fun a h => by cases h), dr_refl hS, rfl⟩ (fun _ _ _ _ => trivial) ?_ ?_
  · rintro i d acc S' hi ⟨as, rfl, ha, hd, rfl⟩
    have := h as.length d S' hi hd (fun y S2 => ∃ bs : List α, bs.length = as.length + 1 ∧ (∀ a, a ∈ bs → ok a) ∧ Dr p S S2 ∧ as.map f ++ [y] = bs.map f) fun a S'' oa hd2 => ⟨as ++ [a], by rw [List.length_append]; rfl, (fun b hb => by
      rcases List.mem_append.mp hb with z | z
      · exact ha b z
      · rw [List.mem_singleton] at z; subst z; exact oa), dr_trans hd hd2, by rw [List.map_append]; rfl⟩
    simpa [wYes] using this
  · rintro acc S' ⟨as, h1, ha, hd, rfl⟩
    exact hq as S' h1 ha hd
theorem pr_bd {p : Int} (h : p ∈ thePrimes) : 2 ≤ p ∧ p ≤ 97 := by
  simp only [thePrimes, List.mem_cons, List.not_mem_nil, or_false] at h
  omega
theorem len__law_number (c : Cl) : ∀ ds S Q E, sp__law_number c ds S Q E → ds.length = 2 := by
  rintro ds S Q E ⟨_, _, rfl, _⟩; rfl
theorem rd__law_number (c : Cl) : ∀ ds S Q X1, sp__law_number c ds S Q X1 → w__law_number c (startD N__law_number_ ds) S (endQ Q X1) := by
  rintro ds S Q X1 ⟨p, pr, rfl, hS, hp, h⟩
  have hb := pr_bd hp
  show w__law_number c [some (.ref p), some (.int pr), none] S (endQ Q X1)
  unfold w__law_number
  refine seq_k fun q1 n1 r1 _ _ x1 => ?_
  simp only [wSet, wCall, wCons, wNil, wVar, wC, getV, setV, some!]
  refine ⟨p, 5, rfl, hS, by decide, fun k S1 hk d1 => n1 _ _ ?_⟩
  refine seq_k fun q2 n2 r2 _ _ x2 => ?_
  simp only [wIf, wTest, wBin, wVar, wC, getV, some!, oLt, oI0]
  by_cases h2 : decide (k < 2) = true
  · have := of_decide_eq_true h2
    rw [if_pos h2]
    simp only [wRet, wVar, getV, some!, r2, r1]
    exact h k S1 (by omega) d1
  · rw [if_neg h2]
    refine n2 _ _ ?_
    refine seq_k fun q3 n3 r3 _ _ x3 => ?_
    simp only [wIf, wTest, wBin, wVar, wC, getV, some!, oEq, shD_int, eqD_int, true_and]
    by_cases h3 : decide (k = 2) = true
    · rw [if_pos h3]
      simp only [wRet, wBin, wVar, wC, getV, some!, oSub, oI0, r3, r2, r1]
      exact h _ S1 (by omega) d1
    · rw [if_neg h3]
      refine n3 _ _ ?_
      simp only [wRet, wCall, wCons, wNil, wVar, getV, some!]
      exact ⟨p, pr, rfl, d1.po, by omega, fun r S2 hr d2 => h r S2 (by omega) (dr_trans d1 d2)⟩
theorem len__law_matrix (c : Cl) : ∀ ds S Q E, sp__law_matrix c ds S Q E → ds.length = 3 := by
  rintro ds S Q E ⟨_, _, _, rfl, _⟩; rfl
theorem smOf {as : Vec} (h : ∀ a, a ∈ as → 0 ≤ a ∧ a < 1000) : Sm as := fun x hx => by have := h x hx; omega
theorem rd__law_matrix (c : Cl) : ∀ ds S Q X1, sp__law_matrix c ds S Q X1 → w__law_matrix c (startD N__law_matrix_ ds) S (endQ Q X1) := by
  rintro ds S Q X1 ⟨p, pr, w, rfl, hS, hp, hw, h⟩
  show w__law_matrix c [some (.ref p), some (.int pr), some (.int (w : Nat)), none, none, none] S (endQ Q X1)
  unfold w__law_matrix
  refine seq_k fun q1 n1 r1 _ _ x1 => ?_
  simp only [wSet, wCall, wCons, wNil, wVar, wC, getV, setV, some!]
  refine ⟨p, 6, rfl, hS, by decide, fun k S1 hk d1 => n1 _ _ ?_⟩
  refine seq_k fun q2 n2 r2 _ _ x2 => ?_
  simp only [wIf, wTest, wBin, wVar, wC, getV, some!, oLt, oI0]
  by_cases h2 : decide (k < 2) = true
  · have := of_decide_eq_true h2
    rw [if_pos h2]
    simp only [wRet, wLc, wRg1, wVar, getV, some!, asI, delVs, delV, Int.toNat_natCast, rngD_length]
    refine ⟨⟨by omega, by omega⟩, by unfold sizeLine; omega, ?_⟩
    rw [rng_eq]
    refine compI_vals (List.range w) (fun (i : Nat) => D.int (i : Int)) (fun i => dL ((List.range w).map fun (j : Nat) => k * (if (i : Int) = (j : Int) then 1 else 0))) trivial (fun i hi R hR => ?_) ?_
    · simp only [gN, setV, wLc, wRg1, wVar, delVs, delV, getV, some!, asI, Int.toNat_natCast, rngD_length]
      refine ⟨⟨by omega, by omega⟩, by unfold sizeLine; omega, ?_⟩
      rw [rng_eq]
      refine compI_vals (List.range w) (fun (j : Nat) => D.int (j : Int)) (fun j => .int (k * (if (i : Int) = (j : Int) then 1 else 0))) trivial (fun j hj R2 hR2 => ?_) ?_
      · simp only [gN, setV, wBin, wCB, wCons, wNil, wVar, getV, some!, oEq, shD_int, eqD_int, true_and, oInt, one, oMul, oI, decide_eq_true_eq]
        exact ⟨mulw ⟨hk.1, by omega⟩ ⟨by split <;> decide, by split <;> decide⟩, hR2⟩
      · have e : (List.range w).map (fun (j : Nat) => D.int (k * (if (i : Int) = (j : Int) then 1 else 0))) = ((List.range w).map fun (j : Nat) => k * (if (i : Int) = (j : Int) then 1 else 0)).map D.int := by rw [List.map_map]; rfl
        rw [e]; exact hR
    · have e : (List.range w).map (fun (i : Nat) => dL ((List.range w).map fun (j : Nat) => k * (if (i : Int) = (j : Int) then 1 else 0))) = ((List.range w).map fun (i : Nat) => (List.range w).map fun (j : Nat) => k * (if (i : Int) = (j : Int) then 1 else 0)).map dL := by rw [List.map_map]; rfl
      rw [e, r2]
      refine h ((List.range w).map fun (i : Nat) => (List.range w).map fun (j : Nat) => k * (if (i : Int) = (j : Int) then 1 else 0)) S1 ⟨by rw [List.length_map, List.length_range], fun v hv => ?_⟩ d1
      obtain ⟨i, _, rfl⟩ := List.mem_map.mp hv
      refine ⟨by rw [List.length_map, List.length_range], fun x hx => ?_⟩
      obtain ⟨j, _, rfl⟩ := List.mem_map.mp hx
      split <;> omega
  · rw [if_neg h2]
    refine n2 _ _ ?_
    simp only [wRet, wLc, wRg1, wVar, getV, some!, asI, delVs, delV, Int.toNat_natCast, rngD_length]
    refine ⟨⟨by omega, by omega⟩, by unfold sizeLine; omega, compI_dr dL (Wd w) d1.po (fun i d S2 hi d2 R hR => ?_) fun as S2 hl ha d2 => ?_⟩
    · simp only [gN, setV, wLc, wRg1, wVar, delVs, delV, getV, some!, asI, Int.toNat_natCast, rngD_length]
      refine ⟨⟨by omega, by omega⟩, by unfold sizeLine; omega, compI_dr D.int (fun x => 0 ≤ x ∧ x < 1000) d2.po (fun j d3 S3 hj d3 R2 hR2 => ?_) fun bs S3 hl hb d3 => ?_⟩
      · simp only [gN, setV, wCall, wCons, wNil, wVar, getV, some!]
        exact ⟨p, pr, rfl, d3.po, hp, fun r S4 hr d4 => hR2 r S4 hr d4⟩
      · rw [rngD_length] at hl
        exact hR bs S3 ⟨hl, smOf hb⟩ d3
    · rw [rngD_length] at hl
      exact h as S2 ⟨hl, ha⟩ (dr_trans d1 d2)
end K09
set_option Elab.async false
set_option linter.all false
set_option maxRecDepth 100000
set_option maxHeartbeats 1000000
namespace K09
open PySem PySem.Spec PyProof.Rows L2 DL
theorem dr_net {w L : Nat} {p : Addr} {S S' : Sto} (h : Dr p S S') : PoolAt S' p := h.po
theorem len__law_net (c : Cl) : ∀ ds S Q E, sp__law_net c ds S Q E → ds.length = 5 := by
  rintro ds S Q E ⟨_, _, _, _, _, rfl, _⟩; rfl
def ofL (ms : List Mat) : Lay := ⟨ms.getD 0 [], ms.getD 1 [], ms.getD 2 [], ms.getD 3 [], ms.getD 4 []⟩
theorem lay5_of {ms : List Mat} (h : ms.length = 5) : lay5 (ofL ms) = ms := by
  match ms, h with
  | [a, b, d, e, f], _ => rfl
theorem layOk_of {w : Nat} {ms : List Mat} (h : ms.length = 5) (hm : ∀ m, m ∈ ms → m.length = w ∧ MatOk w m) : LayOk w (ofL ms) := by
  match ms, h with
  | [a, b, d, e, f], _ => exact ⟨hm a (by simp), hm b (by simp), hm d (by simp), hm e (by simp), hm f (by simp)⟩
theorem rd__law_net (c : Cl) : ∀ ds S Q X1, sp__law_net c ds S Q X1 → w__law_net c (startD N__law_net_ ds) S (endQ Q X1) := by
  rintro ds S Q X1 ⟨p, pr, L, w, k, rfl, hS, hp, hL, hw, hk, h⟩
  show w__law_net c [some (.ref p), some (.int pr), some (.int (L : Nat)), some (.int (w : Nat)), some (.int (k : Nat)), none, none, none, none, none, none, none, none, none] S (endQ Q X1)
  -- a matrix of numbers
  have mat : ∀ (m : Nat) (x5 x6 x7 x8 x9 x13 x12 : Option D) (S0 : Sto) (R : D → Sto → Prop), 1 ≤ m ∧ m ≤ 12 → PoolAt S0 p → (∀ mt S', mt.length = m ∧ MatOk w mt → Dr p S0 S' → R (dML mt) S') →
      compI (gN 10) wYes (wLc (wRg1 (wVar 3)) (gN 11) wYes (wCall (sp__law_number c) (wCons (wVar 0) (wCons (wVar 1) wNil))) [11]) (fun _ => True)
        [some (.ref p), some (.int pr), some (.int (L : Nat)), some (.int (w : Nat)), some (.int (k : Nat)), x5, x6, x7, x8, x9, none, none, x12, x13] (rngD 0 m) S0 (fun ds S2 => R (.lst ds) S2) := by
    intro m x5 x6 x7 x8 x9 x13 x12 S0 R hm hS0 hR
    refine compI_dr dL (Wd w) hS0 (fun i d S2 hi d2 R2 hR2 => ?_) fun as S2 hl ha d2 => ?_
    · simp only [gN, setV, wLc, wRg1, wVar, delVs, delV, getV, some!, asI, Int.toNat_natCast, rngD_length]
      refine ⟨⟨by omega, by omega⟩, by unfold sizeLine; omega, compI_dr D.int (fun x => 0 ≤ x ∧ x < 1000) d2.po (fun j d3 S3 hj d3 R2 hR2 => ?_) fun bs S3 hl hb d3 => ?_⟩
      · simp only [gN, setV, wCall, wCons, wNil, wVar, getV, some!]
        exact ⟨p, pr, rfl, d3.po, hp, fun r S4 hr d4 => hR2 r S4 hr d4⟩
      · rw [rngD_length] at hl
        exact hR2 bs S3 ⟨hl, smOf hb⟩ d3
    · rw [rngD_length] at hl
      exact hR as S2 ⟨hl, ha⟩ d2
  unfold w__law_net
  refine seq_k fun q1 n1 r1 _ _ x1 => ?_
  simp only [wSet, wLc, wRg1, wVar, getV, some!, asI, delVs, delV, Int.toNat_natCast, rngD_length]
  refine ⟨⟨by omega, by omega⟩, by unfold sizeLine; omega, mat L none none none none none none none S (fun d S2 => q1.nx (setV _ 5 d) S2) hL hS fun em S1 hem d1 => n1 _ _ ?_⟩
  simp only [setV]
  refine seq_k fun q2 n2 r2 _ _ x2 => ?_
  simp only [wSet, wLc, wRg1, wVar, getV, some!, asI, delVs, delV, Int.toNat_natCast, rngD_length]
  refine ⟨⟨by omega, by omega⟩, by unfold sizeLine; omega, compI_dr D.int (fun x => 0 ≤ x ∧ x < 1000) d1.po (fun j d3 S3 hj d3 R2 hR2 => ?_) fun sh S2 hsl hsh d2 => ?_⟩
  · simp only [gN, setV, wCall, wCons, wNil, wVar, getV, some!]
    exact ⟨p, pr, rfl, d3.po, hp, fun r S4 hr d4 => hR2 r S4 hr d4⟩
  rw [rngD_length] at hsl
  refine n2 _ _ ?_
  simp only [setV]
  refine seq_k fun q3 n3 r3 _ _ x3 => ?_
  simp only [wSet, wLc, wRg1, wVar, getV, some!, asI, delVs, delV, Int.toNat_natCast, rngD_length]
  refine ⟨⟨by omega, by omega⟩, by unfold sizeLine; omega, compI_dr (fun ms : List Mat => D.tup (ms.map dML)) (fun ms => ms.length = 5 ∧ ∀ m, m ∈ ms → m.length = w ∧ MatOk w m) d2.po (fun j d3 S3 hj d3 R2 hR2 => ?_) fun lys S3 hll hlo d3 => ?_⟩
  · simp only [gN, setV, wCB, wCons, wNil, wLc, wRg1, wC, delVs, delV, some!, asI, rngD_length]
    refine ⟨by decide, by decide, compI_dr dML (fun m => m.length = w ∧ MatOk w m) d3.po (fun i d4 S4 hi d4 R3 hR3 => ?_) fun ms S4 hml hmo d4 => ?_⟩
    · simp only [gN, setV, wCall, wCons, wNil, wVar, getV, some!]
      exact ⟨p, pr, w, rfl, d4.po, hp, hw, fun m S5 hm d5 => hR3 m S5 hm d5⟩
    · simp only [oTuple, one, seqA, seqL, seqM, some!]
      rw [rngD_length] at hml
      exact hR2 ms S4 ⟨hml, hmo⟩ d4
  rw [rngD_length] at hll
  refine n3 _ _ ?_
  simp only [setV]
  refine seq_k fun q4 n4 r4 _ _ x4 => ?_
  simp only [wSet, wLc, wRg1, wVar, getV, some!, asI, delVs, delV, Int.toNat_natCast, rngD_length]
  refine ⟨⟨by omega, by omega⟩, by unfold sizeLine; omega, mat L _ _ _ none none none none S3 (fun d S2 => q4.nx (setV _ 8 d) S2) hL d3.po fun ou S4 hou d4 => n4 _ _ ?_⟩
  simp only [setV]
  refine seq_k fun q5 n5 r5 _ _ x5 => ?_
  simp only [wSet, wC, setV]
  refine n5 _ _ ?_
  have hn : NetOk w L ⟨pr, em, sh, lys.map ofL, ou⟩ := ⟨hw, hL, hp, hem, ⟨hsl, smOf hsh⟩, ⟨by show (lys.map ofL).length ≤ 3; rw [List.length_map]; omega, fun l hl => by
    obtain ⟨ms, hms, rfl⟩ := List.mem_map.mp hl
    exact layOk_of (hlo ms hms).1 (hlo ms hms).2⟩, hou⟩
  have e : D.lst (lys.map fun ms : List Mat => D.tup (ms.map dML)) = .lst ((lys.map ofL).map dLayL) := by
    rw [List.map_map]
    congr 1
    refine List.map_congr_left fun ms hms => ?_
    show _ = D.tup ((lay5 (ofL ms)).map dML)
    rw [lay5_of (hlo ms hms).1]
  rw [e]
  refine seq_k fun q6 n6 r6 _ _ x6 => ?_
  simp only [wIf, wTest, wBin, wCall, wCons, wNil, wVar, wC, getV, some!]
  refine ⟨p, 3, rfl, d4.po, by decide, fun r S5 hr d5 => ?_⟩
  simp only [oEq, shD_int, eqD_int, true_and]
  have dd := dr_trans d1 (dr_trans d2 (dr_trans d3 (dr_trans d4 d5)))
  by_cases h3 : decide (r = 0) = true
  · rw [if_pos h3]
    simp only [wSet, wCall, wCons, wNil, wVar, getV, setV, some!]
    refine ⟨p, _, rfl, d5.po, by omega, fun x S6 hx d6 => n6 _ _ ?_⟩
    simp only [wRet, wLst, wCons, wNil, wVar, getV, some!]
    exact ⟨show 6 ≤ sizeLine by decide, h ⟨pr, em, sh, lys.map ofL, ou⟩ (some x) S6 hn rfl (by show (lys.map ofL).length = k; rw [List.length_map]; exact hll) (dr_trans dd d6)⟩
  · rw [if_neg h3]
    refine n6 _ _ ?_
    simp only [wRet, wLst, wCons, wNil, wVar, getV, some!]
    exact ⟨show 6 ≤ sizeLine by decide, h ⟨pr, em, sh, lys.map ofL, ou⟩ none S5 hn rfl (by show (lys.map ofL).length = k; rw [List.length_map]; exact hll) dd⟩
theorem pool_ext {S S' : Sto} {p : Addr} (h : PoolAt S p) (e : Ext S S') : PoolAt S' p := by
  obtain ⟨a, b, d, s, h1, h2⟩ := h
  exact ⟨a, b, d, s, e _ _ h1, h2⟩
theorem dr_none {p x : Addr} {S S' : Sto} (h : Dr p S S') (hx : S' x = none) : S x = none := by
  cases z : S x with
  | none => rfl
  | some m =>
    by_cases e : x = p
    · subst e
      obtain ⟨_, _, _, _, h1, _⟩ := h.po
      rw [h1] at hx; cases hx
    · rw [h.ex x m e z] at hx; cases hx
theorem pool_ne {p x : Addr} {S : Sto} (h : PoolAt S p) (hx : S x = none) : x ≠ p := fun e => by
  subst e
  obtain ⟨_, _, _, _, h1, _⟩ := h
  rw [h1] at hx; cases hx
theorem dr_put {p x : Addr} {S S' : Sto} {m : MO} (h : Dr p S S') (hx : S' x = none) : Dr p S (put S' x m) :=
  ⟨pool_ext h.po (ext_put (ext_refl S') hx), fun a n ne z => by
    have := h.ex a n ne z
    rw [put_ne (fun e => by rw [e, hx] at this; cases this)]; exact this⟩
theorem pool_put {p x : Addr} {S : Sto} {m : MO} (h : PoolAt S p) (hx : x ≠ p) : PoolAt (put S x m) p := by
  obtain ⟨a, b, d, s, h1, h2⟩ := h
  exact ⟨a, b, d, s, by rw [put_ne (Ne.symm hx)]; exact h1, h2⟩
theorem dr_chg {p x : Addr} {S S' : Sto} {m : MO} (h : Dr p S S') (hx : S x = none) (hp : x ≠ p) : Dr p S (put S' x m) :=
  ⟨pool_put h.po hp, fun a n ne z => by
    rw [put_ne (fun e => by rw [e, hx] at z; cases z)]; exact h.ex a n ne z⟩
theorem dr_del {p x : Addr} {S S' : Sto} (h : Dr p S S') (hx : S x = none) (hp : x ≠ p) : Dr p S (del S' x) := by
  refine ⟨?_, fun a n ne z => ?_⟩
  · obtain ⟨a, b, d, s, h1, h2⟩ := h.po
    refine ⟨a, b, d, s, ?_, h2⟩
    show (if p = x then none else S' p) = _
    rw [if_neg (Ne.symm hp)]; exact h1
  · show (if a = x then none else S' a) = _
    rw [if_neg (fun e => by rw [e, hx] at z; cases z)]; exact h.ex a n ne z
end K09
set_option Elab.async false
set_option linter.all false
set_option maxRecDepth 100000
set_option maxHeartbeats 1000000
namespace K09
open PySem PySem.Spec PyProof.Rows L2 DL
/-! ### plain sums -/
def sm {α : Type} (l : List α) (f : α → Int) : Int := (l.map f).sum
theorem sm_nil {α : Type} {f : α → Int} : sm [] f = 0 := rfl
theorem sm_cons {α : Type} {x : α} {l : List α} {f : α → Int} : sm (x :: l) f = f x + sm l f := by unfold sm; rw [List.map_cons, List.sum_cons]
theorem sm_snoc {α : Type} {x : α} {f : α → Int} : ∀ {l : List α}, sm (l ++ [x]) f = sm l f + f x
  | [] => by rw [List.nil_append, sm_cons, sm_nil]; omega
  | y :: r => by rw [List.cons_append, sm_cons, sm_cons, sm_snoc]; omega
theorem sm_add {α : Type} {f g : α → Int} : ∀ {l : List α}, sm l (fun x => f x + g x) = sm l f + sm l g
  | [] => rfl
  | y :: r => by rw [sm_cons, sm_cons, sm_cons, sm_add (l := r)]; omega
theorem sm_mul {α : Type} {a : Int} {f : α → Int} : ∀ {l : List α}, sm l (fun x => a * f x) = a * sm l f
  | [] => (Int.mul_zero a).symm
  | y :: r => by rw [sm_cons, sm_cons, sm_mul (l := r), Int.mul_add]
theorem sm_congr {α : Type} {f g : α → Int} {l : List α} (h : ∀ x, x ∈ l → f x = g x) : sm l f = sm l g := by
  unfold sm; rw [List.map_congr_left h]
theorem sm_zero {α : Type} : ∀ {l : List α}, sm l (fun _ => 0) = 0
  | [] => rfl
  | y :: r => by rw [sm_cons, sm_zero (l := r)]; rfl
theorem mod_addl (a b p : Int) : (a % p + b) % p = (a + b) % p := Int.emod_add_emod ..
theorem mod_addr (a b p : Int) : (a + b % p) % p = (a + b) % p := Int.add_emod_emod ..
theorem smM {α : Type} {p : Int} {f : α → Int} : ∀ {l : List α}, sm l (fun x => f x) % p = sm l (fun x => f x % p) % p
  | [] => rfl
  | y :: r => by
    rw [sm_cons, sm_cons, ← mod_addr, smM (l := r), mod_addr, mod_addl]
theorem mul_modl (a b p : Int) : (a % p * b) % p = (a * b) % p := by
  rw [Int.mul_emod, Int.emod_emod_of_dvd _ (Int.dvd_refl p), ← Int.mul_emod]
theorem vec_eq {w : Nat} {v : Vec} (h : v.length = w) : v = (List.range w).map fun i => v.getD i 0 := by
  refine List.ext_getElem (by rw [List.length_map, List.length_range, h]) fun i h1 h2 => ?_
  rw [List.getElem_map, List.getElem_range, List.getD_eq_getElem?_getD, List.getElem?_eq_getElem h1]
  rfl
theorem psum_eq {w : Nat} {f g : Nat → Int} : psum ((List.range w).map f) ((List.range w).map g) = sm (List.range w) fun k => f k * g k := by
  unfold psum sm
  rw [List.zipWith_map]
  congr 1
  exact List.zipWith_self
theorem psum_vec {w : Nat} {a b : Vec} (ha : a.length = w) (hb : b.length = w) : psum a b = sm (List.range w) fun k => a.getD k 0 * b.getD k 0 := by
  have := psum_eq (w := w) (f := fun k => a.getD k 0) (g := fun k => b.getD k 0)
  rwa [← vec_eq ha, ← vec_eq hb] at this
theorem plus_vec {w : Nat} {p : Int} {f g : Nat → Int} : plusF p ((List.range w).map f) ((List.range w).map g) = (List.range w).map fun i => (f i + g i) % p := by
  unfold plusF
  rw [List.zipWith_map]
  exact List.zipWith_self
/-- the sums of pairs, before the rest -/
def prS (prs : List (Vec × Vec)) (i k : Nat) : Int := sm prs fun pr => pr.2.getD i 0 * pr.1.getD k 0
theorem sumMat_eq {p : Int} {w : Nat} {prs : List (Vec × Vec)} : sumMat p w prs = (List.range w).map fun i => (List.range w).map fun k => prS prs i k % p := rfl
theorem prS_snoc {prs : List (Vec × Vec)} {pr : Vec × Vec} {i k : Nat} : prS (prs ++ [pr]) i k = prS prs i k + pr.2.getD i 0 * pr.1.getD k 0 := sm_snoc
theorem prS_cons {prs : List (Vec × Vec)} {pr : Vec × Vec} {i k : Nat} : prS (pr :: prs) i k = pr.2.getD i 0 * pr.1.getD k 0 + prS prs i k := sm_cons
theorem with_eq {p t : Int} {w : Nat} {f : Nat → Nat → Int} {pr : Vec × Vec} (h : pr.1.length = w ∧ pr.2.length = w) :
    withF p ((List.range w).map fun i => (List.range w).map fun k => f i k) pr t = (List.range w).map fun i => (List.range w).map fun k => (f i k + t * pr.2.getD i 0 * pr.1.getD k 0) % p := by
  unfold withF
  conv => lhs; rw [vec_eq h.2]
  rw [List.zipWith_map, List.zipWith_self]
  refine List.map_congr_left fun i _ => ?_
  conv => lhs; rw [vec_eq h.1]
  rw [List.zipWith_map, List.zipWith_self]
theorem with_add {p : Int} {w : Nat} {prs : List (Vec × Vec)} {pr : Vec × Vec} (h : pr.1.length = w ∧ pr.2.length = w) : withF p (sumMat p w prs) pr 1 = sumMat p w (prs ++ [pr]) := by
  rw [sumMat_eq, sumMat_eq, with_eq h]
  refine List.map_congr_left fun i _ => List.map_congr_left fun k _ => ?_
  rw [prS_snoc, mod_addl, Int.one_mul]
theorem with_sub {p : Int} {w : Nat} {prs : List (Vec × Vec)} {pr : Vec × Vec} (h : pr.1.length = w ∧ pr.2.length = w) : withF p (sumMat p w (pr :: prs)) pr (-1) = sumMat p w prs := by
  rw [sumMat_eq, sumMat_eq, with_eq h]
  refine List.map_congr_left fun i _ => List.map_congr_left fun k _ => ?_
  rw [prS_cons, mod_addl]
  congr 1
  have : -1 * pr.2.getD i 0 * pr.1.getD k 0 = -(pr.2.getD i 0 * pr.1.getD k 0) := by rw [Int.neg_mul, Int.neg_mul, Int.one_mul]
  rw [this]; omega
/-- what a row looks at, in one sum -/
def lkS (q : Vec) (prs : List (Vec × Vec)) (i : Nat) : Int := sm prs fun pr => psum q pr.1 * pr.2.getD i 0
theorem look_eq {p : Int} {w : Nat} {q : Vec} (hq : q.length = w) : ∀ {n : Nat} {prs : List (Vec × Vec)}, prs.length = n → (∀ x, x ∈ prs → x.2.length = w) → lookF p q prs = (List.range w).map fun i => lkS q prs i % p := by
  intro n
  induction n with
  | zero =>
    intro prs h _
    have : prs = [] := List.length_eq_zero_iff.mp h
    subst this
    show q.map (fun _ => (0 : Int)) = _
    refine List.ext_getElem (by rw [List.length_map, List.length_map, List.length_range, hq]) fun i h1 h2 => ?_
    rw [List.getElem_map, List.getElem_map]
    exact (Int.zero_emod p).symm
  | succ n ih =>
    intro prs h hw
    obtain ⟨r, x, rfl⟩ : ∃ r x, prs = r ++ [x] := ⟨prs.dropLast, prs.getLast (fun z => by rw [z] at h; cases h), (List.dropLast_concat_getLast _).symm⟩
    have hr : lookF p q (r ++ [x]) = plusF p (lookF p q r) (x.2.map (psum q x.1 * ·)) := by unfold lookF; rw [List.foldl_append]; rfl
    have hx := hw x (List.mem_append_right _ List.mem_cons_self)
    rw [hr, ih (by rw [List.length_append, List.length_singleton] at h; omega) fun y hy => hw y (List.mem_append_left _ hy)]
    conv => lhs; rw [vec_eq hx]
    rw [List.map_map]
    rw [show ((psum q x.1 * ·) ∘ fun i => x.2.getD i 0) = fun i => psum q x.1 * x.2.getD i 0 from rfl]
    rw [plus_vec]
    refine List.map_congr_left fun i _ => ?_
    rw [mod_addl]
    show _ = lkS q (r ++ [x]) i % p
    unfold lkS
    rw [sm_snoc]
theorem times_sum {p : Int} {w : Nat} {q : Vec} {prs : List (Vec × Vec)} (hq : q.length = w) (h : ∀ x, x ∈ prs → x.1.length = w ∧ x.2.length = w) : timesF p (sumMat p w prs) q = lookF p q prs := by
  rw [look_eq hq rfl fun x hx => (h x hx).2, sumMat_eq]
  unfold timesF
  rw [List.map_map]
  refine List.map_congr_left fun i _ => ?_
  show psum ((List.range w).map fun k => prS prs i k % p) q % p = _
  conv => lhs; rw [vec_eq hq]
  rw [psum_eq, smM]
  have e1 : sm (List.range w) (fun k => prS prs i k % p * q.getD k 0 % p) = sm (List.range w) (fun k => prS prs i k * q.getD k 0 % p) := sm_congr fun k _ => mul_modl ..
  rw [e1, ← smM]
  congr 1
  clear e1
  induction prs with
  | nil =>
    show sm (List.range w) (fun k => 0 * q.getD k 0) = 0
    rw [sm_congr (g := fun _ => 0) fun k _ => Int.zero_mul _]; exact sm_zero
  | cons x r ih =>
    have hx := h x List.mem_cons_self
    have : sm (List.range w) (fun k => prS (x :: r) i k * q.getD k 0) = sm (List.range w) (fun k => x.2.getD i 0 * (q.getD k 0 * x.1.getD k 0) + prS r i k * q.getD k 0) := sm_congr fun k _ => by
      rw [prS_cons, Int.add_mul, Int.mul_assoc, Int.mul_comm (x.1.getD k 0)]
    rw [this, sm_add, sm_mul, ih fun y hy => h y (List.mem_cons_of_mem _ hy), ← psum_vec hq hx.1, Int.mul_comm]
    unfold lkS
    rw [sm_cons]
/-- the law adds up without rests -/
theorem plus_more {p : Int} {w : Nat} {x q : Vec} {prs : List (Vec × Vec)} (hx : x.length = w) (hq : q.length = w) (h : ∀ y, y ∈ prs → y.2.length = w) :
    ((List.range w).map fun i => (x.getD i 0 + lkS q prs i) % p) = plusF p x (lookF p q prs) := by
  rw [look_eq hq rfl h]
  conv => rhs; rw [vec_eq hx]
  rw [plus_vec]
  exact List.map_congr_left fun i _ => (mod_addr ..).symm
/-! ### windows -/
theorem rows_drop {w L m k : Nat} {rows : List Rw} (h : RowsOk w L m rows) : RowsOk w L m (rows.drop k) := ⟨by rw [List.length_drop]; have := h.1; omega, fun r hr => h.2 r (List.drop_subset _ _ hr)⟩
theorem rows_snoc {w L m : Nat} {rows : List Rw} {r : Rw} (h : RowsOk w L m rows) (h2 : RwOk w L m r) (hl : rows.length < 50000) : RowsOk w L m (rows ++ [r]) := ⟨by rw [List.length_append, List.length_singleton]; omega, fun x hx => by
  rcases List.mem_append.mp hx with z | z
  · exact h.2 x z
  · rw [List.mem_singleton] at z; subst z; exact h2⟩
/-! ### rows over the kept ones -/
def xB (n : NetV) (cnt : Nat) (l : Int) : Vec := plusF n.prime (n.embed.getD l.toNat []) (n.shift.map ((cnt : Int) * ·))
theorem xB_ok {w L : Nat} {n : NetV} {cnt : Nat} {l : Int} (hn : NetOk w L n) (hl : 0 ≤ l ∧ l < (L : Int)) : W97 w (xB n cnt l) := by
  have hp := prime_pos hn
  have hlt : l.toNat < n.embed.length := by have := hn.em.1; omega
  refine w97_plus ⟨hp.1, hp.2.2⟩ ?_ (by rw [List.length_map]; exact hn.sh.1)
  rw [List.getD_eq_getElem?_getD, List.getElem?_eq_getElem hlt]
  exact (hn.em.2 _ (List.getElem_mem hlt)).1
/-- behind some layers -/
def stB (n : NetV) (cnt : Nat) (kept : List Rw) (l : Int) (k : Nat) : List (Vec × Vec) × Vec := (n.layers.take k).foldl (stepL n.prime kept) ([], xB n cnt l)
theorem stB_zero {n : NetV} {cnt : Nat} {kept : List Rw} {l : Int} : stB n cnt kept l 0 = ([], xB n cnt l) := rfl
theorem stB_succ {n : NetV} {cnt : Nat} {kept : List Rw} {l : Int} {k : Nat} {ly : Lay} (h : n.layers[k]? = some ly) : stB n cnt kept l (k + 1) = stepL n.prime kept (stB n cnt kept l k) ly := fold_snoc h
theorem stB_len {n : NetV} {cnt : Nat} {kept : List Rw} {l : Int} {k : Nat} (h : k ≤ n.layers.length) : (stB n cnt kept l k).1.length = k := by
  unfold stB; rw [fold_len, List.length_take]; simp; omega
theorem stB_ok {w L : Nat} {n : NetV} {cnt : Nat} {kept : List Rw} {l : Int} (hn : NetOk w L n) (hr : RowsOk w L n.layers.length kept) (hl : 0 ≤ l ∧ l < (L : Int)) (k : Nat) : StOk w (stB n cnt kept l k) := by
  have hp := prime_pos hn
  refine fold_ok ⟨hp.1, hp.2.2⟩ hr _ _ (fun x hx => hn.la.2 x (List.take_subset _ _ hx)) ?_ ⟨xB_ok hn hl, fun p h => by cases h⟩
  rw [List.length_take]; simp; omega
theorem rowB_eq {n : NetV} {cnt : Nat} {kept : List Rw} {l : Int} : rowB n cnt kept l = ⟨(stB n cnt kept l n.layers.length).1, n.out.map fun v => 1 + psum v (stB n cnt kept l n.layers.length).2 % n.prime⟩ := by
  unfold rowB stB xB; rw [List.take_length]
theorem rowB_ok {w L : Nat} {n : NetV} {cnt : Nat} {kept : List Rw} {l : Int} (hn : NetOk w L n) (hr : RowsOk w L n.layers.length kept) (hl : 0 ≤ l ∧ l < (L : Int)) : RwOk w L n.layers.length (rowB n cnt kept l) := by
  have hp := prime_pos hn
  have hp' : 0 < n.prime ∧ n.prime ≤ 97 := ⟨hp.1, hp.2.2⟩
  have ok := stB_ok (cnt := cnt) hn hr hl n.layers.length
  rw [rowB_eq]
  refine ⟨⟨stB_len (Nat.le_refl _), fun p h => ⟨(ok.pa p h).1.wd, (ok.pa p h).2.wd⟩⟩, by show (n.out.map _).length = L; rw [List.length_map]; exact hn.ou.1, fun x hx => ?_⟩
  obtain ⟨v, _, rfl⟩ := List.mem_map.mp hx
  have := K09.sm_mod (x := psum v (stB n cnt kept l n.layers.length).2) hp'
  omega
theorem before_snoc {rows : List Rw} {r : Rw} {i : Nat} : beforeF (rows ++ [r]) i = beforeF rows i ++ [r.pairs.getD i ([], [])] := by
  unfold beforeF; rw [List.map_append]; rfl
theorem stB_get {n : NetV} {cnt : Nat} {kept : List Rw} {l : Int} {k : Nat} {ly : Lay} (h : n.layers[k]? = some ly) : (stB n cnt kept l n.layers.length).1.getD k ([], []) = pairF n.prime ly (stB n cnt kept l k).2 := by
  have hk := lt_of_some h
  have key : ∀ j, k + 1 ≤ j → j ≤ n.layers.length → (stB n cnt kept l j).1[k]? = some (pairF n.prime ly (stB n cnt kept l k).2) := by
    intro j
    induction j with
    | zero => intro h1; omega
    | succ j ih =>
      intro h1 h2
      obtain ⟨lj, hj⟩ : ∃ x, n.layers[j]? = some x := ⟨_, List.getElem?_eq_getElem (by omega)⟩
      rw [stB_succ hj]
      show ((stB n cnt kept l j).1 ++ [_])[k]? = _
      by_cases z : k = j
      · subst z
        rw [h] at hj
        obtain rfl := Option.some.inj hj
        rw [List.getElem?_append_right (by rw [stB_len (by omega)]; omega), stB_len (by omega), Nat.sub_self]
        rfl
      · rw [List.getElem?_append_left (by rw [stB_len (by omega)]; omega)]
        exact ih (by omega) (by omega)
  rw [List.getD_eq_getElem?_getD, key _ (by omega) (Nat.le_refl _)]
  rfl
end K09
set_option Elab.async false
set_option linter.all false
set_option maxRecDepth 100000
set_option maxHeartbeats 1000000
namespace K09
open PySem PySem.Spec PyProof.Rows L2 DL
theorem fldD_at {C : Addr} {N : List Str} {i : Nat} {S : Sto} {a : Addr} {xs : DE} {d : D} (h : S a = some (.ins C N xs)) (h2 : getV xs i = some d) (k : D → Prop) : fldD C N i S (.ref a) k = k d := by
  simp only [fldD, h, h2, true_and, and_self, some!]
theorem setF_at {C : Addr} {N : List Str} {i : Nat} {S : Sto} {a : Addr} {xs : DE} {d : D} (h : S a = some (.ins C N xs)) (k : Sto → Prop) : setD C N i S (.ref a) d k = k (put S a (.ins C N (setV xs i d))) := by
  simp only [setD, h, true_and, and_self]
theorem ne_fresh {S : Sto} {m : MO} {a p : Addr} (h : S a = some m) (h0 : S p = none) : a ≠ p := fun z => by rw [← z, h] at h0; cases h0
theorem len_no_matrix (c : Cl) : ∀ ds S Q E, sp_no_matrix c ds S Q E → ds.length = 1 := by
  rintro ds S Q E ⟨_, rfl, _⟩; rfl
theorem rd_no_matrix (c : Cl) : ∀ ds S Q X1, sp_no_matrix c ds S Q X1 → w_no_matrix c (startD N_no_matrix_ ds) S (endQ Q X1) := by
  rintro ds S Q X1 ⟨w, rfl, hw, h⟩
  show w_no_matrix c [some (.int (w : Nat)), none] S (endQ Q X1)
  have e0 : ((List.replicate w [D.int 0]).flatten) = ((List.range w).map fun _ => (0 : Int)).map D.int := by
    rcases (show w = 0 ∨ w = 1 ∨ w = 2 ∨ w = 3 ∨ w = 4 by omega) with rfl | rfl | rfl | rfl | rfl <;> rfl
  unfold w_no_matrix
  simp only [wRet, wCB, wCons, wNil, wLc, wRg1, wVar, getV, some!, asI, delVs, delV, Int.toNat_natCast, rngD_length]
  refine ⟨⟨by omega, by omega⟩, by unfold sizeLine; omega, ?_⟩
  rw [rng_eq]
  refine compI_vals (List.range w) (fun (i : Nat) => D.int (i : Int)) (fun i => dT ((List.range w).map fun _ => 0)) trivial (fun i hi R hR => ?_) ?_
  · simp only [gN, setV, wCB, wCons, wNil, wBin, wLst, wC, wVar, getV, some!]
    refine ⟨by decide, ?_⟩
    simp only [oRep, seqM, some!, Int.toNat_natCast, List.length_cons, List.length_nil]
    refine ⟨⟨by omega, by omega, by unfold sizeLine; omega⟩, ?_⟩
    simp only [oTuple, one, seqA, seqL, seqM, some!]
    rw [e0]; exact hR
  · simp only [oTuple, one, seqA, seqL, seqM, some!]
    have e : (List.range w).map (fun (i : Nat) => dT ((List.range w).map fun _ => 0)) = (sumMat 2 w []).map dT := by unfold sumMat; rw [List.map_map]; rfl
    rw [e]; exact h 2 (by decide)
theorem mulwA {i j : Int} (hi : i.natAbs < 10000000000000000000) (hj : j.natAbs < 10000000000000000000) : CMulW i j := by
  have key : ∀ i : Int, i.natAbs < 10000000000000000000 → i.natAbs.log2 < 100 := fun i hi => by
    by_cases z : i.natAbs = 0
    · rw [z]; decide
    · have := (Nat.log2_lt (k := 64) z).mpr (by omega); omega
  have := key i hi
  have := key j hj
  unfold CMulW
  omega
theorem zipD_map {α β : Type} {f : α → D} {g : β → D} {a : List α} {b : List β} : zipD (a.map f) (b.map g) = (a.zip b).map fun p => D.tup [f p.1, g p.2] := by
  unfold zipD
  rw [List.zip_map, List.map_map]
  rfl
theorem zw_zip {α β γ : Type} {f : α → β → γ} {a : List α} {b : List β} : List.zipWith f a b = (a.zip b).map fun x => f x.1 x.2 := by
  rw [List.zip, List.map_zipWith]
theorem withF_zip {p t : Int} {m : Mat} {pr : Vec × Vec} : withF p m pr t = (m.zip pr.2).map fun x => (x.1.zip pr.1).map fun y => (y.1 + t * x.2 * y.2) % p := by
  unfold withF
  rw [zw_zip]
  exact List.map_congr_left fun x _ => zw_zip
theorem len_with_pair (c : Cl) : ∀ ds S Q E, sp_with_pair c ds S Q E → ds.length = 4 := by
  rintro ds S Q E ⟨_, _, _, _, _, _, _, rfl, _⟩; rfl
theorem rd_with_pair (c : Cl) : ∀ ds S Q X1, sp_with_pair c ds S Q X1 → w_with_pair c (startD N_with_pair_ ds) S (endQ Q X1) := by
  rintro ds S Q X1 ⟨n, e, m, pr, t, w, L, rfl, hn, hm, hpr, ht, h⟩
  have hp := prime_pos hn
  have hw := hn.w1
  show w_with_pair c [some (dNet c n e), some (dM m), some (dP pr), some (.int t), none, none, none, none, none, none, none] S (endQ Q X1)
  unfold w_with_pair
  refine seq_k fun q1 n1 r1 _ _ x1 => ?_
  simp only [wAsgG, wVar, getV, some!, gT, gAll, gN, dP, setV]
  refine ⟨rfl, n1 _ _ ?_⟩
  refine seq_k fun q2 n2 r2 _ _ x2 => ?_
  simp only [wSet, wLstM, wNil, setV]
  refine ⟨by decide, fun f hf => n2 _ _ ?_⟩
  have E := ext_put (m := .lst []) (ext_refl S) hf
  have hat : put S f (.lst []) f = some (.lst []) := put_same
  generalize put S f (.lst []) = S1 at E hat
  refine seq_k fun q3 n3 r3 _ _ x3 => ?_
  simp only [wFor, wZip, wVar, getV, some!, dM, dT, seqA]
  rw [zipD_map]
  refine forI_invq (fun k en S' => Ext S S' ∧ S' f = some (.lst (((m.zip pr.2).take k).map fun x => dT ((x.1.zip pr.1).map fun y => (y.1 + t * x.2 * y.2) % n.prime))) ∧ ∃ x7 x8, en = [some (dNet c n e), some (dM m), some (dP pr), some (.int t), some (dT pr.1), some (dT pr.2), some (.ref f), x7, x8, none, none]) ⟨E, hat, _, _, rfl⟩ (fun k e S' h => ⟨trivial, trivial⟩) ?_ ?_
  · rintro k d en S' hi ⟨E, hat, x7, x8, rfl⟩ q hq _ _ _ _
    rw [List.getElem?_map] at hi
    obtain ⟨x, hx, rfl⟩ := Option.map_eq_some_iff.mp hi
    have hxm := List.of_mem_zip (List.mem_of_getElem? hx)
    have hrow := hm.2 _ hxm.1
    have hwo := hpr.2.2 _ hxm.2
    have hkl := lt_of_some hx
    simp only [gT, gAll, gN, setV]
    refine ⟨rfl, ?_⟩
    simp only [wDrop, wMt, wCons, wNil, wCB, wLc, wZip, wVar, getV, some!, mutL, hat, dT, seqA, delVs, delV]
    refine ⟨by rw [zipD_length, List.length_map, hrow.1]; unfold sizeLine; omega, ?_⟩
    rw [zipD_map]
    refine compI_vals (x.1.zip pr.1) (fun y => D.tup [.int y.1, .int y.2]) (fun y => .int ((y.1 + t * x.2 * y.2) % n.prime)) ⟨trivial, trivial⟩ (fun y hy R hR => ?_) ?_
    · have hym := List.of_mem_zip hy
      have y1 := hrow.2 _ hym.1
      have y2 := hpr.1.2 _ hym.2
      simp only [gT, gAll, gN, setV]
      refine ⟨rfl, ?_⟩
      simp only [wMeth, wBin, wCons, wNil, wVar, getV, some!, oMul, oI, oAdd, oI0]
      refine ⟨isN, mulwA (by omega) (by omega), mulwA ?_ (by omega), n, e, _, rfl, hp.1, hR⟩
      rcases ht with rfl | rfl <;> omega
    · have em : (x.1.zip pr.1).map (fun y => D.int ((y.1 + t * x.2 * y.2) % n.prime)) = ((x.1.zip pr.1).map fun y => (y.1 + t * x.2 * y.2) % n.prime).map D.int := by rw [List.map_map]; rfl
      rw [em]
      simp only [oTuple, one, seqA, seqL, seqM, some!, oAppend, mutL, hat]
      refine ⟨by rw [List.length_map, List.length_take]; have := hm.1; rw [List.length_zip] at hkl; unfold sizeLine; omega, hq _ _ ⟨ext_chg E (ext_none (ext_refl S) hf), ?_, _, _, rfl⟩⟩
      rw [put_same, List.take_add_one, hx, List.map_append]; rfl
  · rintro en S' ⟨E, hat, x7, x8, rfl⟩
    refine n3 _ _ ?_
    rw [List.length_map, List.take_length] at hat
    have o := fun Q => oTuple_at (seqA_at hat) Q
    simp only [wRet, wCB, wCons, wNil, wVar, getV, some!, o]
    have := h S' E
    rw [withF_zip] at this
    unfold dM at this
    rw [List.map_map] at this
    exact this
theorem len_LayerReader_init (c : Cl) : ∀ ds S Q E, sp_LayerReader_init c ds S Q E → ds.length = 4 := by
  rintro ds S Q E ⟨_, _, _, _, _, rfl, _⟩; rfl
theorem rd_LayerReader_init (c : Cl) : ∀ ds S Q X1, sp_LayerReader_init c ds S Q X1 → w_LayerReader_init c (startD N_LayerReader_init_ ds) S (endQ Q X1) := by
  rintro ds S Q X1 ⟨R, n, e, cnt, mats, rfl, h0, h⟩
  show w_LayerReader_init c [some (.ref R), some (dNet c n e), some (.int (cnt : Nat)), some (.tup (mats.map dM))] S (endQ Q X1)
  have fr : ∀ {S' : Sto} {m : MO}, (∀ a m, a ≠ R → S a = some m → S' a = some m) → ∀ a x, a ≠ R → S a = some x → put S' R m a = some x := fun h a x ne z => by rw [put_ne ne]; exact h a x ne z
  have fr2 : ∀ {S' : Sto} {P : Addr} {m : MO}, S' P = none → (∀ a m, a ≠ R → S a = some m → S' a = some m) → ∀ a x, a ≠ R → S a = some x → put S' P m a = some x := fun hP h a x ne z => by rw [put_ne (ne_fresh (h a x ne z) hP)]; exact h a x ne z
  unfold w_LayerReader_init
  refine seq_k fun q1 n1 r1 _ _ x1 => ?_
  simp only [wSetF, wVar, getV, some!, setF_at h0]
  have f1 := fr (m := .ins c.LayerReader N_LayerReader (setV (noneV N_LayerReader) 0 (dNet c n e))) fun _ _ _ z => z
  have h1 : put S R (.ins c.LayerReader N_LayerReader (setV (noneV N_LayerReader) 0 (dNet c n e))) R = some _ := put_same
  generalize put S R (.ins c.LayerReader N_LayerReader (setV (noneV N_LayerReader) 0 (dNet c n e))) = S1 at f1 h1 ⊢
  refine n1 _ _ ?_
  refine seq_k fun q2 n2 r2 _ _ x2 => ?_
  simp only [wSetF, wVar, getV, some!, setF_at h1]
  have f2 := fr (m := .ins c.LayerReader N_LayerReader (setV (setV (noneV N_LayerReader) 0 (dNet c n e)) 1 (.int (cnt : Nat)))) f1
  have h2 : put S1 R (.ins c.LayerReader N_LayerReader (setV (setV (noneV N_LayerReader) 0 (dNet c n e)) 1 (.int (cnt : Nat)))) R = some _ := put_same
  generalize put S1 R (.ins c.LayerReader N_LayerReader (setV (setV (noneV N_LayerReader) 0 (dNet c n e)) 1 (.int (cnt : Nat)))) = S2 at f2 h2 ⊢
  refine n2 _ _ ?_
  refine seq_k fun q3 n3 r3 _ _ x3 => ?_
  simp only [wSetF, wVar, getV, some!, setF_at h2]
  have f3 := fr (m := .ins c.LayerReader N_LayerReader (setV (setV (setV (noneV N_LayerReader) 0 (dNet c n e)) 1 (.int (cnt : Nat))) 2 (.tup (mats.map dM)))) f2
  have h3 : put S2 R (.ins c.LayerReader N_LayerReader (setV (setV (setV (noneV N_LayerReader) 0 (dNet c n e)) 1 (.int (cnt : Nat))) 2 (.tup (mats.map dM)))) R = some _ := put_same
  generalize put S2 R (.ins c.LayerReader N_LayerReader (setV (setV (setV (noneV N_LayerReader) 0 (dNet c n e)) 1 (.int (cnt : Nat))) 2 (.tup (mats.map dM)))) = S3 at f3 h3 ⊢
  refine n3 _ _ ?_
  refine seq_k fun q4 n4 r4 _ _ x4 => ?_
  simp only [wSetF, wLstM, wNil, wVar, getV, some!]
  refine ⟨by decide, fun P hP => ?_⟩
  have nR := ne_fresh h3 hP
  have h4 := (put_ne (S := S3) (m := .lst []) nR).trans h3
  have p4 : put S3 P (.lst []) P = some (.lst []) := put_same
  have f4 := fr2 (m := .lst []) hP f3
  generalize put S3 P (.lst []) = S4 at h4 p4 f4 ⊢
  rw [setF_at h4]
  refine n4 _ _ ?_
  generalize hx : setV (setV (setV (setV (noneV N_LayerReader) 0 (dNet c n e)) 1 (.int (cnt : Nat))) 2 (.tup (mats.map dM))) 3 (.ref P) = xs
  have h5 : put S4 R (.ins c.LayerReader N_LayerReader xs) R = some _ := put_same
  have p5 : put S4 R (.ins c.LayerReader N_LayerReader xs) P = some (.lst []) := by rw [put_ne nR.symm]; exact p4
  have f5 := fr (m := .ins c.LayerReader N_LayerReader xs) f4
  generalize put S4 R (.ins c.LayerReader N_LayerReader xs) = S5 at h5 p5 f5 ⊢
  simp only [wSetF, wLstM, wNil, wVar, getV, some!]
  refine ⟨by decide, fun M hM => ?_⟩
  have nM := ne_fresh h5 hM
  have pM := ne_fresh p5 hM
  have h6 := (put_ne (S := S5) (m := .lst []) nM).trans h5
  have p6 : put S5 M (.lst []) P = some (.lst []) := by rw [put_ne pM]; exact p5
  have m6 : put S5 M (.lst []) M = some (.lst []) := put_same
  have f6 := fr2 (m := .lst []) hM f5
  generalize put S5 M (.lst []) = S6 at h6 p6 m6 f6 ⊢
  rw [setF_at h6]
  subst hx
  refine h P M _ ?_ ?_ pM put_same (by rw [put_ne nR.symm]; exact p6) (by rw [put_ne nM.symm]; exact m6) (fr f6)
  · cases z : S P with
    | none => rfl
    | some m => exact absurd (f3 P m nR.symm z) (by rw [hP]; exact fun y => by cases y)
  · cases z : S M with
    | none => rfl
    | some m => exact absurd (f5 M m nM.symm z) (by rw [hM]; exact fun y => by cases y)
end K09
set_option Elab.async false
set_option linter.all false
set_option maxRecDepth 100000
set_option maxHeartbeats 1000000
namespace K09
open PySem PySem.Spec PyProof.Rows L2 DL
theorem sumMat_ok {w : Nat} {p : Int} {prs : List (Vec × Vec)} (hp : 0 < p ∧ p ≤ 97) : (sumMat p w prs).length = w ∧ MatOk w (sumMat p w prs) := by
  refine ⟨by unfold sumMat; rw [List.length_map, List.length_range], fun v hv => ?_⟩
  obtain ⟨i, _, rfl⟩ := List.mem_map.mp hv
  refine ⟨by rw [List.length_map, List.length_range], fun x hx => ?_⟩
  obtain ⟨k, _, rfl⟩ := List.mem_map.mp hx
  have := K09.sm_mod (x := ((prs.map fun pr => pr.2.getD i 0 * pr.1.getD k 0).sum)) hp
  omega
theorem sums_get {n : NetV} {kept : List Rw} {i : Nat} (h : i < n.layers.length) : (sumsOf n kept)[i]? = some (sumMat n.prime n.shift.length (beforeF kept i)) := by
  unfold sumsOf
  rw [List.getElem?_map, List.getElem?_range h]
  rfl
theorem next_eq {w L : Nat} {n : NetV} {kept : List Rw} {st : List (Vec × Vec) × Vec} {ly : Lay} (hn : NetOk w L n) (hr : RowsOk w L n.layers.length kept) (hl : LayOk w ly) (hi : st.1.length < n.layers.length) (hs : StOk w st) :
    timesF n.prime (sumMat n.prime w (beforeF kept st.1.length ++ [pairF n.prime ly st.2])) (timesF n.prime ly.q st.2) = lookF n.prime (timesF n.prime ly.q st.2) (beforeF kept st.1.length ++ [pairF n.prime ly st.2]) := by
  have hp := prime_pos hn
  obtain ⟨h1, h2, h3, h4, h5⟩ := hl
  refine times_sum (by rw [len_times]; exact h1.1) fun x hx => ?_
  rcases List.mem_append.mp hx with z | z
  · have := before_ok hr hi x z; exact ⟨this.1.1, this.2.1⟩
  · rw [List.mem_singleton] at z; subst z
    exact ⟨by show (timesF _ _ _).length = w; rw [len_times]; exact h2.1, by show (timesF _ _ _).length = w; rw [len_times]; exact h3.1⟩
theorem len_LayerReader_read (c : Cl) : ∀ ds S Q E, sp_LayerReader_read c ds S Q E → ds.length = 2 := by
  rintro ds S Q E ⟨_, _, _, _, _, _, _, _, _, _, rfl, _⟩; rfl
theorem getV0 {x : D} {r : DE} : getV (some x :: r) 0 = some x := rfl
theorem rd_LayerReader_read (c : Cl) : ∀ ds S Q X1, sp_LayerReader_read c ds S Q X1 → w_LayerReader_read c (startD N_LayerReader_read_ ds) S (endQ Q X1) := by
  rintro ds S Q X1 ⟨R, n, e, cnt, kept, P, M, l, w, L, rfl, hn, hr, hcnt, hl, hR, hP, hM, nPM, nPR, nMR, h⟩
  have hp := prime_pos hn
  have hp' : 0 < n.prime ∧ n.prime ≤ 97 := ⟨hp.1, hp.2.2⟩
  have hw := hn.w1
  have hsl := hn.sh.1
  show w_LayerReader_read c [some (.ref R), some (.int l), none, none, none, none, none, none, none, none, none, none, none, none] S (endQ Q X1)
  have F : ∀ {S : Sto}, S R = some (rdF c n e cnt (sumsOf n kept) P M) → (∀ k, fldD c.LayerReader N_LayerReader 0 S (.ref R) k = k (dNet c n e)) ∧ (∀ k, fldD c.LayerReader N_LayerReader 1 S (.ref R) k = k (.int (cnt : Nat))) ∧ (∀ k, fldD c.LayerReader N_LayerReader 2 S (.ref R) k = k (.tup ((sumsOf n kept).map dM))) ∧ (∀ k, fldD c.LayerReader N_LayerReader 3 S (.ref R) k = k (.ref P)) ∧ (∀ k, fldD c.LayerReader N_LayerReader 4 S (.ref R) k = k (.ref M)) :=
    fun h => ⟨fldD_at h rfl, fldD_at h rfl, fldD_at h rfl, fldD_at h rfl, fldD_at h rfl⟩
  have FN : ∀ {S : Sto}, (∀ k, fldD c.Net N_Net 1 S (dNet c n e) k = k (dM n.embed)) ∧ (∀ k, fldD c.Net N_Net 2 S (dNet c n e) k = k (dT n.shift)) ∧ (∀ k, fldD c.Net N_Net 3 S (dNet c n e) k = k (.tup (n.layers.map dLay))) ∧ (∀ k, fldD c.Net N_Net 4 S (dNet c n e) k = k (dM n.out)) := by
    intro S
    refine ⟨fun k => ?_, fun k => ?_, fun k => ?_, fun k => ?_⟩ <;> simp only [fldD, dNet, netF, true_and, and_self, List.getElem?_cons_zero, List.getElem?_cons_succ, some!]
  have sT : ∀ (S : Sto) (v : Vec), seqA S (dT v) = some (v.map D.int) := fun _ _ => rfl
  unfold w_LayerReader_read
  obtain ⟨f0, f1, f2, f3, f4⟩ := F hR
  refine seq_k fun q1 n1 r1 _ _ x1 => ?_
  simp only [wSet, wFld, wVar, getV, setV, some!, f0]
  refine n1 _ _ ?_
  obtain ⟨g1, g2, g3, g4⟩ := FN (S := S)
  refine seq_k fun q2 n2 r2 _ _ x2 => ?_
  have hlt : l.toNat < n.embed.length := by have := hn.em.1; omega
  obtain ⟨em, hem⟩ : ∃ x, n.embed[l.toNat]? = some x := ⟨_, List.getElem?_eq_getElem hlt⟩
  have ix : ∀ Q, oIx S (dM n.embed) (.int l) Q = Q (dT em) S := oIx_eq (show seqA S (dM n.embed) = some (n.embed.map dT) from rfl) (at_z hl.1 (by rw [List.getElem?_map, hem]; rfl))
  have hemw := hn.em.2 _ (List.mem_of_getElem? hem)
  simp only [wSet, wMeth, wCall, wCons, wNil, wBin, wFld, wLc, wIt, wVar, getV, setV, some!, f1, g1, g2, ix, dT, seqA, delVs, delV]
  refine ⟨isN, by rw [List.length_map, hsl]; unfold sizeLine; omega, compI_vals n.shift D.int (fun x => .int ((cnt : Int) * x)) trivial (fun x hx R2 hR2 => ?_) ?_⟩
  · have := hn.sh.2 x hx
    simp only [gN, setV, wBin, wFld, wVar, getV, some!, f1, oMul, oI, oI0]
    exact ⟨mulw (by omega) (by omega), hR2⟩
  have e0 : n.shift.map (fun x => D.int ((cnt : Int) * x)) = (n.shift.map ((cnt : Int) * ·)).map D.int := by rw [List.map_map]; rfl
  rw [e0]
  refine ⟨n, e, true, false, em, n.shift.map ((cnt : Int) * ·), rfl, hp.1, by rw [hemw.1]; omega, n2 _ _ ?_⟩
  have ex0 : plusF n.prime em (n.shift.map ((cnt : Int) * ·)) = xB n cnt l := by
    unfold xB; rw [List.getD_eq_getElem?_getD, hem]; rfl
  rw [ex0]
  refine seq_k fun q3 n3 r3 _ _ x3 => ?_
  simp only [wFor, wEnum, wFld, wVar, getV, some!, g3, seqA, enumD_length]
  refine forI_invq (fun k en S' => S' R = some (rdF c n e cnt (sumsOf n kept) P M) ∧ S' P = some (.lst ((stB n cnt kept l k).1.map dP)) ∧ S' M = some (.lst (((sumsOf n (kept ++ [rowB n cnt kept l])).take k).map dM)) ∧ (∀ a m, a ≠ P → a ≠ M → S a = some m → S' a = some m) ∧
    ∃ x4 x5 x6 x7 x8 x9 x10 x11, en = [some (.ref R), some (.int l), some (dNet c n e), some (dT (stB n cnt kept l k).2), x4, x5, x6, x7, x8, x9, x10, x11, none, none])
    ⟨hR, hP, hM, fun _ _ _ _ z => z, _, _, _, _, _, _, _, _, rfl⟩ (fun k e S' h => trivial) ?_ ?_
  · rintro k d en S' hi ⟨hR, hP, hM, fr, x4, x5, x6, x7, x8, x9, x10, x11, rfl⟩ q hq _ _ _ _
    obtain ⟨y, hy, rfl⟩ := enumD_get hi
    rw [List.getElem?_map] at hy
    obtain ⟨ly, hly, rfl⟩ := Option.map_eq_some_iff.mp hy
    have hk := lt_of_some hly
    have lok := hn.la.2 ly (List.mem_of_getElem? hly)
    obtain ⟨k1, k2, k3, k4, k5⟩ := lok
    have sok := stB_ok (cnt := cnt) hn hr hl k
    have slen := stB_len (n := n) (cnt := cnt) (kept := kept) (l := l) (k := k) (by omega)
    have hnx := next_eq hn hr (hn.la.2 ly (List.mem_of_getElem? hly)) (by rw [slen]; exact hk) sok
    have hsucc := stB_succ (cnt := cnt) (kept := kept) (l := l) hly
    have hget := stB_get (cnt := cnt) (kept := kept) (l := l) hly
    rw [slen] at hnx
    have hsm := sok.x.wd.2
    have hxl := sok.x.1
    generalize hst : stB n cnt kept l k = st at *
    obtain ⟨prs, x⟩ := st
    dsimp only at *
    have hpk := w97_times (v := x) hp' k2.1
    have hpv := w97_times (v := x) hp' k3.1
    have hpq := w97_times (v := x) hp' k1.1
    simp only [gT, gAll, gN, dLay, setV, Nat.zero_add]
    refine ⟨rfl, rfl, ?_⟩
    refine seq_k fun q4 n4 r4 _ _ x4' => ?_
    simp only [wSet, wTup, wMeth, wCall, wCons, wNil, wVar, getV, setV, some!]
    refine ⟨isN, n, e, ly.k, true, x, rfl, hp.1, by rw [k2.1]; omega, fun r hr => (k2.2 r hr).2, hsm, isN, n, e, ly.v, true, x, rfl, hp.1, by rw [k3.1]; omega, fun r hr => (k3.2 r hr).2, hsm, show 2 ≤ sizeLine by decide, n4 _ _ ?_⟩
    refine seq_k fun q5 n5 r5 _ _ x5' => ?_
    obtain ⟨f0, f1, f2, f3, f4⟩ := F hR
    have ia : ∀ Q, oIx S' (.tup ((sumsOf n kept).map dM)) (.int (k : Nat)) Q = Q (dM (sumMat n.prime n.shift.length (beforeF kept k))) S' := oIx_eq rfl (at_k (by rw [List.getElem?_map, sums_get hk]; rfl))
    simp only [wSet, wCall, wCons, wNil, wBin, wFld, wVar, wC, getV, setV, some!, f2, ia]
    refine ⟨n, e, _, pairF n.prime ly x, 1, w, L, rfl, hn, by rw [hsl]; exact sumMat_ok hp', ⟨hpk.wd, hpv.wd⟩, .inl rfl, fun S2 E2 => ?_⟩
    rw [hsl, with_add ⟨hpk.1, hpv.1⟩]
    have hmo := sumMat_ok (w := w) (prs := beforeF kept k ++ [pairF n.prime ly x]) hp'
    refine n5 _ _ ?_
    have hR2 := E2 _ _ hR
    have hP2 := E2 _ _ hP
    have hM2 := E2 _ _ hM
    have fr2 : ∀ a m, a ≠ P → a ≠ M → S a = some m → S2 a = some m := fun a m h1 h2 h3 => E2 _ _ (fr a m h1 h2 h3)
    refine seq_k fun q6 n6 r6 _ _ x6' => ?_
    simp only [wSet, wMeth, wCall, wCons, wNil, wVar, getV, setV, some!]
    refine ⟨isN, isN, isN, n, e, ly.q, true, x, rfl, hp.1, by rw [k1.1]; omega, fun r hr => (k1.2 r hr).2, hsm, n, e, _, true, _, rfl, hp.1, by rw [hmo.1]; omega, fun r hr => (hmo.2 r hr).2, hpq.wd.2, n, e, true, true, x, _, rfl, hp.1, by rw [hxl]; omega, n6 _ _ ?_⟩
    rw [hnx]
    have hlook : (lookF n.prime (timesF n.prime ly.q x) (beforeF kept k ++ [pairF n.prime ly x])).length = w := len_look hpq.1 fun y hy => by
      rcases List.mem_append.mp hy with z | z
      · exact (before_ok hr hk y z).2.1
      · rw [List.mem_singleton] at z; subst z; exact hpv.1
    have hx1 := w97_plus (b := lookF n.prime (timesF n.prime ly.q x) (beforeF kept k ++ [pairF n.prime ly x])) hp' hxl hlook
    have hxe : (stepL n.prime kept (prs, x) ly).2 = plusF n.prime (plusF n.prime x (lookF n.prime (timesF n.prime ly.q x) (beforeF kept k ++ [pairF n.prime ly x]))) (timesF n.prime ly.s ((timesF n.prime ly.f (plusF n.prime x (lookF n.prime (timesF n.prime ly.q x) (beforeF kept k ++ [pairF n.prime ly x])))).map fun n => n * n)) := by
      show nextX _ (beforeF kept prs.length) _ _ = _
      rw [slen]; rfl
    generalize plusF n.prime x (lookF n.prime (timesF n.prime ly.q x) (beforeF kept k ++ [pairF n.prime ly x])) = y at hx1 hxe
    have hpf := w97_times (v := y) hp' k4.1
    refine seq_k fun q7 n7 r7 _ _ x7' => ?_
    simp only [wSet, wMeth, wCall, wCons, wNil, wLc, wIt, wVar, getV, setV, some!]
    refine ⟨isN, isN, isN, n, e, ly.f, true, y, rfl, hp.1, by rw [k4.1]; omega, fun r hr => (k4.2 r hr).2, hx1.wd.2, ?_⟩
    simp only [sT, delVs, delV]
    refine ⟨by rw [List.length_map, hpf.1]; unfold sizeLine; omega, compI_vals (timesF n.prime ly.f y) D.int (fun x => .int (x * x)) trivial (fun z hz R2 hR2 => ?_) ?_⟩
    · have := hpf.2 z hz
      simp only [gN, setV, wBin, wVar, getV, some!, oMul, oI, oI0]
      exact ⟨mulw (by omega) (by omega), hR2⟩
    have e1 : (timesF n.prime ly.f y).map (fun x => D.int (x * x)) = ((timesF n.prime ly.f y).map fun x => x * x).map D.int := by rw [List.map_map]; rfl
    rw [e1]
    refine ⟨n, e, ly.s, false, _, rfl, hp.1, by rw [k5.1]; omega, fun r hr => (k5.2 r hr).2, sm_sq hpf.2, n, e, true, true, y, _, rfl, hp.1, by rw [hx1.1]; omega, n7 _ _ ?_⟩
    rw [← hxe]
    obtain ⟨f0, f1, f2, f3, f4⟩ := F hR2
    refine seq_k fun q8 n8 r8 _ _ x8' => ?_
    simp only [wDrop, wMt, wCons, wNil, wFld, wVar, getV, some!, f3, mutL, hP2, oAppend]
    refine ⟨by rw [List.length_map, slen]; have := hn.la.1; unfold sizeLine; omega, n8 _ _ ?_⟩
    have hR3 : put S2 P (.lst (prs.map dP ++ [.tup [dT (timesF n.prime ly.k x), dT (timesF n.prime ly.v x)]])) R = _ := (put_ne nPR.symm).trans hR2
    have hP3 : put S2 P (.lst (prs.map dP ++ [.tup [dT (timesF n.prime ly.k x), dT (timesF n.prime ly.v x)]])) P = _ := put_same
    have hM3 : put S2 P (.lst (prs.map dP ++ [.tup [dT (timesF n.prime ly.k x), dT (timesF n.prime ly.v x)]])) M = _ := (put_ne nPM.symm).trans hM2
    have fr3 : ∀ a m, a ≠ P → a ≠ M → S a = some m → put S2 P (.lst (prs.map dP ++ [.tup [dT (timesF n.prime ly.k x), dT (timesF n.prime ly.v x)]])) a = some m := fun a m h1 h2 h3 => (put_ne h1).trans (fr2 a m h1 h2 h3)
    generalize put S2 P (.lst (prs.map dP ++ [.tup [dT (timesF n.prime ly.k x), dT (timesF n.prime ly.v x)]])) = S3 at hR3 hP3 hM3 fr3 ⊢
    obtain ⟨f0, f1, f2, f3, f4⟩ := F hR3
    simp only [wDrop, wMt, wCons, wNil, wFld, wVar, getV, some!, f4, mutL, hM3, oAppend]
    refine ⟨by rw [List.length_map, List.length_take]; have := hn.la.1; unfold sizeLine; omega, hq _ _ ⟨(put_ne nMR.symm).trans hR3, (put_ne nPM).trans ?_, put_same.trans ?_, fun a m h1 h2 h3 => (put_ne h2).trans (fr3 a m h1 h2 h3), _, _, _, _, _, _, _, _, by rw [hsucc]⟩⟩
    · rw [hP3, hsucc]
      show _ = some (MO.lst ((prs ++ [pairF n.prime ly x]).map dP))
      rw [List.map_append]; rfl
    · rw [List.take_add_one, sums_get hk, before_snoc, List.map_append]
      have : (rowB n cnt kept l).pairs.getD k ([], []) = pairF n.prime ly x := by rw [rowB_eq]; exact hget
      rw [this, hsl]; rfl
  · rintro en S' ⟨hR, hP, hM, fr, x4, x5, x6, x7, x8, x9, x10, x11, rfl⟩
    rw [enumD_length, List.length_map] at hP hM ⊢
    have sok := stB_ok (cnt := cnt) hn hr hl n.layers.length
    refine n3 _ _ ?_
    obtain ⟨g1, g2, g3, g4⟩ := FN (S := S')
    simp only [wRet, wCB, wCons, wNil, wLc, wIt, wFld, wVar, getV, some!, g4, dM, seqA, delVs, delV, List.length_map]
    refine ⟨by rw [hn.ou.1]; have := hn.l1; unfold sizeLine; omega, compI_vals n.out dT (fun v => .int (1 + psum v (stB n cnt kept l n.layers.length).2 % n.prime)) trivial (fun v hv R2 hR2 => ?_) ?_⟩
    · simp only [gN, setV, wBin, wMeth, wCall, wCons, wNil, wC, wVar, getV, some!]
      refine ⟨isN, true, true, v, _, rfl, (hn.ou.2 v hv).2, sok.x.wd.2, n, e, _, rfl, hp.1, ?_⟩
      simp only [oAdd, oI0]
      exact hR2
    · simp only [oTuple, one, seqA, seqL, seqM, some!]
      rw [rowB_eq] at h
      rw [rowB_eq] at hM
      have e2 : n.out.map (fun v => D.int (1 + psum v (stB n cnt kept l n.layers.length).2 % n.prime)) = (n.out.map fun v => 1 + psum v (stB n cnt kept l n.layers.length).2 % n.prime).map D.int := by rw [List.map_map]; rfl
      rw [e2]
      have et : (sumsOf n (kept ++ [⟨(stB n cnt kept l n.layers.length).1, n.out.map fun v => 1 + psum v (stB n cnt kept l n.layers.length).2 % n.prime⟩])).take n.layers.length = sumsOf n (kept ++ [⟨(stB n cnt kept l n.layers.length).1, n.out.map fun v => 1 + psum v (stB n cnt kept l n.layers.length).2 % n.prime⟩]) := List.take_of_length_le (by unfold sumsOf; rw [List.length_map, List.length_range]; exact Nat.le_refl _)
      rw [et] at hM
      exact h S' hR hP hM fr
end K09
set_option Elab.async false
set_option linter.all false
set_option maxRecDepth 100000
set_option maxHeartbeats 1000000
namespace K09
open PySem PySem.Spec PyProof.Rows L2 DL
theorem sqc_0 {α : Type} {a : α} {l : List α} : seqIndex? 0 (a :: l).length = some 0 := by
  unfold seqIndex?
  simp
theorem inR_ex {l m : Int} {d : D} (h : inR l m d = true) : ∃ v, d = .int v ∧ l ≤ v ∧ v ≤ m := by
  cases d with
  | int v => exact ⟨v, rfl, of_decide_eq_true h⟩
  | _ => cases h
theorem isR_at {c : Cl} {S : Sto} {a : Addr} {xs : DE} (h : S a = some (.ins c.LayerReader N_LayerReader xs)) : isIns c.LayerReader N_LayerReader S (.ref a) := by
  show (match S a with | some (MO.ins C' N' _) => _ | _ => False)
  rw [h]; exact ⟨rfl, rfl⟩
theorem sums_nil {n : NetV} {w : Nat} (hw : n.shift.length = w) : n.layers.map (fun _ => dM (sumMat n.prime w [])) = (sumsOf n []).map dM := by
  unfold sumsOf
  rw [List.map_map, hw]
  have e : (dM ∘ fun i => sumMat n.prime w (beforeF [] i)) = fun _ => dM (sumMat n.prime w []) := rfl
  rw [e, List.map_const', List.map_const', List.length_range]
theorem before_cons {rows : List Rw} {r : Rw} {i : Nat} : beforeF (r :: rows) i = r.pairs.getD i ([], []) :: beforeF rows i := rfl
end K09
set_option Elab.async false
set_option linter.all false
set_option maxRecDepth 100000
set_option maxHeartbeats 1000000
namespace K09
open PySem PySem.Spec PyProof.Rows L2 DL
theorem tyN_ref {S : Sto} {a : Addr} : tyN S (.ref a) = (seqL S (.ref a)).map fun _ => "list" := rfl
theorem kn_ext {S S' : Sto} {d : D} (e : Ext S S') (h : Kn S d) : Kn S' d := by
  obtain ⟨n, h⟩ := h
  cases d with
  | ref a =>
    rw [tyN_ref] at h
    cases z : seqL S (.ref a) with
    | none => rw [z] at h; cases h
    | some xs =>
      have z' : seqA S (.ref a) = some xs := z
      have z2 : seqL S' (.ref a) = some xs := seqA_ext e z'
      exact ⟨"list", by rw [tyN_ref, z2]; rfl⟩
  | _ => exact ⟨n, h⟩
theorem kb1 : kitB "tuple" "tuple" = some true := by decide +kernel
theorem kb5 : kitB "str" "str" = some true := by decide +kernel
theorem kb7 : kitB "tuple" "bool" = some false := by decide +kernel
theorem kb9 : kitB "str" "bool" = some false := by decide +kernel
theorem kb10 : kitB "int" "str" = some false := by decide +kernel
theorem kb11 : kitB "list" "bool" = some false := by decide +kernel
theorem kb12 : kitB "list" "list" = some true := by decide +kernel
theorem kb13 : kitB "tuple" "list" = some false := by decide +kernel
theorem ka1 : kitAnyB "int" ["tuple", "list"] = some false := by decide +kernel
theorem ka2 : kitAnyB "str" ["tuple", "list"] = some false := by decide +kernel
theorem ka3 : kitAnyB "tuple" ["tuple", "list"] = some true := by decide +kernel
theorem ka4 : kitAnyB "list" ["tuple", "list"] = some true := by decide +kernel
theorem eqD_refl {S : Sto} {d : D} (h : shD S d = true) : eqD S d d = true := SeqAt.eqv_refl _ (SeqAt.canLay_of_shaped h)
theorem sh_str {S : Sto} {x : Str} (h : PyData.strOk x = true) : shD S (.str x) = true := by
  show ((PyData.str x).canLay0 && decide ((PyData.str x).depth ≤ 64)) = true
  simp [PyData.canLay0, PyData.depth, h]
theorem len__law_same_n (c : Cl) (n : Nat) : ∀ ds S Q E, sp__law_same_n c n ds S Q E → ds.length = 2 := by
  intro ds S Q E h
  cases n with
  | zero => exact h.elim
  | succ n => obtain ⟨_, rfl, _⟩ := h; rfl
theorem rd__law_same (c : Cl) (n : Nat) : ∀ ds S Q X1, sp__law_same_n c (n + 1) ds S Q X1 → w__law_same c n (startD N__law_same_ ds) S (endQ Q X1) := by
  rintro ds S Q X1 ⟨d, rfl, hp, h⟩
  show w__law_same c n [some d, some d, none] S (endQ Q X1)
  have non_no : ∀ q1 : QS, DL.isNon d = false → (wIf (wTest (wBin oIsN (wVar 1) (wC .non))) (wRet (wBin oIsN (wVar 0) (wC .non))) wNext) [some d, some d, none] S q1 = q1.nx [some d, some d, none] S := fun q1 hd => by
    simp only [wIf, wTest, wBin, wVar, wC, getV, some!, oIsN, hd, Bool.false_eq_true, if_false, wNext]
  have seq : ∀ (xs : List D) (m : Nat) (ty : String) (bb : Bool), n = m + 1 → DL.isNon d = false → tyN S d = some ty → kitB ty "bool" = some false → kitAnyB ty ["tuple", "list"] = some true → kitB ty "list" = some bb → seqA S d = some xs → (∀ x, x ∈ xs → plain m x) → xs.length ≤ 1000 → w__law_same c n [some d, some d, none] S (endQ Q X1) := by
    rintro xs m ty bb rfl hnon hty hk1 hk2 hk3 hs hx hl
    have ol := fun Q => oLen_at hs Q
    unfold w__law_same
    refine seq_k fun q1 n1 r1 _ _ x1 => ?_
    rw [non_no q1 hnon]
    refine n1 _ _ ?_
    refine seq_k fun q2 n2 r2 _ _ x2 => ?_
    simp only [wIf, wOr, wTest, wIsi, wVar, getV, some!, hty, hk1, Bool.false_eq_true, if_false, wNext]
    refine n2 _ _ ?_
    refine seq_k fun q3 n3 r3 _ _ x3 => ?_
    simp only [wIf, wTest, wIsiT, wVar, getV, some!, hty, hk2, if_true]
    refine seq_k fun q4 n4 r4 _ _ x4 => ?_
    simp only [wIf, wOr, wNot, wTest, wIsiT, wIsi, wBin, wVar, getV, some!, hty, hk2, hk3, Bool.not_true, Bool.false_eq_true, if_false, oNe, shD_bl, eqD_bl, beq_self_eq_true, true_and, wNext]
    refine n4 _ _ ?_
    refine seq_k fun q5 n5 r5 _ _ x5 => ?_
    simp only [wIf, wTest, wBin, wCB, wCons, wNil, wVar, getV, some!, ol, oNe, shD_int, eqD_int, decide_true, Bool.not_true, Bool.false_eq_true, if_false, true_and, wNext]
    refine n5 _ _ ?_
    refine seq_k fun q6 n6 r6 _ _ x6 => ?_
    simp only [wFor, wRg1, wCB, wCons, wNil, wVar, getV, some!, ol, asI]
    refine ⟨⟨by omega, by omega⟩, ?_⟩
    rw [Int.toNat_natCast]
    refine forI_invq (fun k e S' => S' = S ∧ ∃ x2, e = [some d, some d, x2]) ⟨rfl, _, rfl⟩ (fun _ _ _ _ => trivial) ?_ ?_
    · rintro k y e S' hi ⟨rfl, x2, rfl⟩ q hq _ _ _ _
      obtain ⟨hlt, rfl⟩ := rngD_get hi
      rw [Int.zero_add]
      obtain ⟨y, hy⟩ : ∃ y, xs[k]? = some y := ⟨_, List.getElem?_eq_getElem hlt⟩
      have a1 := fun Q => oIx_eq (S := S') (x := d) (i := (k : Int)) hs (at_k hy) Q
      simp only [gN, setV, wIf, wNot, wTest, wCall, wBin, wCons, wNil, wVar, getV, some!, a1]
      refine ⟨y, rfl, hx y (List.mem_of_getElem? hy), ?_⟩
      simp only [Bool.not_true, Bool.false_eq_true, if_false, wNext]
      exact hq _ _ ⟨rfl, _, rfl⟩
    · rintro e S' ⟨rfl, x2, rfl⟩
      refine n6 _ _ ?_
      simp only [wRet, wC, r3]
      exact h
  cases d with
  | non =>
    unfold w__law_same
    refine seq_k fun q1 n1 r1 _ _ x1 => ?_
    simp only [wIf, wTest, wBin, wVar, wC, getV, some!, oIsN, DL.isNon, if_true, wRet, r1]
    exact h
  | bl b =>
    unfold w__law_same
    refine seq_k fun q1 n1 r1 _ _ x1 => ?_
    rw [non_no q1 rfl]
    refine n1 _ _ ?_
    refine seq_k fun q1 n1 r1 _ _ x1 => ?_
    simp only [wIf, wOr, wTest, wIsi, wVar, getV, some!, tyN, kt7, if_true, wRet, wAndV, wBin, oEq, shD_bl, eqD_bl, beq_self_eq_true, true_and, r1]
    exact h
  | int i =>
    unfold w__law_same
    refine seq_k fun q1 n1 r1 _ _ x1 => ?_
    rw [non_no q1 rfl]
    refine n1 _ _ ?_
    refine seq_k fun q2 n2 r2 _ _ x2 => ?_
    simp only [wIf, wOr, wTest, wIsi, wVar, getV, some!, tyN, kt8, Bool.false_eq_true, if_false, wNext]
    refine n2 _ _ ?_
    refine seq_k fun q3 n3 r3 _ _ x3 => ?_
    simp only [wIf, wTest, wIsiT, wVar, getV, some!, tyN, ka1, Bool.false_eq_true, if_false, wNext]
    refine n3 _ _ ?_
    refine seq_k fun q4 n4 r4 _ _ x4 => ?_
    simp only [wIf, wTest, wIsi, wVar, getV, some!, tyN, kb10, Bool.false_eq_true, if_false, wNext]
    refine n4 _ _ ?_
    simp only [wIsi, wVar, getV, some!, tyN, kt3, if_true, wRet, wAndV, wBin, oEq, shD_int, eqD_int, decide_true, true_and]
    exact h
  | str x =>
    have hs : shD S (.str x) = true := sh_str (by cases n <;> exact hp)
    unfold w__law_same
    refine seq_k fun q1 n1 r1 _ _ x1 => ?_
    rw [non_no q1 rfl]
    refine n1 _ _ ?_
    refine seq_k fun q2 n2 r2 _ _ x2 => ?_
    simp only [wIf, wOr, wTest, wIsi, wVar, getV, some!, tyN, kb9, Bool.false_eq_true, if_false, wNext]
    refine n2 _ _ ?_
    refine seq_k fun q3 n3 r3 _ _ x3 => ?_
    simp only [wIf, wTest, wIsiT, wVar, getV, some!, tyN, ka2, Bool.false_eq_true, if_false, wNext]
    refine n3 _ _ ?_
    refine seq_k fun q4 n4 r4 _ _ x4 => ?_
    simp only [wIf, wTest, wIsi, wVar, getV, some!, tyN, kb5, if_true, wRet, wAndV, wBin, oEq, hs, eqD_refl hs, true_and, r4]
    exact h
  | tup xs =>
    cases n with
    | zero => exact hp.elim
    | succ n => exact seq xs n "tuple" false rfl rfl rfl kb7 ka3 kb13 rfl hp.2 hp.1
  | lst xs =>
    cases n with
    | zero => exact hp.elim
    | succ n => exact seq xs n "list" true rfl rfl rfl kb11 ka4 kb12 rfl hp.2 hp.1
  | _ => exact absurd hp (by cases n <;> exact id)
theorem imp__law_same (c : Cl) : ∀ ds S Q X1, sp__law_same c ds S Q X1 → sp__law_same_n c 8 ds S Q X1 := fun ds S Q X1 h => h
theorem same_go {c : Cl} {d : D} {S : Sto} {Q : Qd} {E : XQ} (h : plain 7 d) (q : Q (.bl true) S) : sp__law_same c [d, d] S Q E := ⟨d, rfl, h, q⟩
/-! ### tries -/
/-! ### products -/
theorem compI_size {w : Nat} {t : WPg} {te : WPe} {g : Sto → Prop} {env : DE} {S : Sto} {Q : List D → Sto → Prop} (f : Nat → Int) (hg : g S)
    (h : ∀ i : Nat, i < w → ∀ R : D → Sto → Prop, R (.int (f i)) S → t (.int (i : Int)) env fun e => te e S R X0) (hq : Q (((List.range w).map f).map D.int) S) : compI t wYes te g env (rngD 0 w) S Q := by
  rw [rng_eq]
  refine compI_vals (List.range w) (fun (i : Nat) => D.int (i : Int)) (fun i => .int (f i)) hg (fun i hi R hR => h i (List.mem_range.mp hi) R hR) ?_
  have e : (List.range w).map (fun i => D.int (f i)) = ((List.range w).map f).map D.int := by rw [List.map_map]; rfl
  rw [e]; exact hq
theorem get_vec {v : Vec} {k : Nat} (h : k < v.length) : (v.map D.int)[k]? = some (.int (v.getD k 0)) := by
  rw [List.getElem?_map, List.getD_eq_getElem?_getD, List.getElem?_eq_getElem h]; rfl
theorem ix_vec {v : Vec} {k : Nat} {S : Sto} (h : k < v.length) (Q : Qd) : oIx S (dL v) (.int (k : Nat)) Q = Q (.int (v.getD k 0)) S := oIx_eq (show seqA S (dL v) = some (v.map D.int) from rfl) (at_k (get_vec h)) Q
theorem ix_vecT {v : Vec} {k : Nat} {S : Sto} (h : k < v.length) (Q : Qd) : oIx S (dT v) (.int (k : Nat)) Q = Q (.int (v.getD k 0)) S := oIx_eq (show seqA S (dT v) = some (v.map D.int) from rfl) (at_k (get_vec h)) Q
theorem sm_get {v : Vec} {k : Nat} (h : Sm v) : 0 ≤ v.getD k 0 ∧ v.getD k 0 < 1000000 := by
  rw [List.getD_eq_getElem?_getD]
  cases z : v[k]? with
  | none => exact ⟨Int.le_refl 0, by decide⟩
  | some x => exact h x (List.mem_of_getElem? z)
theorem sum_int {S : Sto} {v : Vec} (Q : Qd) : oSum S [.lst (v.map D.int)] Q = Q (.int v.sum) S := by
  simp only [oSum, one, seqL, seqM, some!, toInts_map]
end K09
set_option Elab.async false
set_option linter.all false
set_option maxRecDepth 100000
set_option maxHeartbeats 1000000
namespace K09
open PySem PySem.Spec PyProof.Rows L2 DL
theorem seqM_A {S : Sto} {d : D} {xs : List D} (h : seqM S d = some xs) : seqA S d = some xs := by
  cases d with
  | lst ys => exact h
  | ref a => exact h
  | _ => cases h
theorem seqM_ext {S S' : Sto} {d : D} {xs : List D} (e : Ext S S') (h : seqM S d = some xs) : seqM S' d = some xs := by
  cases d with
  | lst ys => exact h
  | ref a => exact seqA_ext e (seqM_A h)
  | _ => cases h
theorem oSl_M {S : Sto} {d : D} {xs : List D} {lo hi : Option Int} (h : seqM S d = some xs) (Q : Qd) : oSl S d lo hi Q = Q (.lst (cutD xs lo hi)) S := by
  cases d with
  | lst ys => cases h; rfl
  | ref a =>
    have h' : seqL S (.ref a) = some xs := h
    show some! (seqL S (.ref a)) _ = _
    rw [h']; rfl
  | _ => cases h
theorem sIx_k {n : Nat} {k d : Nat} (h : k ≤ n) : HT.sIx n d (some (k : Int)) = k := by
  unfold HT.sIx
  simp
  split <;> omega
theorem cut_from {α : Type} {f : α → D} {xs : List α} {k : Nat} (h : k ≤ xs.length) : DL.cutD (xs.map f) (some (k : Int)) none = (xs.drop k).map f := by
  unfold DL.cutD
  rw [List.length_map, sIx_k h, show HT.sIx xs.length xs.length none = xs.length from rfl, List.map_drop, List.take_of_length_le (by rw [List.length_drop, List.length_map]; exact Nat.le_refl _)]
theorem plan_ix {n : NetV} {e : Option Int} {S : Sto} : (∀ Q, oIx S (dPlan n e) (.int 0) Q = Q (.int n.prime) S) ∧ (∀ Q, oIx S (dPlan n e) (.int 1) Q = Q (dML n.embed) S) ∧ (∀ Q, oIx S (dPlan n e) (.int 2) Q = Q (dL n.shift) S) ∧ (∀ Q, oIx S (dPlan n e) (.int 3) Q = Q (.lst (n.layers.map dLayL)) S) ∧ (∀ Q, oIx S (dPlan n e) (.int 4) Q = Q (dML n.out) S) ∧ (∀ Q, oIx S (dPlan n e) (.int 5) Q = Q (dO e) S) :=
  ⟨oIx_eq (show seqA S (dPlan n e) = some [.int n.prime, dML n.embed, dL n.shift, .lst (n.layers.map dLayL), dML n.out, dO e] from rfl) rfl, oIx_eq (show seqA S (dPlan n e) = some [.int n.prime, dML n.embed, dL n.shift, .lst (n.layers.map dLayL), dML n.out, dO e] from rfl) rfl, oIx_eq (show seqA S (dPlan n e) = some [.int n.prime, dML n.embed, dL n.shift, .lst (n.layers.map dLayL), dML n.out, dO e] from rfl) rfl, oIx_eq (show seqA S (dPlan n e) = some [.int n.prime, dML n.embed, dL n.shift, .lst (n.layers.map dLayL), dML n.out, dO e] from rfl) rfl, oIx_eq (show seqA S (dPlan n e) = some [.int n.prime, dML n.embed, dL n.shift, .lst (n.layers.map dLayL), dML n.out, dO e] from rfl) rfl, oIx_eq (show seqA S (dPlan n e) = some [.int n.prime, dML n.embed, dL n.shift, .lst (n.layers.map dLayL), dML n.out, dO e] from rfl) rfl⟩
theorem oLen_L {S : Sto} {α : Type} {f : α → D} {xs : List α} (Q : Qd) : oLen S [.lst (xs.map f)] Q = Q (.int (xs.length : Nat)) S := by
  rw [oLen_at (S := S) (d := .lst (xs.map f)) rfl, List.length_map]
theorem lkS_snoc {q : Vec} {prs : List (Vec × Vec)} {j i : Nat} {pr : Vec × Vec} (h : prs[j]? = some pr) : lkS q (prs.take (j + 1)) i = lkS q (prs.take j) i + psum q pr.1 * pr.2.getD i 0 := by
  unfold lkS
  rw [List.take_add_one, h]
  exact sm_snoc
theorem getD_range {w i : Nat} {f : Nat → Int} (h : i < w) : ((List.range w).map f).getD i 0 = f i := by
  rw [List.getD_eq_getElem?_getD, List.getElem?_map, List.getElem?_range h]; rfl
theorem plus_get {w : Nat} {p : Int} {x y : Vec} (hx : x.length = w) (hy : y.length = w) : ((List.range w).map fun i => (x.getD i 0 + y.getD i 0) % p) = plusF p x y := by
  conv => rhs; rw [vec_eq hx, vec_eq hy]
  rw [plus_vec]
end K09
set_option Elab.async false
set_option linter.all false
set_option maxRecDepth 100000
set_option maxHeartbeats 1000000
namespace K09
open PySem PySem.Spec PyProof.Rows L2 DL
theorem compI_sizeM {w : Nat} {t : WPg} {te : WPe} {g : Sto → Prop} {env : DE} {S : Sto} {Q : List D → Sto → Prop} (f : Nat → Vec) (hg : g S)
    (h : ∀ i : Nat, i < w → ∀ R : D → Sto → Prop, R (dL (f i)) S → t (.int (i : Int)) env fun e => te e S R X0) (hq : Q (((List.range w).map f).map dL) S) : compI t wYes te g env (rngD 0 w) S Q := by
  rw [rng_eq]
  refine compI_vals (List.range w) (fun (i : Nat) => D.int (i : Int)) (fun i => dL (f i)) hg (fun i hi R hR => h i (List.mem_range.mp hi) R hR) ?_
  have e : (List.range w).map (fun i => dL (f i)) = ((List.range w).map f).map dL := by rw [List.map_map]; rfl
  rw [e]; exact hq
theorem sumMat_nil {p : Int} {w : Nat} : sumMat p w [] = (List.range w).map fun _ => (List.range w).map fun _ => 0 := by
  rw [sumMat_eq]
  exact List.map_congr_left fun i _ => List.map_congr_left fun k _ => Int.zero_emod p
theorem sumMat_snoc {p : Int} {w : Nat} {prs : List (Vec × Vec)} {pr : Vec × Vec} : sumMat p w (prs ++ [pr]) = (List.range w).map fun i => (List.range w).map fun k => (prS prs i k % p + pr.2.getD i 0 * pr.1.getD k 0) % p := by
  rw [sumMat_eq]
  exact List.map_congr_left fun i _ => List.map_congr_left fun k _ => by rw [prS_snoc, mod_addl]
theorem ix_mat {p : Int} {w i : Nat} {prs : List (Vec × Vec)} {S : Sto} (h : i < w) (Q : Qd) : oIx S (dML (sumMat p w prs)) (.int (i : Nat)) Q = Q (dL ((List.range w).map fun k => prS prs i k % p)) S :=
  oIx_eq (show seqA S (dML (sumMat p w prs)) = some ((sumMat p w prs).map dL) from rfl) (at_k (by rw [List.getElem?_map, sumMat_eq, List.getElem?_map, List.getElem?_range h]; rfl)) Q
theorem plain_dT {v : Vec} {k : Nat} (h : v.length ≤ 1000) : plain (k + 1) (dT v) := ⟨by rw [List.length_map]; exact h, fun x hx => by
  obtain ⟨i, _, rfl⟩ := List.mem_map.mp hx
  cases k <;> exact trivial⟩
theorem plain_sums {w L k : Nat} {n : NetV} {rows : List Rw} (hn : NetOk w L n) : plain (k + 3) (.tup ((sumsOf n rows).map dM)) := by
  have hw := hn.w1
  have hm3 := hn.la.1
  have hp := prime_pos hn
  refine ⟨by rw [List.length_map]; unfold sumsOf; rw [List.length_map, List.length_range]; omega, fun x hx => ?_⟩
  obtain ⟨m, hm, rfl⟩ := List.mem_map.mp hx
  obtain ⟨i, _, rfl⟩ := List.mem_map.mp hm
  have hmo := sumMat_ok (w := n.shift.length) (prs := beforeF rows i) ⟨hp.1, hp.2.2⟩
  rw [hn.sh.1] at hmo ⊢
  refine ⟨by rw [List.length_map, hmo.1]; omega, fun y hy => ?_⟩
  obtain ⟨v, hv, rfl⟩ := List.mem_map.mp hy
  exact plain_dT (by rw [(hmo.2 v hv).1]; omega)
end K09
set_option Elab.async false
set_option linter.all false
set_option maxRecDepth 100000
set_option maxHeartbeats 1000000
namespace K09
open PySem PySem.Spec PyProof.Rows L2 DL
/-- fresh addresses, one for each of some things -/
def At {α : Type} (S0 S : Sto) (f : α → MO) (as : List Addr) (xs : List α) : Prop := as.length = xs.length ∧ ∀ (i : Nat) a x, as[i]? = some a → xs[i]? = some x → S a = some (f x) ∧ S0 a = none
theorem at_nil {α : Type} {S0 S : Sto} {f : α → MO} : At S0 S f [] [] := ⟨rfl, fun i a x h => by cases h⟩
theorem at_ext {α : Type} {S0 S S' : Sto} {f : α → MO} {as : List Addr} {xs : List α} (h : At S0 S f as xs) (e : Ext S S') : At S0 S' f as xs := ⟨h.1, fun i a x h1 h2 => ⟨e _ _ (h.2 i a x h1 h2).1, (h.2 i a x h1 h2).2⟩⟩
theorem at_snoc {α : Type} {S0 S : Sto} {f : α → MO} {as : List Addr} {xs : List α} {a : Addr} {x : α} (h : At S0 S f as xs) (ha : S a = some (f x)) (h0 : S0 a = none) : At S0 S f (as ++ [a]) (xs ++ [x]) := by
  refine ⟨by rw [List.length_append, List.length_append, h.1]; rfl, fun i b y h1 h2 => ?_⟩
  by_cases z : i < as.length
  · rw [List.getElem?_append_left z] at h1
    rw [List.getElem?_append_left (by rw [← h.1]; exact z)] at h2
    exact h.2 i b y h1 h2
  · rw [List.getElem?_append_right (by omega)] at h1
    rw [List.getElem?_append_right (by rw [← h.1]; omega), ← h.1] at h2
    have hi := lt_of_some h1
    rw [List.length_singleton] at hi
    have e : i - as.length = 0 := by omega
    rw [e] at h1 h2
    obtain rfl := Option.some.inj h1
    obtain rfl := Option.some.inj h2
    exact ⟨ha, h0⟩
def gM (m : Mat) : MO := .lst (m.map dL)
def rM (v : Vec) : MO := .lst (v.map D.int)
theorem matAt_rows {S0 S : Sto} {rs : List Addr} {m : Mat} {a : Addr} (h : At S0 S rM rs m) (ha : S a = some (.lst (rs.map D.ref))) : MatAt S (.ref a) m := by
  refine ⟨_, seqA_at ha, by rw [List.length_map]; exact h.1, fun i x v h1 h2 => ?_⟩
  rw [List.getElem?_map] at h1
  obtain ⟨r, hr, rfl⟩ := Option.map_eq_some_iff.mp h1
  exact seqA_at (h.2 i r v hr h2).1
theorem matAt_grid {S : Sto} {m : Mat} {g : Addr} (h : S g = some (gM m)) : MatAt S (.ref g) m := by
  refine ⟨_, seqA_at h, by rw [List.length_map], fun i x v h1 h2 => ?_⟩
  rw [List.getElem?_map, h2] at h1
  obtain rfl := Option.some.inj h1
  rfl
def LysAt (S0 S : Sto) (ly : List (List Addr)) (ls : List Lay) : Prop := ly.length = ls.length ∧ ∀ (i : Nat) gs l, ly[i]? = some gs → ls[i]? = some l → At S0 S gM gs (lay5 l)
theorem lysAt_ext {S0 S S' : Sto} {ly : List (List Addr)} {ls : List Lay} (h : LysAt S0 S ly ls) (e : Ext S S') : LysAt S0 S' ly ls := ⟨h.1, fun i gs l h1 h2 => at_ext (h.2 i gs l h1 h2) e⟩
theorem lysAt_snoc {S0 S : Sto} {ly : List (List Addr)} {ls : List Lay} {gs : List Addr} {l : Lay} (h : LysAt S0 S ly ls) (h2 : At S0 S gM gs (lay5 l)) : LysAt S0 S (ly ++ [gs]) (ls ++ [l]) := by
  refine ⟨by rw [List.length_append, List.length_append, h.1]; rfl, fun i b y h1 h3 => ?_⟩
  by_cases z : i < ly.length
  · rw [List.getElem?_append_left z] at h1
    rw [List.getElem?_append_left (by rw [← h.1]; exact z)] at h3
    exact h.2 i b y h1 h3
  · rw [List.getElem?_append_right (by omega)] at h1
    rw [List.getElem?_append_right (by rw [← h.1]; omega), ← h.1] at h3
    have hi := lt_of_some h1
    rw [List.length_singleton] at hi
    have e : i - ly.length = 0 := by omega
    rw [e] at h1 h3
    obtain rfl := Option.some.inj h1
    obtain rfl := Option.some.inj h3
    exact h2
theorem laysAt_of {S0 S : Sto} {ly : List (List Addr)} {ls : List Lay} {a : Addr} (h : LysAt S0 S ly ls) (ha : S a = some (.lst (ly.map fun gs => D.tup (gs.map D.ref)))) : LaysAt S (.ref a) ls := by
  refine ⟨_, seqA_at ha, by rw [List.length_map]; exact h.1, fun i x l h1 h2 => ?_⟩
  rw [List.getElem?_map] at h1
  obtain ⟨gs, hg, rfl⟩ := Option.map_eq_some_iff.mp h1
  have hh := h.2 i gs l hg h2
  refine ⟨_, rfl, by rw [List.length_map]; exact hh.1, fun j g m h3 h4 => ?_⟩
  rw [List.getElem?_map] at h3
  obtain ⟨b, hb, rfl⟩ := Option.map_eq_some_iff.mp h3
  exact matAt_grid (hh.2 j b m hb h4).1
theorem len__law_copy (c : Cl) : ∀ ds S Q E, sp__law_copy c ds S Q E → ds.length = 1 := by
  rintro ds S Q E ⟨_, _, _, _, rfl, _⟩; rfl
theorem oListM_L {S : Sto} {v : Vec} (Q : Qd) : oListM S [dL v] Q = ∀ p, S p = none → Q (.ref p) (put S p (rM v)) := rfl
theorem rd__law_copy (c : Cl) : ∀ ds S Q X1, sp__law_copy c ds S Q X1 → w__law_copy c (startD N__law_copy_ ds) S (endQ Q X1) := by
  rintro ds S Q X1 ⟨n, e, w, L, rfl, hn, h⟩
  have hw := hn.w1
  have hL := hn.l1
  have hm3 := hn.la.1
  show w__law_copy c [some (dPlan n e), none, none, none, none, none] S (endQ Q X1)
  unfold w__law_copy
  obtain ⟨i0, i1, i2, i3, i4, i5⟩ := plan_ix (n := n) (e := e) (S := S)
  refine seq_k fun q1 n1 r1 _ _ x1 => ?_
  simp only [wSet, wLcM, wIt, wBin, wVar, wC, getV, setV, some!, i3, seqA, seqL, seqM, delVs, delV, List.length_map]
  refine ⟨by unfold sizeLine; omega, compI_inv (fun i acc S' => Ext S S' ∧ ∃ ly, LysAt S S' ly (n.layers.take i) ∧ acc = ly.map fun gs => D.tup (gs.map D.ref)) ⟨ext_refl S, [], ⟨rfl, fun i gs l h => (by cases h)⟩, rfl⟩ (fun i acc S' h => trivial) ?_ ?_⟩
  · rintro i d acc S' hi ⟨E, ly, hly, rfl⟩
    rw [List.getElem?_map] at hi
    obtain ⟨l, hl, rfl⟩ := Option.map_eq_some_iff.mp hi
    obtain ⟨k1, k2, k3, k4, k5⟩ := hn.la.2 l (List.mem_of_getElem? hl)
    have hms : ∀ m, m ∈ lay5 l → m.length = w := fun m hm => by
      simp only [lay5, List.mem_cons, List.not_mem_nil, or_false] at hm
      rcases hm with rfl | rfl | rfl | rfl | rfl
      · exact k1.1
      · exact k2.1
      · exact k3.1
      · exact k4.1
      · exact k5.1
    simp only [gN, setV, wYes, if_true, wCB, wCons, wNil, wLc, wIt, wVar, getV, some!, dLayL, seqA, delVs, delV]
    refine ⟨by show 5 ≤ sizeLine; decide, compI_inv (fun j acc2 S2 => Ext S' S2 ∧ ∃ gs, At S S2 gM gs ((lay5 l).take j) ∧ acc2 = gs.map D.ref) ⟨ext_refl S', [], at_nil, rfl⟩ (fun i acc S' h => trivial) ?_ ?_⟩
    · rintro j d acc2 S2 hj ⟨E2, gs, hgs, rfl⟩
      rw [List.getElem?_map] at hj
      obtain ⟨m, hm, rfl⟩ := Option.map_eq_some_iff.mp hj
      have hml := hms m (List.mem_of_getElem? hm)
      have sM : seqA S2 (dML m) = some (m.map dL) := rfl
      simp only [gN, setV, wYes, if_true, wLcM, wIt, wVar, getV, some!, sM, delVs, delV]
      refine ⟨by rw [List.length_map, hml]; unfold sizeLine; omega, compI_vals m dL dL sM (fun v hv R hR => ?_) fun p hp => ⟨ext_put E2 hp, gs ++ [p], ?_, by rw [List.map_append]; rfl⟩⟩
      · simp only [gN, setV, wCB, wCons, wNil, wVar, getV, some!, oList, one, dL, seqA, seqL, seqM]
        exact hR
      · rw [List.take_add_one, hm]
        exact at_snoc (at_ext hgs (ext_put (ext_refl S2) hp)) put_same (ext_none (ext_trans E E2) hp)
    · rintro acc2 S2 ⟨E2, gs, hgs, rfl⟩
      simp only [oTuple, one, seqA, seqL, seqM, some!]
      refine ⟨ext_trans E E2, ly ++ [gs], ?_, by rw [List.map_append]; rfl⟩
      rw [List.take_add_one, hl]
      rw [List.length_map, List.take_length] at hgs
      exact lysAt_snoc (lysAt_ext hly E2) hgs
  rintro acc S1 ⟨E1, ly, hly, rfl⟩
  rw [List.length_map, List.take_length] at hly
  intro el hel
  have hel0 := ext_none E1 hel
  have hly := lysAt_ext hly (ext_put (m := .lst (ly.map fun gs => D.tup (gs.map D.ref))) (ext_refl S1) hel)
  have E1 := ext_put (m := .lst (ly.map fun gs => D.tup (gs.map D.ref))) E1 hel
  have hat1 : put S1 el (.lst (ly.map fun gs => D.tup (gs.map D.ref))) el = some (.lst (ly.map fun gs => D.tup (gs.map D.ref))) := put_same
  generalize put S1 el (.lst (ly.map fun gs => D.tup (gs.map D.ref))) = S1' at hly E1 hat1 ⊢
  refine n1 _ _ ?_
  obtain ⟨i0, i1, i2, i3, i4, i5⟩ := plan_ix (n := n) (e := e) (S := S1')
  have rows : ∀ (m : Mat) (x1 : Option D) (S2 : Sto) (g : Sto → Prop) (K : List D → Sto → Prop), Ext S S2 → m.length ≤ 12 → (∀ S', g S') → (∀ rs S3, At S S3 rM rs m → Ext S2 S3 → K (rs.map D.ref) S3) →
      (m.length ≤ sizeLine ∧ compI (gN 5) wYes (wCB oListM (wCons (wVar 5) wNil)) g [some (dPlan n e), x1, none, none, none, none] (m.map dL) S2 K) := by
    intro m x1 S2 g K ES hml hg hR
    refine ⟨by unfold sizeLine; omega, compI_inv (fun j acc2 S3 => Ext S2 S3 ∧ ∃ rs, At S S3 rM rs (m.take j) ∧ acc2 = rs.map D.ref) ⟨ext_refl S2, [], at_nil, rfl⟩ (fun i acc S' h => hg S') ?_ ?_⟩
    · rintro j d acc2 S3 hj ⟨E2, rs, hrs, rfl⟩
      rw [List.getElem?_map] at hj
      obtain ⟨v, hv, rfl⟩ := Option.map_eq_some_iff.mp hj
      simp only [gN, setV, wYes, if_true, wCB, wCons, wNil, wVar, getV, some!, oListM_L]
      intro p hp
      refine ⟨ext_put E2 hp, rs ++ [p], ?_, by rw [List.map_append]; rfl⟩
      rw [List.take_add_one, hv]
      exact at_snoc (at_ext hrs (ext_put (ext_refl S3) hp)) put_same (ext_none (ext_trans ES E2) hp)
    · rintro acc S3 ⟨E2, rs, hrs, rfl⟩
      rw [List.length_map, List.take_length] at hrs
      exact hR rs S3 hrs E2
  have sE : ∀ S m, seqA S (dML m) = some (m.map dL) := fun _ _ => rfl
  simp only [wRet, wLst, wCons, wNil, wCB, wLcM, wIt, wBin, wVar, wC, getV, some!, i0, i1, sE, delVs, delV, List.length_map]
  refine rows n.embed _ S1' _ _ E1 (by rw [hn.em.1]; omega) (fun _ => trivial) fun rs S2 hrs E2 => ?_
  intro ea hean
  have hea0 := ext_none (ext_trans E1 E2) hean
  have hrs := at_ext hrs (ext_put (m := .lst (rs.map D.ref)) (ext_refl S2) hean)
  have E2 := ext_put (m := .lst (rs.map D.ref)) E2 hean
  have hea : put S2 ea (.lst (rs.map D.ref)) ea = some (.lst (rs.map D.ref)) := put_same
  generalize put S2 ea (.lst (rs.map D.ref)) = S2 at hrs E2 hea ⊢
  obtain ⟨i0, i1, i2, i3, i4, i5⟩ := plan_ix (n := n) (e := e) (S := S2)
  simp only [i2, oListM_L]
  intro es hes
  have E3 := ext_put (m := rM n.shift) E2 hes
  have hes' : put S2 es (rM n.shift) es = some (rM n.shift) := put_same
  have hes0 := ext_none (ext_trans E1 E2) hes
  have X3 := ext_put (m := rM n.shift) (ext_refl S2) hes
  generalize put S2 es (rM n.shift) = S3 at E3 hes' X3 ⊢
  obtain ⟨i0, i1, i2, i3, i4, i5⟩ := plan_ix (n := n) (e := e) (S := S3)
  simp only [i4, sE, List.length_map]
  refine rows n.out _ S3 _ _ (ext_trans E1 E3) (by rw [hn.ou.1]; omega) (fun _ => trivial) fun os S4 hos E4 => ?_
  intro eo heon
  have heo0 := ext_none (ext_trans E1 (ext_trans E3 E4)) heon
  have hos := at_ext hos (ext_put (m := .lst (os.map D.ref)) (ext_refl S4) heon)
  have E4 := ext_put (m := .lst (os.map D.ref)) E4 heon
  have heo : put S4 eo (.lst (os.map D.ref)) eo = some (.lst (os.map D.ref)) := put_same
  generalize put S4 eo (.lst (os.map D.ref)) = S4 at hos E4 heo ⊢
  obtain ⟨i0, i1, i2, i3, i4, i5⟩ := plan_ix (n := n) (e := e) (S := S4)
  simp only [i5]
  refine ⟨by show 6 ≤ sizeLine; decide, ?_⟩
  have X4 := ext_trans X3 E4
  have Y4 := ext_trans E3 E4
  have hrs4 := at_ext hrs X4
  have hly4 := lysAt_ext hly Y4
  have row : ∀ {as : List Addr} {m : Mat}, At S S4 rM as m → MatOk w m → ∀ r, r ∈ as → (∃ x, S4 r = some x ∧ isRow x) ∧ S r = none := fun {as m} ha hm r hr => by
    obtain ⟨i, hi⟩ := List.getElem?_of_mem hr
    have hl := lt_of_some hi
    obtain ⟨v, hv⟩ : ∃ x, m[i]? = some x := ⟨_, List.getElem?_eq_getElem (by rw [← ha.1]; exact hl)⟩
    have a := ha.2 i r v hi hv
    have hvl := (hm v (List.mem_of_getElem? hv)).1
    refine ⟨⟨_, a.1, ?_⟩, a.2⟩
    cases v with
    | nil => rw [List.length_nil] at hvl; omega
    | cons y t => exact ⟨y, t.map D.int, rfl⟩
  have grid : ∀ gs, gs ∈ ly → gs.length = 5 ∧ ∀ g, g ∈ gs → (∃ m, S4 g = some m ∧ isGrid m) ∧ S g = none := fun gs hgs => by
    obtain ⟨i, hi⟩ := List.getElem?_of_mem hgs
    have hl := lt_of_some hi
    obtain ⟨l, hll⟩ : ∃ x, n.layers[i]? = some x := ⟨_, List.getElem?_eq_getElem (by rw [← hly4.1]; exact hl)⟩
    have a := hly4.2 i gs l hi hll
    refine ⟨a.1, fun g hg => ?_⟩
    obtain ⟨j, hj⟩ := List.getElem?_of_mem hg
    have hjl := lt_of_some hj
    obtain ⟨m, hm⟩ : ∃ x, (lay5 l)[j]? = some x := ⟨_, List.getElem?_eq_getElem (by rw [← a.1]; exact hjl)⟩
    have b := a.2 j g m hj hm
    have hmm := List.mem_of_getElem? hm
    obtain ⟨k1, k2, k3, k4, k5⟩ := hn.la.2 l (List.mem_of_getElem? hll)
    have hml : m.length = w ∧ MatOk w m := by
      simp only [lay5, List.mem_cons, List.not_mem_nil, or_false] at hmm
      rcases hmm with rfl | rfl | rfl | rfl | rfl
      · exact k1
      · exact k2
      · exact k3
      · exact k4
      · exact k5
    refine ⟨⟨_, b.1, ?_⟩, b.2⟩
    cases m with
    | nil => have := hml.1; rw [List.length_nil] at this; omega
    | cons y t => exact ⟨y, t.map dL, by rw [(hml.2 y List.mem_cons_self).1]; omega, rfl⟩
  have ne_of : ∀ {as : List Addr} {m : Mat}, At S S4 rM as m → m.length = L → as ≠ [] := fun ha hm z => by
    have := ha.1
    rw [z, hm] at this
    have : (0 : Nat) = L := this
    omega
  have er := row hrs4 hn.em.2
  have or' := row hos hn.ou.2
  refine h ea es el eo rs os ly S4 (ext_trans E1 Y4) ⟨⟨X4 _ _ hea, ne_of hrs4 hn.em.1⟩, ⟨heo, ne_of hos hn.ou.1⟩, Y4 _ _ hat1, ⟨_, E4 _ _ hes', ?_⟩, ?_, fun gs hg => ⟨(grid gs hg).1, fun g hgg => ((grid gs hg).2 g hgg).1⟩, ?_, by rw [hly4.1]; exact hm3⟩ (matAt_rows hrs4 (X4 _ _ hea)) (seqA_at (E4 _ _ hes')) (laysAt_of hly4 (Y4 _ _ hat1)) (matAt_rows hos heo)
  · have := hn.sh.1
    generalize n.shift = v at this
    cases v with
    | nil => rw [List.length_nil] at this; omega
    | cons y t => exact ⟨y, t.map D.int, rfl⟩
  · intro r hr
    rcases List.mem_append.mp hr with z | z
    · exact (er r z).1
    · exact (or' r z).1
  · intro a ha
    simp only [List.mem_cons, List.mem_append] at ha
    rcases ha with rfl | rfl | rfl | rfl | (z | z) | z
    · exact hea0
    · exact hes0
    · exact hel0
    · exact heo0
    · exact (er a z).2
    · exact (or' a z).2
    · obtain ⟨gs, hgs, hg⟩ := List.mem_flatten.mp z
      exact ((grid gs hgs).2 a hg).2
end K09
set_option Elab.async false
set_option linter.all false
set_option maxRecDepth 100000
set_option maxHeartbeats 1000000
namespace K09
open PySem PySem.Spec PyProof.Rows L2 DL
theorem frz_at {S : Sto} {x C : Addr} {N : List Str} {ys : List D} {xs : DE} {Q : Qd} (h : S x = some (.ins C N xs)) (e : allV xs = some ys) (q : Q (.obj C N ys) (del S x)) : frzD S (.ref x) Q := by
  show (match S x with | some (.lst xs) => _ | some (.ins C N xs) => _ | _ => False)
  rw [h]
  show some! (allV xs) _
  rw [e]
  exact q
theorem ext_made {S S' : Sto} {x : Addr} {m1 m2 : MO} (E : Ext S S') (h : S' x = none) : Ext S (del (put (put S' x m1) x m2) x) := by
  rw [put_put]
  exact ext_del (ext_put E h) (ext_none E h)
theorem matAt_ext {S S' : Sto} {d : D} {m : Mat} (E : Ext S S') (h : MatAt S d m) : MatAt S' d m := by
  obtain ⟨ds, h1, h2, h3⟩ := h
  exact ⟨ds, seqA_ext E h1, h2, fun i x v e1 e2 => seqA_ext E (h3 i x v e1 e2)⟩
theorem laysAt_ext {S S' : Sto} {d : D} {ls : List Lay} (E : Ext S S') (h : LaysAt S d ls) : LaysAt S' d ls := by
  obtain ⟨ds, h1, h2, h3⟩ := h
  refine ⟨ds, seqA_ext E h1, h2, fun i x l e1 e2 => ?_⟩
  obtain ⟨gs, g1, g2, g3⟩ := h3 i x l e1 e2
  exact ⟨gs, seqA_ext E g1, g2, fun j g m e3 e4 => matAt_ext E (g3 j g m e3 e4)⟩
theorem matAt_data {S : Sto} {m : Mat} : MatAt S (dM m) m := ⟨m.map dT, rfl, by rw [List.length_map], fun i x v h1 h2 => by
  rw [List.getElem?_map, h2] at h1
  obtain rfl := Option.some.inj h1; rfl⟩
theorem laysAt_data {S : Sto} {ls : List Lay} : LaysAt S (.tup (ls.map dLay)) ls := ⟨ls.map dLay, rfl, by rw [List.length_map], fun i x l h1 h2 => by
  rw [List.getElem?_map, h2] at h1
  obtain rfl := Option.some.inj h1
  refine ⟨(lay5 l).map dM, rfl, rfl, fun j g m h3 h4 => ?_⟩
  rw [List.getElem?_map, h4] at h3
  obtain rfl := Option.some.inj h3
  exact matAt_data⟩
theorem all_net {n : NetV} {e : Option Int} : allV ((netF n e).map some) = some (netF n e) := by
  unfold netF
  rfl
/-- a change of a row, of a grid -/
theorem row_ne {S : Sto} {a b : Addr} {m m0 : MO} (ha : S a = some m) (hb : S b = some m0) (h : m ≠ m0) : b ≠ a := fun z => by rw [z, ha] at hb; exact h (Option.some.inj hb)
theorem refs_not_row {rs : List Addr} (h : rs ≠ []) {m : MO} (hm : isRow m) : m ≠ .lst (rs.map D.ref) := by
  obtain ⟨x, r, rfl⟩ := hm
  cases rs with
  | nil => exact absurd rfl h
  | cons a t => intro z; cases z
theorem refs_not_grid {rs : List Addr} (h : rs ≠ []) {m : MO} (hm : isGrid m) : m ≠ .lst (rs.map D.ref) := by
  obtain ⟨x, r, _, rfl⟩ := hm
  cases rs with
  | nil => exact absurd rfl h
  | cons a t => intro z; cases z
theorem tups_not_row {ly : List (List Addr)} {m : MO} (hm : isRow m) : m ≠ .lst (ly.map fun gs => D.tup (gs.map D.ref)) := by
  obtain ⟨x, r, rfl⟩ := hm
  cases ly with
  | nil => intro z; cases z
  | cons a t => intro z; cases z
theorem tups_not_grid {ly : List (List Addr)} {m : MO} (hm : isGrid m) : m ≠ .lst (ly.map fun gs => D.tup (gs.map D.ref)) := by
  obtain ⟨x, r, _, rfl⟩ := hm
  cases ly with
  | nil => intro z; cases z
  | cons a t => intro z; cases z
theorem row_not_grid {m m' : MO} (h : isRow m) (h' : isGrid m') : m ≠ m' := by
  obtain ⟨x, r, rfl⟩ := h
  obtain ⟨y, t, _, rfl⟩ := h'
  intro z; cases z
theorem one_row {S0 S : Sto} {ea es el eo : Addr} {rs os : List Addr} {ly : List (List Addr)} {n : NetV} {a : Addr} {m m0 : MO} (h : OneAt S0 S ea es el eo rs os ly n) (ha : S a = some m0) (h0 : isRow m0) (hm : isRow m) : OneAt S0 (put S a m) ea es el eo rs os ly n := by
  refine ⟨⟨(put_ne (row_ne ha h.e1.1 (refs_not_row h.e1.2 h0))).trans h.e1.1, h.e1.2⟩, ⟨(put_ne (row_ne ha h.e2.1 (refs_not_row h.e2.2 h0))).trans h.e2.1, h.e2.2⟩, (put_ne (row_ne ha h.e3 (tups_not_row h0))).trans h.e3, ?_, fun r hr => ?_, fun gs hg => ⟨(h.r2 gs hg).1, fun g hgg => ?_⟩, h.fr, h.l3⟩
  · by_cases z : es = a
    · subst z; exact ⟨m, put_same, hm⟩
    · rw [put_ne z]; exact h.e4
  · by_cases z : r = a
    · subst z; exact ⟨m, put_same, hm⟩
    · rw [put_ne z]; exact h.r1 r hr
  · obtain ⟨m1, hm1, hg1⟩ := (h.r2 gs hg).2 g hgg
    exact ⟨m1, (put_ne (row_ne ha hm1 (row_not_grid h0 hg1))).trans hm1, hg1⟩
theorem one_grid {S0 S : Sto} {ea es el eo : Addr} {rs os : List Addr} {ly : List (List Addr)} {n : NetV} {a : Addr} {m m0 : MO} (h : OneAt S0 S ea es el eo rs os ly n) (ha : S a = some m0) (h0 : isGrid m0) (hm : isGrid m) : OneAt S0 (put S a m) ea es el eo rs os ly n := by
  refine ⟨⟨(put_ne (row_ne ha h.e1.1 (refs_not_grid h.e1.2 h0))).trans h.e1.1, h.e1.2⟩, ⟨(put_ne (row_ne ha h.e2.1 (refs_not_grid h.e2.2 h0))).trans h.e2.1, h.e2.2⟩, (put_ne (row_ne ha h.e3 (tups_not_grid h0))).trans h.e3, ?_, fun r hr => ?_, fun gs hg => ⟨(h.r2 gs hg).1, fun g hgg => ?_⟩, h.fr, h.l3⟩
  · obtain ⟨m1, hm1, hr1⟩ := h.e4
    exact ⟨m1, (put_ne (row_ne ha hm1 (fun z => row_not_grid hr1 h0 z.symm))).trans hm1, hr1⟩
  · obtain ⟨m1, hm1, hr1⟩ := h.r1 r hr
    exact ⟨m1, (put_ne (row_ne ha hm1 (fun z => row_not_grid hr1 h0 z.symm))).trans hm1, hr1⟩
  · by_cases z : g = a
    · subst z; exact ⟨m, put_same, hm⟩
    · rw [put_ne z]; exact (h.r2 gs hg).2 g hgg
theorem ixN_0 {α : Type} {a : α} {l : List α} : ixN (a :: l).length 0 = some 0 := by
  unfold ixN
  rw [if_pos (by decide), if_pos (by simp only [List.length_cons]; omega)]; rfl
theorem at0 {α : Type} {a : α} {l : List α} : atI (a :: l) 0 = some a := by
  unfold atI
  rw [ixN_0]; rfl
/-- rows of tuples, read from where they stand -/
theorem comp_mat {m : Mat} {S : Sto} {te : WPe} {env : DE} {ds : List D} {t : WPg} {g : Sto → Prop} {K : List D → Sto → Prop} (hg : g S) (hl : ds.length = m.length) (hx : ∀ (i : Nat) x v, ds[i]? = some x → m[i]? = some v → seqA S x = some (v.map D.int))
    (ht : ∀ x v, seqA S x = some (v.map D.int) → ∀ R : D → Sto → Prop, R (dT v) S → t x env fun e => te e S R X0) (hK : K (m.map dT) S) : compI t wYes te g env ds S K := by
  refine compI_inv (fun i acc S' => S' = S ∧ acc = (m.take i).map dT) ⟨rfl, rfl⟩ (fun i acc S' h => by rw [h.1]; exact hg) ?_ ?_
  · rintro i x acc S' hi ⟨rfl, rfl⟩
    obtain ⟨v, hv⟩ : ∃ v, m[i]? = some v := ⟨_, List.getElem?_eq_getElem (by rw [← hl]; exact lt_of_some hi)⟩
    have := ht x v (hx i x v hi hv) (fun y S2 => S2 = S' ∧ (m.take i).map dT ++ [y] = (m.take (i + 1)).map dT) ⟨rfl, by rw [List.take_add_one, hv, List.map_append]; rfl⟩
    simpa [wYes] using this
  · rintro acc S' ⟨rfl, rfl⟩
    rw [hl, List.take_length]; exact hK
def cpD (n : NetV) (e : Option Int) (ea es el eo : Addr) : D := .lst [.int n.prime, .ref ea, .ref es, .ref el, .ref eo, dO e]
section
variable {n : NetV} {e : Option Int} {ea es el eo : Addr} {S : Sto}
theorem so_cp : seqA S (cpD n e ea es el eo) = some [.int n.prime, .ref ea, .ref es, .ref el, .ref eo, dO e] := rfl
theorem o0 (Q : Qd) : oIx S (cpD n e ea es el eo) (.int 0) Q = Q (.int n.prime) S := oIx_eq so_cp rfl Q
theorem o1 (Q : Qd) : oIx S (cpD n e ea es el eo) (.int 1) Q = Q (.ref ea) S := oIx_eq so_cp rfl Q
theorem o2 (Q : Qd) : oIx S (cpD n e ea es el eo) (.int 2) Q = Q (.ref es) S := oIx_eq so_cp rfl Q
theorem o3 (Q : Qd) : oIx S (cpD n e ea es el eo) (.int 3) Q = Q (.ref el) S := oIx_eq so_cp rfl Q
theorem o4 (Q : Qd) : oIx S (cpD n e ea es el eo) (.int 4) Q = Q (.ref eo) S := oIx_eq so_cp rfl Q
theorem o5 (Q : Qd) : oIx S (cpD n e ea es el eo) (.int 5) Q = Q (dO e) S := oIx_eq so_cp rfl Q
end
def w_mF (c : Cl) : WPs := (wSeq (wSet 3 (wLc (wIt (wBin oIx (wVar 2) (wC (.int 3)))) (gN 9) wYes (wCB oTuple (wCons (wLc (wIt (wVar 9)) (gN 8) wYes (wCB oTuple (wCons (wLc (wIt (wVar 8)) (gN 10) wYes (wCB oTuple (wCons (wVar 10) wNil)) [10]) wNil)) [8]) wNil)) [9]))
  (wSeq (wSet 4 (wCB oTuple (wCons (wLc (wIt (wBin oIx (wVar 2) (wC (.int 1)))) (gN 6) wYes (wCB oTuple (wCons (wVar 6) wNil)) [6]) wNil)))
  (wRet (wFrz (wMake c.Net N_Net (sp_Net_init c) (wCons (wBin oIx (wVar 2) (wC (.int 0))) (wCons (wVar 4) (wCons (wCB oTuple (wCons (wBin oIx (wVar 2) (wC (.int 2))) wNil)) (wCons (wCB oTuple (wCons (wVar 3) wNil)) (wCons (wCB oTuple (wCons (wLc (wIt (wBin oIx (wVar 2) (wC (.int 4)))) (gN 6) wYes (wCB oTuple (wCons (wVar 6) wNil)) [6]) wNil)) (wCons (wBin oIx (wVar 2) (wC (.int 5))) wNil)))))))))))
def w_mE (c : Cl) : WPs := (wSeq (wDrop (wMt oReverse (wBin oIx (wVar 2) (wC (.int 1))) wNil))
  (wSeq (wDrop (wMt oAppend (wBin oIx (wVar 2) (wC (.int 3))) (wCons (wTup wNil) wNil)))
  (wSeq (wDrop (wMt oAppend (wBin oIx (wVar 2) (wC (.int 4))) (wCons (wLst (wCons (wC (.int 0)) wNil)) wNil)))
  (wRet (wVar 5)))))
def w_mD (c : Cl) : WPs := (wSeq (wFor (wRg1 (wCB oLen (wCons (wBin oIx (wVar 2) (wC (.int 3))) wNil))) (gN 7) (wSeq (wSet 8 (wBin oIx (wBin oIx (wBin oIx (wVar 2) (wC (.int 3))) (wVar 7)) (wVar 7)))
  (wSetI (wVar 8) (wC (.int 0)) (wLc (wIt (wBin oIx (wVar 8) (wC (.int 0)))) (gN 11) wYes (wBin oAdd (wVar 11) (wC (.int 1))) [11]))))
  (w_mE c))
def w_mC (c : Cl) : WPs := (wSeq (wSetI (wBin oIx (wVar 2) (wC (.int 2))) (wC (.int 0)) (wBin oAdd (wBin oIx (wBin oIx (wVar 2) (wC (.int 2))) (wC (.int 0))) (wC (.int 1))))
  (w_mD c))
def w_mB (c : Cl) : WPs := (wSeq (wFor (wIt (wBin oAdd (wBin oIx (wVar 2) (wC (.int 1))) (wBin oIx (wVar 2) (wC (.int 4))))) (gN 6) (wSetI (wVar 6) (wC (.int 0)) (wBin oAdd (wBin oIx (wVar 6) (wC (.int 0))) (wC (.int 1)))))
  (w_mC c))
def w_mA (c : Cl) : WPs := (wSeq (wSet 5 (wFrz (wMake c.Net N_Net (sp_Net_init c) (wCons (wBin oIx (wVar 2) (wC (.int 0))) (wCons (wBin oIx (wVar 2) (wC (.int 1))) (wCons (wBin oIx (wVar 2) (wC (.int 2))) (wCons (wBin oIx (wVar 2) (wC (.int 3))) (wCons (wBin oIx (wVar 2) (wC (.int 4))) (wCons (wBin oIx (wVar 2) (wC (.int 5))) wNil)))))))))
  (w_mB c))
section
variable {c : Cl} {n : NetV} {e : Option Int} {ea es el eo : Addr} {S : Sto} {rs os : List Addr} {ly : List (List Addr)} {q : QS}
theorem rd_mE {S5 : Sto} {x6 x7 x8 : Option D} (E5 : Ext S S5) (hO : OneAt S S5 ea es el eo rs os ly n) (hrs : rs.length ≤ 12) (hos : os.length ≤ 12) (h : ∀ S', Ext S S' → q.rt (dNet c n e) S') :
    w_mE c [some (dPlan n e), some (.bl true), some (cpD n e ea es el eo), none, none, some (dNet c n e), x6, x7, x8, none, none, none] S5 q := by
  unfold w_mE
  refine seq_k fun q7 n7 r7 _ _ x7' => ?_
  have ha := hO.e1.1
  simp only [wDrop, wMt, wCons, wNil, wBin, wC, wVar, getV, some!, o1, mutL, ha, oReverse]
  refine ⟨trivial, n7 _ _ ?_⟩
  have hea0 := hO.fr ea (by simp)
  have heo0 := hO.fr eo (by simp)
  have hel0 := hO.fr el (by simp)
  have E6 := ext_chg (m := .lst (rs.map D.ref).reverse) E5 hea0
  have nle : el ≠ ea := fun z => by
    have h3 := hO.e3
    rw [z, ha] at h3
    have h3 := MO.lst.inj (Option.some.inj h3)
    have hne := hO.e1.2
    cases rs with
    | nil => exact hne rfl
    | cons r t => cases ly with
      | nil => cases h3
      | cons g t2 => cases h3
  have nleo : eo ≠ el := fun z => by
    have h3 := hO.e3
    rw [← z, hO.e2.1] at h3
    have h3 := MO.lst.inj (Option.some.inj h3)
    have hne := hO.e2.2
    cases os with
    | nil => exact hne rfl
    | cons r t => cases ly with
      | nil => cases h3
      | cons g t2 => cases h3
  have hl6 : put S5 ea (.lst (rs.map D.ref).reverse) el = _ := (put_ne nle).trans hO.e3
  have ho6 : ∃ xs, put S5 ea (.lst (rs.map D.ref).reverse) eo = some (.lst xs) ∧ xs.length ≤ 12 := by
    by_cases z : eo = ea
    · rw [z]; exact ⟨_, put_same, by rw [List.length_reverse, List.length_map]; exact hrs⟩
    · exact ⟨_, (put_ne z).trans hO.e2.1, by rw [List.length_map]; exact hos⟩
  have l3 := hO.l3
  generalize put S5 ea (.lst (rs.map D.ref).reverse) = S6 at E6 hl6 ho6
  obtain ⟨xs, ho6, hxs⟩ := ho6
  refine seq_k fun q8 n8 r8 _ _ x8' => ?_
  simp only [wDrop, wMt, wTup, wCons, wNil, wBin, wC, wVar, getV, some!, o3, mutL, hl6, oAppend, List.length_map]
  refine ⟨by show 0 ≤ sizeLine; decide, by unfold sizeLine; omega, n8 _ _ ?_⟩
  have E7 := ext_chg (m := .lst ((ly.map fun gs => D.tup (gs.map D.ref)) ++ [.tup []])) E6 hel0
  have ho7 : put S6 el (.lst ((ly.map fun gs => D.tup (gs.map D.ref)) ++ [.tup []])) eo = _ := (put_ne nleo).trans ho6
  generalize put S6 el (.lst ((ly.map fun gs => D.tup (gs.map D.ref)) ++ [.tup []])) = S7 at E7 ho7
  refine seq_k fun q9 n9 r9 _ _ x9' => ?_
  simp only [wDrop, wMt, wLst, wCons, wNil, wBin, wC, wVar, getV, some!, o4, mutL, ho7, oAppend]
  refine ⟨by show 1 ≤ sizeLine; decide, by unfold sizeLine; omega, n9 _ _ ?_⟩
  simp only [wRet, wVar, getV, some!]
  exact h _ (ext_chg E7 heo0)
theorem rd_mD {S4 : Sto} {x6 x7 x8 : Option D} (E4 : Ext S S4) (hO4 : OneAt S S4 ea es el eo rs os ly n) (hrs : rs.length ≤ 12) (hos : os.length ≤ 12) (h : ∀ S', Ext S S' → q.rt (dNet c n e) S') :
    w_mD c [some (dPlan n e), some (.bl true), some (cpD n e ea es el eo), none, none, some (dNet c n e), x6, x7, x8, none, none, none] S4 q := by
  unfold w_mD
  refine seq_k fun q6 n6 r6 _ _ x6' => ?_
  have ol : ∀ Q, oLen S4 [.ref el] Q = Q (.int (ly.length : Nat)) S4 := fun Q => by rw [oLen_at (seqA_at hO4.e3), List.length_map]
  simp only [wFor, wRg1, wCB, wCons, wNil, wBin, wC, wVar, getV, some!, o3, ol, asI]
  refine ⟨by have := hO4.l3; omega, ?_⟩
  rw [Int.toNat_natCast]
  refine forI_invq (fun k en S' => Ext S S' ∧ OneAt S S' ea es el eo rs os ly n ∧ ∃ x6 x7 x8, en = [some (dPlan n e), some (.bl true), some (cpD n e ea es el eo), none, none, some (dNet c n e), x6, x7, x8, none, none, none]) ⟨E4, hO4, _, _, _, rfl⟩ (fun _ _ _ _ => trivial) ?_ ?_
  · rintro k d en S' hi ⟨E, hO, x6, x7, x8, rfl⟩ qq hq _ _ _ _
    obtain ⟨hk, rfl⟩ := rngD_get hi
    rw [Int.zero_add]
    have l3 := hO.l3
    obtain ⟨gs, hgs⟩ : ∃ gs, ly[k]? = some gs := ⟨_, List.getElem?_eq_getElem hk⟩
    have hgm := List.mem_of_getElem? hgs
    obtain ⟨h5, hgr⟩ := hO.r2 gs hgm
    obtain ⟨g, hg⟩ : ∃ g, gs[k]? = some g := ⟨_, List.getElem?_eq_getElem (by omega)⟩
    have hgg := List.mem_of_getElem? hg
    obtain ⟨m, hm, hgrid⟩ := hgr g hgg
    obtain ⟨v, t, hvl, rfl⟩ := id hgrid
    have h0 := hO.fr g (by
      simp only [List.mem_cons, List.mem_append]
      exact .inr (.inr (.inr (.inr (.inr (List.mem_flatten.mpr ⟨gs, hgm, hgg⟩))))))
    have ix1 := fun Q => oIx_eq (S := S') (x := .ref el) (i := (k : Int)) (d := .tup (gs.map D.ref)) (seqA_at hO.e3) (at_k (by rw [List.getElem?_map, hgs]; rfl)) Q
    have ix2 := fun Q => oIx_eq (S := S') (x := .tup (gs.map D.ref)) (i := (k : Int)) (d := .ref g) rfl (at_k (by rw [List.getElem?_map, hg]; rfl)) Q
    have ix3 := fun Q => oIx_eq (S := S') (x := .ref g) (i := 0) (seqA_at hm) at0 Q
    simp only [gN, setV]
    refine seq_k fun q7 n7 r7 _ _ x7' => ?_
    simp only [wSet, wBin, wC, wVar, getV, setV, some!, o3, ix1, ix2]
    refine n7 _ _ ?_
    have sv : seqA S' (dL v) = some (v.map D.int) := rfl
    simp only [wSetI, wLc, wIt, wBin, wC, wVar, getV, some!, ix3, sv, delVs, delV]
    refine ⟨by rw [List.length_map]; unfold sizeLine; omega, compI_vals v D.int (fun x => .int (x + 1)) sv (fun x hx R hR => ?_) ?_⟩
    · simp only [gN, setV, wBin, wVar, wC, getV, some!, oAdd]
      exact hR
    · have ev : v.map (fun x => D.int (x + 1)) = (v.map (· + 1)).map D.int := by rw [List.map_map]; rfl
      rw [ev]
      exact setIx_at hm ixN_0 (hq _ _ ⟨ext_chg E h0, one_grid hO hm hgrid ⟨v.map (· + 1), t, by rw [List.length_map]; exact hvl, rfl⟩, _, _, _, rfl⟩)
  rintro en S5 ⟨E5, hO, x6, x7, x8, rfl⟩
  exact n6 _ _ (rd_mE E5 hO hrs hos h)
theorem rd_mC {S3 : Sto} {x6 x7 x8 : Option D} (E3 : Ext S S3) (hO : OneAt S S3 ea es el eo rs os ly n) (hrs : rs.length ≤ 12) (hos : os.length ≤ 12) (h : ∀ S', Ext S S' → q.rt (dNet c n e) S') :
    w_mC c [some (dPlan n e), some (.bl true), some (cpD n e ea es el eo), none, none, some (dNet c n e), x6, x7, x8, none, none, none] S3 q := by
  unfold w_mC
  refine seq_k fun q5 n5 r5 _ _ x5 => ?_
  obtain ⟨m, hm, hrow⟩ := hO.e4
  obtain ⟨v, t, rfl⟩ := id hrow
  have h0 := hO.fr es (by simp)
  have ix := fun Q => oIx_eq (S := S3) (x := .ref es) (i := 0) (seqA_at hm) at0 Q
  simp only [wSetI, wBin, wC, wVar, getV, some!, o2, ix, oAdd]
  refine setIx_at hm ixN_0 (n5 _ _ ?_)
  have hO4 := one_row hO hm hrow (m := .lst ((D.int v :: t).set 0 (.int (v + 1)))) ⟨v + 1, t, rfl⟩
  have E4 := ext_chg (m := .lst ((D.int v :: t).set 0 (.int (v + 1)))) E3 h0
  exact rd_mD E4 hO4 hrs hos h
theorem rd_mB {S2 : Sto} (E2 : Ext S S2) (hO : OneAt S S2 ea es el eo rs os ly n) (hrs : rs.length ≤ 12) (hos : os.length ≤ 12) (h : ∀ S', Ext S S' → q.rt (dNet c n e) S') :
    w_mB c [some (dPlan n e), some (.bl true), some (cpD n e ea es el eo), none, none, some (dNet c n e), none, none, none, none, none, none] S2 q := by
  unfold w_mB
  refine seq_k fun q4 n4 r4 _ _ x4 => ?_
  have sA := seqA_at hO.e1.1
  have mA : seqM S2 (.ref ea) = some (rs.map D.ref) := sA
  have mO : seqM S2 (.ref eo) = some (os.map D.ref) := seqA_at hO.e2.1
  simp only [wFor, wIt, wBin, wC, wVar, getV, some!, o1, o4, oAdd, oCatL, mA, mO, List.length_map]
  refine ⟨by unfold sizeLine; omega, ?_⟩
  have sl : ∀ (S : Sto) (xs : List D), seqA S (.lst xs) = some xs := fun _ _ => rfl
  simp only [sl]
  have eapp : rs.map D.ref ++ os.map D.ref = (rs ++ os).map D.ref := by rw [List.map_append]
  rw [eapp]
  refine forI_invq (fun k en S' => Ext S S' ∧ OneAt S S' ea es el eo rs os ly n ∧ ∃ x6, en = [some (dPlan n e), some (.bl true), some (cpD n e ea es el eo), none, none, some (dNet c n e), x6, none, none, none, none, none]) ⟨E2, hO, _, rfl⟩ (fun _ _ _ _ => trivial) ?_ ?_
  · rintro k d en S' hi ⟨E, hO, x6, rfl⟩ qq hq _ _ _ _
    rw [List.getElem?_map] at hi
    obtain ⟨r, hr, rfl⟩ := Option.map_eq_some_iff.mp hi
    have hrm := List.mem_of_getElem? hr
    obtain ⟨m, hm, hrow⟩ := hO.r1 r hrm
    obtain ⟨v, t, rfl⟩ := id hrow
    have h0 := hO.fr r (by simp only [List.mem_cons, List.mem_append]; rcases List.mem_append.mp hrm with z | z <;> simp [z])
    have ix := fun Q => oIx_eq (S := S') (x := .ref r) (i := 0) (seqA_at hm) at0 Q
    simp only [gN, setV, wSetI, wBin, wC, wVar, getV, some!, ix, oAdd]
    refine setIx_at hm ixN_0 (hq _ _ ⟨ext_chg E h0, one_row hO hm hrow ⟨v + 1, t, rfl⟩, _, rfl⟩)
  rintro en S3 ⟨E3, hO, x6, rfl⟩
  exact n4 _ _ (rd_mC E3 hO hrs hos h)
end
end K09
set_option Elab.async false
set_option linter.all false
set_option maxRecDepth 100000
set_option maxHeartbeats 1000000
namespace K09
open PySem PySem.Spec PyProof.Rows L2 DL
theorem rd_mA {c : Cl} {n : NetV} {e : Option Int} {ea es el eo : Addr} {S S1 : Sto} {rs os : List Addr} {ly : List (List Addr)} {q : QS} {w L : Nat} (hn : NetOk w L n) (E : Ext S S1) (hOne : OneAt S S1 ea es el eo rs os ly n) (hea : MatAt S1 (.ref ea) n.embed) (hes : seqA S1 (.ref es) = some (n.shift.map D.int)) (hel : LaysAt S1 (.ref el) n.layers) (heo : MatAt S1 (.ref eo) n.out) (h : ∀ S', Ext S S' → q.rt (dNet c n e) S') :
    w_mA c [some (dPlan n e), some (.bl true), some (cpD n e ea es el eo), none, none, none, none, none, none, none, none, none] S1 q := by
  have hw := hn.w1
  have hL := hn.l1
  unfold w_mA
  refine seq_k fun q3 n3 r3 _ _ x3 => ?_
  simp only [wSet, wFrz, wMake, wCons, wNil, wBin, wC, wVar, getV, setV, some!, o0, o1, o2, o3, o4, o5]
  intro x hx
  have X := ext_put (m := .ins c.Net N_Net (noneV N_Net)) (ext_refl S1) hx
  refine ⟨x, w, L, n, e, _, _, _, _, rfl, hn, matAt_ext X hea, seqA_ext X hes, laysAt_ext X hel, matAt_ext X heo, put_same, rfl, frz_at put_same all_net (n3 _ _ ?_)⟩
  have hrs : rs.length ≤ 12 := by
    obtain ⟨ds, d1, d2, _⟩ := hea
    rw [seqA_at hOne.e1.1] at d1
    obtain rfl := Option.some.inj d1
    rw [List.length_map, hn.em.1] at d2; omega
  have hos : os.length ≤ 12 := by
    obtain ⟨ds, d1, d2, _⟩ := heo
    rw [seqA_at hOne.e2.1] at d1
    obtain rfl := Option.some.inj d1
    rw [List.length_map, hn.ou.1] at d2; omega
  have E2 := ext_made (m1 := .ins c.Net N_Net (noneV N_Net)) (m2 := .ins c.Net N_Net ((netF n e).map some)) E hx
  have Y := ext_made (m1 := .ins c.Net N_Net (noneV N_Net)) (m2 := .ins c.Net N_Net ((netF n e).map some)) (ext_refl S1) hx
  have hO : OneAt S (del (put (put S1 x (.ins c.Net N_Net (noneV N_Net))) x (.ins c.Net N_Net ((netF n e).map some))) x) ea es el eo rs os ly n := by
    refine ⟨⟨Y _ _ hOne.e1.1, hOne.e1.2⟩, ⟨Y _ _ hOne.e2.1, hOne.e2.2⟩, Y _ _ hOne.e3, ?_, fun r hr => ?_, fun gs hg => ⟨(hOne.r2 gs hg).1, fun g hgg => ?_⟩, hOne.fr, hOne.l3⟩
    · obtain ⟨m, a, b⟩ := hOne.e4; exact ⟨m, Y _ _ a, b⟩
    · obtain ⟨m, a, b⟩ := hOne.r1 r hr; exact ⟨m, Y _ _ a, b⟩
    · obtain ⟨m, a, b⟩ := (hOne.r2 gs hg).2 g hgg; exact ⟨m, Y _ _ a, b⟩
  generalize del (put (put S1 x (.ins c.Net N_Net (noneV N_Net))) x (.ins c.Net N_Net ((netF n e).map some))) x = S2 at E2 hO
  exact rd_mB E2 hO hrs hos h
end K09
set_option Elab.async false
set_option linter.all false
set_option maxRecDepth 100000
set_option maxHeartbeats 1000000
namespace K09
open PySem PySem.Spec PyProof.Rows L2 DL
def w_mF2 (c : Cl) : WPs := (wRet (wFrz (wMake c.Net N_Net (sp_Net_init c) (wCons (wBin oIx (wVar 2) (wC (.int 0))) (wCons (wVar 4) (wCons (wCB oTuple (wCons (wBin oIx (wVar 2) (wC (.int 2))) wNil)) (wCons (wCB oTuple (wCons (wVar 3) wNil)) (wCons (wCB oTuple (wCons (wLc (wIt (wBin oIx (wVar 2) (wC (.int 4)))) (gN 6) wYes (wCB oTuple (wCons (wVar 6) wNil)) [6]) wNil)) (wCons (wBin oIx (wVar 2) (wC (.int 5))) wNil)))))))))
def w_mF1 (c : Cl) : WPs := (wSeq (wSet 4 (wCB oTuple (wCons (wLc (wIt (wBin oIx (wVar 2) (wC (.int 1)))) (gN 6) wYes (wCB oTuple (wCons (wVar 6) wNil)) [6]) wNil)))
  (w_mF2 c))
theorem rd_mF2 {c : Cl} {n : NetV} {e : Option Int} {ea es el eo : Addr} {S S1 : Sto} {q : QS} {w L : Nat} (hn : NetOk w L n) (E : Ext S S1) (hea : MatAt S1 (.ref ea) n.embed) (hes : seqA S1 (.ref es) = some (n.shift.map D.int)) (heo : MatAt S1 (.ref eo) n.out) (h : ∀ S', Ext S S' → q.rt (dNet c n e) S') :
    w_mF2 c [some (dPlan n e), some (.bl false), some (cpD n e ea es el eo), some (.lst (n.layers.map dLay)), some (dM n.embed), none, none, none, none, none, none, none] S1 q := by
  have hw := hn.w1
  have hL := hn.l1
  have hm3 := hn.la.1
  unfold w_mF2
  obtain ⟨ds3, c1, c2, c3⟩ := heo
  have p0 := fun Q => o0 (n := n) (e := e) (ea := ea) (es := es) (el := el) (eo := eo) (S := S1) Q
  have p2 := fun Q => o2 (n := n) (e := e) (ea := ea) (es := es) (el := el) (eo := eo) (S := S1) Q
  have p4 := fun Q => o4 (n := n) (e := e) (ea := ea) (es := es) (el := el) (eo := eo) (S := S1) Q
  have p5 := fun Q => o5 (n := n) (e := e) (ea := ea) (es := es) (el := el) (eo := eo) (S := S1) Q
  have ots := fun Q => oTuple_at hes Q
  have ot : ∀ (xs : List D) Q, oTuple S1 [.lst xs] Q = Q (.tup xs) S1 := fun xs Q => oTuple_at rfl Q
  generalize cpD n e ea es el eo = cop at *
  simp only [wRet, wFrz, wMake, wCons, wNil, wBin, wC, wVar, getV, some!, p0]
  simp only [wCB, wCons, wNil, wBin, wC, wVar, getV, some!, p2, ots]
  simp only [ot]
  simp only [wLc, wIt, wBin, wC, wVar, getV, some!, p4, c1, delVs, delV]
  refine ⟨by rw [c2, hn.ou.1]; unfold sizeLine; omega, comp_mat c1 c2 c3 (fun x v hx R hR => ?_) ?_⟩
  · have ot := fun Q => oTuple_at hx Q
    simp only [gN, setV, wCB, wCons, wNil, wVar, getV, some!, ot]
    exact hR
  simp only [ot, p5]
  intro x hx
  refine ⟨x, w, L, n, e, dM n.embed, dT n.shift, .tup (n.layers.map dLay), dM n.out, rfl, hn, matAt_data, rfl, laysAt_data, matAt_data, put_same, rfl, ?_⟩
  refine frz_at put_same all_net ?_
  exact h _ (ext_made E hx)
theorem rd_mF1 {c : Cl} {n : NetV} {e : Option Int} {ea es el eo : Addr} {S S1 : Sto} {q : QS} {w L : Nat} (hn : NetOk w L n) (E : Ext S S1) (hea : MatAt S1 (.ref ea) n.embed) (hes : seqA S1 (.ref es) = some (n.shift.map D.int)) (heo : MatAt S1 (.ref eo) n.out) (h : ∀ S', Ext S S' → q.rt (dNet c n e) S') :
    w_mF1 c [some (dPlan n e), some (.bl false), some (cpD n e ea es el eo), some (.lst (n.layers.map dLay)), none, none, none, none, none, none, none, none] S1 q := by
  have hL := hn.l1
  obtain ⟨ds2, b1, b2, b3⟩ := id hea
  have p1 := fun Q => o1 (n := n) (e := e) (ea := ea) (es := es) (el := el) (eo := eo) (S := S1) Q
  unfold w_mF1
  refine seq_k fun q4 n4 r4 _ _ x4 => ?_
  simp only [wSet, wCB, wCons, wNil, wLc, wIt, wBin, wC, wVar, getV, some!, p1, b1, delVs, delV]
  refine ⟨by rw [b2, hn.em.1]; unfold sizeLine; omega, comp_mat b1 b2 b3 (fun x v hx R hR => ?_) ?_⟩
  · have ot := fun Q => oTuple_at hx Q
    simp only [gN, setV, wCB, wCons, wNil, wVar, getV, some!, ot]
    exact hR
  have ot : ∀ (xs : List D) Q, oTuple S1 [.lst xs] Q = Q (.tup xs) S1 := fun xs Q => oTuple_at rfl Q
  simp only [ot, setV]
  exact n4 _ _ (rd_mF2 hn E hea hes heo h)
theorem rd_mF {c : Cl} {n : NetV} {e : Option Int} {ea es el eo : Addr} {S S1 : Sto} {q : QS} {w L : Nat} (hn : NetOk w L n) (E : Ext S S1) (hea : MatAt S1 (.ref ea) n.embed) (hes : seqA S1 (.ref es) = some (n.shift.map D.int)) (hel : LaysAt S1 (.ref el) n.layers) (heo : MatAt S1 (.ref eo) n.out) (h : ∀ S', Ext S S' → q.rt (dNet c n e) S') :
    w_mF c [some (dPlan n e), some (.bl false), some (cpD n e ea es el eo), none, none, none, none, none, none, none, none, none] S1 q := by
  have hw := hn.w1
  have hL := hn.l1
  have hm3 := hn.la.1
  show (wSeq _ (w_mF1 c)) _ _ _
  obtain ⟨ds1, a1, a2, a3⟩ := hel
  refine seq_k fun q3 n3 r3 _ _ x3 => ?_
  simp only [wSet, wLc, wIt, wBin, wC, wVar, getV, some!, o3, a1, delVs, delV]
  refine ⟨by rw [a2]; unfold sizeLine; omega, compI_inv (fun i acc S' => S' = S1 ∧ acc = (n.layers.take i).map dLay) ⟨rfl, rfl⟩ (fun i acc S' h => by rw [h.1]; exact a1) ?_ ?_⟩
  · rintro i x acc S' hi ⟨rfl, rfl⟩
    obtain ⟨l, hl⟩ : ∃ l, n.layers[i]? = some l := ⟨_, List.getElem?_eq_getElem (by rw [← a2]; exact lt_of_some hi)⟩
    obtain ⟨gs, g1, g2, g3⟩ := a3 i x l hi hl
    obtain ⟨k1, k2, k3, k4, k5⟩ := hn.la.2 l (List.mem_of_getElem? hl)
    simp only [gN, setV, wYes, if_true, wCB, wCons, wNil, wLc, wIt, wVar, getV, some!, g1, delVs, delV]
    refine ⟨by rw [g2]; decide, compI_inv (fun j acc2 S'' => S'' = S' ∧ acc2 = ((lay5 l).take j).map dM) ⟨rfl, rfl⟩ (fun j acc2 S'' hp => by rw [hp.1]; exact g1) ?_ ?_⟩
    · rintro j g acc2 S'' hj ⟨rfl, rfl⟩
      obtain ⟨m, hm⟩ : ∃ m, (lay5 l)[j]? = some m := ⟨_, List.getElem?_eq_getElem (by have := lt_of_some hj; rw [g2] at this; exact this)⟩
      have hmm := List.mem_of_getElem? hm
      have hml : m.length = w := by
        simp only [lay5, List.mem_cons, List.not_mem_nil, or_false] at hmm
        rcases hmm with rfl | rfl | rfl | rfl | rfl
        · exact k1.1
        · exact k2.1
        · exact k3.1
        · exact k4.1
        · exact k5.1
      obtain ⟨ds, d1, d2, d3⟩ := g3 j g m hj hm
      simp only [gN, setV, wYes, if_true, wCB, wCons, wNil, wLc, wIt, wVar, getV, some!, d1, delVs, delV]
      refine ⟨by rw [d2, hml]; unfold sizeLine; omega, comp_mat d1 d2 d3 (fun x v hx R hR => ?_) ?_⟩
      · have ot := fun Q => oTuple_at hx Q
        simp only [gN, setV, wCB, wCons, wNil, wVar, getV, some!, ot]
        exact hR
      · simp only [oTuple, one, seqA, seqL, seqM, some!]
        refine ⟨trivial, ?_⟩
        rw [List.take_add_one, hm, List.map_append]; rfl
    · rintro acc2 S'' ⟨rfl, rfl⟩
      have et : (lay5 l).take gs.length = lay5 l := by rw [g2]; rfl
      have en : (n.layers.take (i + 1)).map dLay = (n.layers.take i).map dLay ++ [dLay l] := by rw [List.take_add_one, hl, List.map_append]; rfl
      rw [et]
      simp only [oTuple, one, seqA, seqL, seqM, some!]
      refine ⟨trivial, ?_⟩
      rw [en]; rfl
  rintro acc S' ⟨rfl, rfl⟩
  rw [a2, List.take_length]
  simp only [setV]
  exact n3 _ _ (rd_mF1 hn E hea hes heo h)
theorem len__law_made (c : Cl) : ∀ ds S Q E, sp__law_made c ds S Q E → ds.length = 2 := by
  rintro ds S Q E ⟨_, _, _, _, _, rfl, _⟩; rfl
theorem rd__law_made (c : Cl) : ∀ ds S Q X1, sp__law_made c ds S Q X1 → w__law_made c (startD N__law_made_ ds) S (endQ Q X1) := by
  rintro ds S Q X1 ⟨n, e, w, L, b, rfl, hn, h⟩
  show w__law_made c [some (dPlan n e), some (.bl b), none, none, none, none, none, none, none, none, none, none] S (endQ Q X1)
  show (wSeq (wSet 2 (wCall (sp__law_copy c) (wCons (wVar 0) wNil))) (wSeq (wIf (wNot (wTest (wVar 1))) (w_mF c) wNext) (w_mA c))) [some (dPlan n e), some (.bl b), none, none, none, none, none, none, none, none, none, none] S (endQ Q X1)
  refine seq_k fun q1 n1 r1 _ _ x1 => ?_
  simp only [wSet, wCall, wCons, wNil, wVar, getV, setV, some!]
  refine ⟨n, e, w, L, rfl, hn, fun ea es el eo rs os ly S1 E hOne hea hes hel heo => n1 _ _ ?_⟩
  refine seq_k fun q2 n2 r2 _ _ x2 => ?_
  simp only [wIf, wNot, wTest, wVar, getV, some!]
  cases b with
  | false =>
    simp only [Bool.not_false, if_true]
    exact rd_mF hn E hea hes hel heo (by rw [r2]; exact h)
  | true =>
    simp only [Bool.not_true, Bool.false_eq_true, if_false, wNext]
    exact n2 _ _ (rd_mA hn E hOne hea hes hel heo h)
end K09
set_option Elab.async false
set_option linter.all false
set_option maxRecDepth 100000
set_option maxHeartbeats 1000000
namespace K09
open PySem PySem.Spec PyProof.Rows L2 DL
theorem plain_mono : ∀ {n : Nat} {d : D}, plain n d → plain (n + 1) d
  | n, .non, _ => trivial
  | n, .bl _, _ => trivial
  | n, .int _, _ => trivial
  | 0, .str x, h => h
  | n + 1, .str x, h => h
  | 0, .tup _, h => h.elim
  | 0, .lst _, h => h.elim
  | n + 1, .tup xs, h => ⟨h.1, fun x hx => plain_mono (h.2 x hx)⟩
  | n + 1, .lst xs, h => ⟨h.1, fun x hx => plain_mono (h.2 x hx)⟩
  | 0, .fro _, h => h.elim
  | n + 1, .fro _, h => h.elim
  | 0, .ref _, h => h.elim
  | n + 1, .ref _, h => h.elim
  | 0, .obj .., h => h.elim
  | n + 1, .obj .., h => h.elim
  | 0, .exc .., h => h.elim
  | n + 1, .exc .., h => h.elim
theorem ok_letter : PyData.strOk "letter" = true := by decide +kernel
theorem ok_told : PyData.strOk "told" = true := by decide +kernel
theorem ok_number : PyData.strOk "number" = true := by decide +kernel
theorem plain_str {n : Nat} {x : Str} (h : PyData.strOk x = true) : plain n (.str x) := by cases n <;> exact h
theorem plain_two {s : Str} {d : D} (h : PyData.strOk s = true) (h2 : plain 6 d) : plain 7 (.tup [.str s, d]) := ⟨by show 2 ≤ 1000; decide, fun x hx => by
  simp only [List.mem_cons, List.not_mem_nil, or_false] at hx
  rcases hx with rfl | rfl
  · exact plain_str h
  · exact h2⟩
end K09
set_option Elab.async false
set_option linter.all false
set_option maxRecDepth 100000
set_option maxHeartbeats 1000000
namespace K09
open PySem PySem.Spec PyProof.Rows L2 DL
theorem no_bad {L : Nat} {xs : List D} (h : ∀ d, d ∈ xs → isLet L d = true) : firstBad L xs = none := by
  unfold firstBad
  rw [List.find?_eq_none]
  intro d hd
  rw [h d hd]
  decide
theorem bad_at {L k j : Nat} {R : List (List D)} {row : List D} {d : D} (h1 : ∀ x, x ∈ (R.take k).flatten → isLet L x = true) (h2 : R[k]? = some row) (h3 : ∀ x, x ∈ row.take j → isLet L x = true) (h4 : row[j]? = some d) (h5 : isLet L d = false) : firstBad L R.flatten = some d := by
  obtain ⟨hk, ek⟩ := List.getElem?_eq_some_iff.mp h2
  obtain ⟨hj, ej⟩ := List.getElem?_eq_some_iff.mp h4
  have e1 : R = R.take k ++ row :: R.drop (k + 1) := by rw [← ek, List.getElem_cons_drop, List.take_append_drop]
  have e2 : row = row.take j ++ d :: row.drop (j + 1) := by rw [← ej, List.getElem_cons_drop, List.take_append_drop]
  have no : ∀ xs : List D, (∀ x, x ∈ xs → isLet L x = true) → (xs.find? fun d => !isLet L d) = none := fun xs h => no_bad h
  unfold firstBad
  rw [e1, List.flatten_append, List.flatten_cons, List.find?_append, no _ h1, e2, Option.none_or, List.append_assoc, List.find?_append, no _ h3, Option.none_or, List.cons_append, List.find?_cons, h5]
  rfl
theorem all_take {L k : Nat} {R : List (List D)} {row : List D} (h1 : ∀ x, x ∈ (R.take k).flatten → isLet L x = true) (h2 : R[k]? = some row) (h3 : ∀ x, x ∈ row → isLet L x = true) : ∀ x, x ∈ (R.take (k + 1)).flatten → isLet L x = true := fun x hx => by
  rw [List.take_add_one, h2, List.flatten_append] at hx
  rcases List.mem_append.mp hx with z | z
  · exact h1 x z
  · exact h3 x (by simpa using z)
theorem take_one {L j : Nat} {row : List D} {d : D} (h1 : ∀ x, x ∈ row.take j → isLet L x = true) (h2 : row[j]? = some d) (h3 : isLet L d = true) : ∀ x, x ∈ row.take (j + 1) → isLet L x = true := fun x hx => by
  rw [List.take_add_one, h2] at hx
  rcases List.mem_append.mp hx with z | z
  · exact h1 x z
  · have : x = d := by simpa using z
    rw [this]; exact h3
theorem seqA_dS {S : Sto} {i : Bool} {xs : List D} : seqA S (dS i xs) = some xs := by cases i <;> rfl
theorem oTuple_S {S : Sto} {i : Bool} {xs : List D} (Q : Qd) : oTuple S [dS i xs] Q = Q (.tup xs) S := by cases i <;> rfl
theorem sum_nn : ∀ {w : Vec}, (∀ x, x ∈ w → 0 ≤ x) → 0 ≤ w.sum
  | [], _ => Int.le_refl _
  | x :: r, h => by
    have := h x List.mem_cons_self
    have := sum_nn (w := r) fun y hy => h y (List.mem_cons_of_mem _ hy)
    rw [List.sum_cons]; omega
theorem lets_snoc {L : Nat} {t : Vec} {l : Int} (h : LetsOk L t) (hl : 0 ≤ l ∧ l < (L : Int)) : LetsOk L (t ++ [l]) := fun x hx => by
  rcases List.mem_append.mp hx with z | z
  · exact h x z
  · rw [List.mem_singleton] at z; subst z; exact hl
theorem last_some {n : NetV} {ls : Vec} (h : ls ≠ []) : ∃ r, (rowsF n ls).getLast? = some r := by
  cases e : (rowsF n ls).getLast? with
  | some r => exact ⟨r, rfl⟩
  | none =>
    have := List.getLast?_eq_none_iff.mp e
    have l := rowsF_len n ls
    rw [this] at l
    exact absurd (List.eq_nil_of_length_eq_zero l.symm) h
theorem kn_ints {ls : Vec} : ∀ x, x ∈ ls.map D.int → ∀ S, Kn S x := fun x hx S => by
  obtain ⟨i, _, rfl⟩ := List.mem_map.mp hx
  exact kn_int i
theorem cut_last {xs : List D} : DL.cutD xs none (some (-1)) = xs.dropLast := by
  unfold DL.cutD
  have e : HT.sIx xs.length xs.length (some (-1)) = xs.length - 1 := by
    unfold HT.sIx
    simp
    omega
  rw [e, show HT.sIx xs.length 0 none = 0 from rfl, List.drop_zero, Nat.sub_zero, List.dropLast_eq_take]
end K09
set_option Elab.async false
set_option linter.all false
set_option maxRecDepth 100000
set_option maxHeartbeats 1000000
namespace K09
open PySem PySem.Spec PyProof.Rows L2 DL
theorem isLet_ex {L : Nat} {d : D} (h : isLet L d = true) : ∃ v, d = .int v ∧ 0 ≤ v ∧ v < (L : Int) := by
  obtain ⟨v, h1, h2, h3⟩ := inR_ex h
  exact ⟨v, h1, h2, by omega⟩
theorem isS_at {c : Cl} {S : Sto} {a : Addr} {xs : DE} (h : S a = some (.ins c.Sums N_Sums xs)) : isIns c.Sums N_Sums S (.ref a) := by
  show (match S a with | some (MO.ins C' N' _) => _ | _ => False)
  rw [h]; exact ⟨rfl, rfl⟩
theorem sumFld {c : Cl} {S : Sto} {a : Addr} {n : NetV} {e : Option Int} {rows : List Rw} (h : SumsAt c S a n e rows) :
    (∀ k, fldD c.Sums N_Sums 0 S (.ref a) k = k (dNet c n e)) ∧ (∀ k, fldD c.Sums N_Sums 1 S (.ref a) k = k (.int (rows.length : Nat))) ∧ (∀ k, fldD c.Sums N_Sums 2 S (.ref a) k = k (.tup ((sumsOf n rows).map dM))) :=
  ⟨fldD_at h rfl, fldD_at h rfl, fldD_at h rfl⟩
theorem len_Sums_init (c : Cl) : ∀ ds S Q E, sp_Sums_init c ds S Q E → ds.length = 2 := by
  rintro ds S Q E ⟨_, _, _, _, _, rfl, _⟩; rfl
theorem rd_Sums_init (c : Cl) : ∀ ds S Q X1, sp_Sums_init c ds S Q X1 → w_Sums_init c (startD N_Sums_init_ ds) S (endQ Q X1) := by
  rintro ds S Q X1 ⟨a, n, e, w, L, rfl, hn, h0, h⟩
  have hp := prime_pos hn
  have hsl := hn.sh.1
  have hw := hn.w1
  show w_Sums_init c [some (.ref a), some (dNet c n e), none] S (endQ Q X1)
  unfold w_Sums_init
  have fr : ∀ {S' : Sto} {m : MO}, (∀ x m, x ≠ a → S x = some m → S' x = some m) → ∀ x y, x ≠ a → S x = some y → put S' a m x = some y := fun h x y ne z => by rw [put_ne ne]; exact h x y ne z
  refine seq_k fun q2 n2 r2 _ _ x2 => ?_
  simp only [wSetF, wVar, getV, some!, setF_at h0]
  refine n2 _ _ ?_
  have f1 := fr (m := .ins c.Sums N_Sums (setV (noneV N_Sums) 0 (dNet c n e))) fun _ _ _ z => z
  have h1 : put S a (.ins c.Sums N_Sums (setV (noneV N_Sums) 0 (dNet c n e))) a = some _ := put_same
  generalize put S a (.ins c.Sums N_Sums (setV (noneV N_Sums) 0 (dNet c n e))) = S1 at f1 h1 ⊢
  refine seq_k fun q3 n3 r3 _ _ x3 => ?_
  simp only [wSetF, wC, wVar, getV, some!, setF_at h1]
  refine n3 _ _ ?_
  generalize hx2 : setV (setV (noneV N_Sums) 0 (dNet c n e)) 1 (.int 0) = xs2
  have f2 := fr (m := .ins c.Sums N_Sums xs2) f1
  have h2 : put S1 a (.ins c.Sums N_Sums xs2) a = some _ := put_same
  generalize put S1 a (.ins c.Sums N_Sums xs2) = S5 at f2 h2 ⊢
  have g2 : ∀ k, fldD c.Net N_Net 2 S5 (dNet c n e) k = k (dT n.shift) := fun k => by simp only [fldD, dNet, netF, true_and, and_self, List.getElem?_cons_zero, List.getElem?_cons_succ, some!]
  have g3 : ∀ k, fldD c.Net N_Net 3 S5 (dNet c n e) k = k (.tup (n.layers.map dLay)) := fun k => by simp only [fldD, dNet, netF, true_and, and_self, List.getElem?_cons_zero, List.getElem?_cons_succ, some!]
  have ol : ∀ Q, oLen S5 [dT n.shift] Q = Q (.int (n.shift.length : Nat)) S5 := fun Q => by
    rw [oLen_at (S := S5) (d := dT n.shift) rfl, List.length_map]
  simp only [wSetF, wCB, wCons, wNil, wLc, wIt, wFld, wVar, getV, some!, g3, seqA, delVs, delV, List.length_map]
  refine ⟨by have := hn.la.1; unfold sizeLine; omega, compI_vals n.layers dLay (fun _ => dM (sumMat n.prime w [])) trivial (fun ly hly R hR => ?_) ?_⟩
  · simp only [gN, setV, wCall, wCons, wNil, wCB, wFld, wVar, getV, some!, g2, ol]
    exact ⟨w, by rw [hsl], by omega, fun p hp => by rw [show sumMat p w [] = sumMat n.prime w [] from by unfold sumMat; simp]; exact hR⟩
  · simp only [oTuple, one, seqA, seqL, seqM, some!, setF_at h2]
    rw [sums_nil hsl]
    subst hx2
    exact h _ put_same (fr f2)
theorem len_Sums_state (c : Cl) : ∀ ds S Q E, sp_Sums_state c ds S Q E → ds.length = 1 := by
  rintro ds S Q E ⟨_, _, _, _, rfl, _⟩; rfl
theorem rd_Sums_state (c : Cl) : ∀ ds S Q X1, sp_Sums_state c ds S Q X1 → w_Sums_state c (startD N_Sums_state_ ds) S (endQ Q X1) := by
  rintro ds S Q X1 ⟨a, n, e, rows, rfl, hp, hA, h⟩
  show w_Sums_state c [some (.ref a)] S (endQ Q X1)
  obtain ⟨f0, f1, f2⟩ := sumFld hA
  unfold w_Sums_state
  simp only [wRet, wTup, wMeth, wCall, wCons, wNil, wFld, wVar, getV, some!, f0, f1]
  refine ⟨isN, n, e, _, rfl, hp, ?_⟩
  simp only [f2]
  exact ⟨show 2 ≤ sizeLine by decide, h⟩
theorem rowF_rowB (n : NetV) (rows : List Rw) (l : Int) : rowF n rows l = rowB n rows.length rows l := rfl
theorem len_Sums_read (c : Cl) : ∀ ds S Q E, sp_Sums_read c ds S Q E → ds.length = 2 := by
  rintro ds S Q E ⟨_, _, _, _, _, _, _, rfl, _⟩; rfl
theorem rd_Sums_read (c : Cl) : ∀ ds S Q X1, sp_Sums_read c ds S Q X1 → w_Sums_read c (startD N_Sums_read_ ds) S (endQ Q X1) := by
  rintro ds S Q X1 ⟨a, n, e, rows, d, w, L, rfl, hn, hr, h60, hA, hk, hE, h⟩
  have hp := prime_pos hn
  have hw := hn.w1
  have ha := hA
  show w_Sums_read c [some (.ref a), some d, none, none] S (endQ Q X1)
  obtain ⟨f0, f1, f2⟩ := sumFld hA
  unfold w_Sums_read
  refine seq_k fun q1 n1 r1 _ _ x1 => ?_
  simp only [wIf, wNot, wTest, wMeth, wCons, wNil, wFld, wVar, getV, some!, f0]
  refine ⟨isN, n, e, d, rfl, hk, ?_⟩
  rw [hn.em.1]
  cases hi : isLet L d with
  | false =>
    simp only [Bool.not_false, if_true, wRaise, wMkE, wVar, getV, some!]
    show q1.xc c.InvalidLetter [("letter", d)] _ S
    rw [x1]; exact hE hi
  | true =>
    simp only [Bool.not_true, Bool.false_eq_true, if_false, wNext]
    obtain ⟨l, rfl, hl0, hlL⟩ := isLet_ex hi
    have h := h l rfl ⟨hl0, hlL⟩
    rw [rowF_rowB] at h
    generalize hRow : rowB n rows.length rows l = row at *
    refine n1 _ _ ?_
    refine seq_k fun q2 n2 r2 _ _ x2 => ?_
    simp only [wSet, wMake, wCons, wNil, wFld, wVar, getV, setV, some!, f0, f1, f2]
    refine fun R hR => ?_
    refine ⟨R, n, e, rows.length, sumsOf n rows, rfl, put_same, fun P M S1 hP hM hPM r1' p1' m1' fr1 => ⟨rfl, n2 _ _ ?_⟩⟩
    have nRa := ne_fresh ha hR
    have nPR : P ≠ R := fun z => by rw [z, put_same] at hP; cases hP
    have nMR : M ≠ R := fun z => by rw [z, put_same] at hM; cases hM
    have ha0 := (put_ne (S := S) (m := .ins c.LayerReader N_LayerReader (noneV N_LayerReader)) nRa).trans ha
    have nPa := ne_fresh ha0 hP
    have nMa := ne_fresh ha0 hM
    have ha1 := fr1 a _ nRa ha0
    have frS : ∀ x m, x ≠ a → S x = some m → S1 x = some m := fun x m _ z => fr1 x m (ne_fresh z hR) ((put_ne (ne_fresh z hR)).trans z)
    have frP : ∀ x m, S x = some m → x ≠ P ∧ x ≠ M := fun x m z => ⟨ne_fresh ((put_ne (ne_fresh z hR)).trans z) hP, ne_fresh ((put_ne (ne_fresh z hR)).trans z) hM⟩
    refine seq_k fun q3 n3 r3 _ _ x3 => ?_
    simp only [wSet, wMeth, wCons, wNil, wVar, getV, setV, some!]
    refine ⟨isR_at r1', R, n, e, rows.length, rows, P, M, l, w, L, rfl, hn, hr, by omega, ⟨hl0, hlL⟩, r1', p1', m1', hPM, nPR, nMR, fun S2 r2' p2' m2' fr2 => n3 _ _ ?_⟩
    rw [hRow] at p2' m2' ⊢
    have ha2 := fr2 a _ nPa nMa ha1
    have frS2 : ∀ x m, x ≠ a → S x = some m → S2 x = some m := fun x m h1 z => fr2 x m (frP x m z).1 (frP x m z).2 (frS x m h1 z)
    have RF : ∀ {S : Sto}, S R = some (rdF c n e rows.length (sumsOf n rows) P M) → (∀ k, fldD c.LayerReader N_LayerReader 4 S (.ref R) k = k (.ref M)) := fun h => fldD_at h rfl
    have g4 := RF r2'
    have om := fun Q => oTuple_at (seqA_at m2') Q
    refine seq_k fun q6 n6 r6 _ _ x6 => ?_
    simp only [wSetF, wCons, wNil, wCB, wFld, wVar, getV, some!, g4, om, setF_at ha2]
    refine n6 _ _ ?_
    have ha5 : put S2 a (.ins c.Sums N_Sums (setV [some (dNet c n e), some (.int (rows.length : Nat)), some (.tup ((sumsOf n rows).map dM))] 2 (.tup ((sumsOf n (rows ++ [row])).map dM)))) a = some (.ins c.Sums N_Sums [some (dNet c n e), some (.int (rows.length : Nat)), some (.tup ((sumsOf n (rows ++ [row])).map dM))]) := put_same
    have frS5 : ∀ x m, x ≠ a → S x = some m → put S2 a (.ins c.Sums N_Sums (setV [some (dNet c n e), some (.int (rows.length : Nat)), some (.tup ((sumsOf n rows).map dM))] 2 (.tup ((sumsOf n (rows ++ [row])).map dM)))) x = some m := fun x m h1 z => (put_ne h1).trans (frS2 x m h1 z)
    generalize put S2 a (.ins c.Sums N_Sums (setV [some (dNet c n e), some (.int (rows.length : Nat)), some (.tup ((sumsOf n rows).map dM))] 2 (.tup ((sumsOf n (rows ++ [row])).map dM)))) = S5 at ha5 frS5 ⊢
    have f1' : ∀ k, fldD c.Sums N_Sums 1 S5 (.ref a) k = k (.int (rows.length : Nat)) := fldD_at ha5 rfl
    refine seq_k fun q4 n4 r4 _ _ x4 => ?_
    simp only [wAugF, wC, wVar, getV, some!, f1', oI0, setF_at ha5]
    refine n4 _ _ ?_
    simp only [wRet, wVar, getV, some!]
    refine h _ ?_ fun x m h1 z => (put_ne h1).trans (frS5 x m h1 z)
    show _ = some (MO.ins c.Sums N_Sums [some (dNet c n e), some (.int ((rows ++ [row]).length : Nat)), some (.tup ((sumsOf n (rows ++ [row])).map dM))])
    rw [List.length_append]
    exact put_same
theorem bad_first {L k : Nat} {xs : List D} {d : D} (h1 : ∀ x, x ∈ xs.take k → isLet L x = true) (h2 : xs[k]? = some d) (h3 : isLet L d = false) : firstBad L xs = some d := by
  have hkl := lt_of_some h2
  have e : xs = xs.take k ++ d :: xs.drop (k + 1) := by
    have : xs.drop k = d :: xs.drop (k + 1) := by
      rw [List.drop_eq_getElem_cons hkl]
      congr 1
      rw [List.getElem?_eq_getElem hkl] at h2
      exact Option.some.inj h2
    rw [← this, List.take_append_drop]
  rw [e]
  unfold firstBad
  rw [List.find?_append]
  have n0 : (xs.take k).find? (fun d => !isLet L d) = none := no_bad h1
  rw [n0, Option.none_or, List.find?_cons, h3]
  rfl
theorem lets_of {L : Nat} : ∀ {xs : List D}, (∀ x, x ∈ xs → isLet L x = true) → ∃ ls : Vec, xs = ls.map D.int ∧ LetsOk L ls
  | [], _ => ⟨[], rfl, fun x h => by cases h⟩
  | x :: r, h => by
    obtain ⟨ls, e, hl⟩ := lets_of fun y hy => h y (List.mem_cons_of_mem _ hy)
    obtain ⟨v, rfl, v0, vL⟩ := isLet_ex (h x List.mem_cons_self)
    refine ⟨v :: ls, by rw [e]; rfl, fun y hy => ?_⟩
    rcases List.mem_cons.mp hy with rfl | z
    · exact ⟨v0, vL⟩
    · exact hl y z
theorem len_sums_behind (c : Cl) : ∀ ds S Q E, sp_sums_behind c ds S Q E → ds.length = 2 := by
  rintro ds S Q E ⟨_, _, _, _, _, _, rfl, _⟩; rfl
theorem rd_sums_behind (c : Cl) : ∀ ds S Q X1, sp_sums_behind c ds S Q X1 → w_sums_behind c (startD N_sums_behind_ ds) S (endQ Q X1) := by
  rintro ds S Q X1 ⟨n, e, d, xs, w, L, rfl, hn, hd, h60, hkx, hbad, hgood⟩
  show w_sums_behind c [some (dNet c n e), some d, none, none] S (endQ Q X1)
  unfold w_sums_behind
  refine seq_k fun q2 n2 r2 _ _ x2 => ?_
  simp only [wFor, wIt, wVar, getV, some!, hd]
  refine forI_invq (fun k en S' => S' = S ∧ (∀ x, x ∈ xs.take k → isLet L x = true) ∧ ∃ x4, en = [some (dNet c n e), some d, x4, none]) ⟨rfl, (fun x hx => by cases hx), _, rfl⟩ (fun k en S' h => by rw [h.1]; exact hd) ?_ ?_
  · rintro k d0 en S' hi ⟨rfl, hpre, x4, rfl⟩ q hq _ _ _ xq
    have hm := List.mem_of_getElem? hi
    simp only [gN, setV, wIf, wNot, wTest, wMeth, wCons, wNil, wVar, getV, some!]
    refine ⟨isN, n, e, d0, rfl, hkx d0 hm _, ?_⟩
    rw [hn.em.1]
    cases hb : isLet L d0 with
    | false =>
      simp only [Bool.not_false, if_true, wRaise, wMkE, wVar, getV, some!]
      show q.xc c.InvalidLetter [("letter", d0)] _ _
      rw [xq, x2]
      exact hbad d0 (bad_first hpre hi hb)
    | true =>
      simp only [Bool.not_true, Bool.false_eq_true, if_false, wNext]
      exact hq _ _ ⟨rfl, take_one hpre hi hb, _, rfl⟩
  rintro en S' ⟨rfl, hall, x4, rfl⟩
  rw [List.take_length] at hall
  obtain ⟨ls, rfl, hls⟩ := lets_of hall
  have hgood := hgood ls rfl hls
  rw [List.length_map] at h60
  refine n2 _ _ ?_
  refine seq_k fun q3 n3 r3 _ _ x3 => ?_
  simp only [wSet, wMake, wCons, wNil, wVar, getV, setV, some!]
  intro a ha
  refine ⟨a, n, e, w, L, rfl, hn, put_same, fun S1 hA fr => ⟨rfl, n3 _ _ ?_⟩⟩
  have E1 : Ext S' S1 := fun x m z => fr x m (ne_fresh z ha) ((put_ne (ne_fresh z ha)).trans z)
  have hd1 := seqA_ext E1 hd
  refine seq_k fun q4 n4 r4 _ _ x4 => ?_
  simp only [wFor, wIt, wVar, getV, some!, hd1]
  refine forI_invq (fun k en S2 => Ext S' S2 ∧ SumsAt c S2 a n e (rowsF n (ls.take k)) ∧ ∃ x4, en = [some (dNet c n e), some d, x4, some (.ref a)]) ⟨E1, hA, _, rfl⟩ (fun k en S2 h => seqA_ext h.1 hd) ?_ ?_
  · rintro k d0 en S2 hi ⟨E2, hA2, x5, rfl⟩ q hq _ _ _ _
    rw [List.getElem?_map] at hi
    obtain ⟨l, hl, rfl⟩ := Option.map_eq_some_iff.mp hi
    have hlo := hls l (List.mem_of_getElem? hl)
    have hkl := lt_of_some hl
    have hro := rowsF_ok hn hls (by omega) k
    simp only [gN, setV, wDrop, wMeth, wCons, wNil, wVar, getV, some!]
    refine ⟨isS_at hA2, a, n, e, rowsF n (ls.take k), .int l, w, L, rfl, hn, hro, by rw [rowsF_len, List.length_take]; omega, hA2, kn_int l, fun hno => ?_, fun l' hl' _ S3 hA3 fr3 => ?_⟩
    · rw [isLet_int hlo] at hno; cases hno
    · obtain rfl := D.int.inj hl'
      rw [← rowsF_take hl] at hA3
      exact hq _ _ ⟨fun x m z => fr3 x m (ne_fresh z ha) (E2 _ _ z), hA3, _, rfl⟩
  · rintro en S2 ⟨E2, hA2, x5, rfl⟩
    rw [List.length_map, List.take_length] at hA2
    refine n4 _ _ ?_
    simp only [wRet, wVar, getV, some!]
    exact hgood a S2 E2 ha hA2
end K09

set_option Elab.async false
set_option linter.all false
set_option maxRecDepth 100000
set_option maxHeartbeats 1000000

namespace K09
open PySem PySem.Spec PyProof.Rows L2 DL
theorem len__law_times (c : Cl) : ∀ ds S Q E, sp__law_times c ds S Q E → ds.length = 3 := by
  rintro ds S Q E ⟨_, _, _, rfl, _⟩; rfl
theorem rd__law_times (c : Cl) : ∀ ds S Q X1, sp__law_times c ds S Q X1 → w__law_times c (startD N__law_times_ ds) S (endQ Q X1) := by
  rintro ds S Q X1 ⟨m, v, p, rfl, hm, hr, hl, hv, hp, h⟩
  show w__law_times c [some (dML m), some (dL v), some (.int p), none, none] S (endQ Q X1)
  unfold w__law_times
  simp only [wRet, wLc, wIt, wVar, getV, some!, dML, seqA, seqL, seqM, delVs, delV, List.length_map]
  refine ⟨by unfold sizeLine; omega, compI_vals m dL (fun r => .int (psum r v % p)) trivial (fun r hr2 R hR => ?_) ?_⟩
  · have hrr := hr r hr2
    have ol : ∀ Q, oLen S [dL v] Q = Q (.int (v.length : Nat)) S := fun Q => by rw [oLen_at (S := S) (d := dL v) rfl, List.length_map]
    simp only [gN, setV, wBin, wCB, wCons, wNil, wLc, wRg1, wVar, getV, some!, ol, asI, delVs, delV, Int.toNat_natCast, rngD_length]
    refine ⟨⟨by omega, by omega⟩, by unfold sizeLine; omega, compI_size (fun k => r.getD k 0 * v.getD k 0) trivial (fun k hk R2 hR2 => ?_) ?_⟩
    · have a1 := fun Q => ix_vec (S := S) (v := r) (k := k) (by omega) Q
      have a2 := fun Q => ix_vec (S := S) (v := v) (k := k) (by omega) Q
      have b1 := sm_get (k := k) hrr.2
      have b2 := sm_get (k := k) hv
      simp only [gN, setV, wBin, wVar, getV, some!, a1, a2, oMul, oI, oI0]
      exact ⟨mulw (by omega) (by omega), hR2⟩
    · simp only [sum_int, oMod, oI, oI0]
      refine ⟨hp, ?_⟩
      have e : ((List.range v.length).map fun k => r.getD k 0 * v.getD k 0).sum = psum r v := (psum_vec hrr.1 rfl).symm
      rw [e]; exact hR
  · have e : m.map (fun r => D.int (psum r v % p)) = (timesF p m v).map D.int := by unfold timesF; rw [List.map_map]; rfl
    rw [e]
    exact h
theorem len__law_row (c : Cl) : ∀ ds S Q E, sp__law_row c ds S Q E → ds.length = 4 := by
  rintro ds S Q E ⟨_, _, _, _, _, _, _, _, rfl, _⟩; rfl
theorem rd__law_row (c : Cl) : ∀ ds S Q X1, sp__law_row c ds S Q X1 → w__law_row c (startD N__law_row_ ds) S (endQ Q X1) := by
  rintro ds S Q X1 ⟨n, e, d, rows, l, b, w, L, rfl, hd, hb, hn, hr, hl, h⟩
  have hp := prime_pos hn
  have hp' : 0 < n.prime ∧ n.prime ≤ 97 := ⟨hp.1, hp.2.2⟩
  have hw := hn.w1
  have hsl := hn.sh.1
  have hr1 := hr.1
  have hm3 := hn.la.1
  show w__law_row c [some (dPlan n e), some d, some (.int l), some (.int (b : Nat)), none, none, none, none, none, none, none, none, none, none, none, none, none, none, none, none, none, none, none, none] S (endQ Q X1)
  unfold w__law_row
  obtain ⟨i0, i1, i2, i3, i4, i5⟩ := plan_ix (n := n) (e := e) (S := S)
  refine seq_k fun q1 n1 r1 _ _ x1 => ?_
  simp only [wSet, wBin, wVar, wC, getV, setV, some!, i0]
  refine n1 _ _ ?_
  refine seq_k fun q2 n2 r2 _ _ x2 => ?_
  simp only [wSet, wListRg, wBin, wCB, wCons, wNil, wVar, wC, getV, setV, some!, i2, dL, oLen_L, asI, Int.toNat_natCast, hsl]
  refine ⟨⟨by omega, by omega⟩, n2 _ _ ?_⟩
  refine seq_k fun q3 n3 r3 _ _ x3 => ?_
  have hlt : l.toNat < n.embed.length := by have := hn.em.1; omega
  obtain ⟨em, hem⟩ : ∃ x, n.embed[l.toNat]? = some x := ⟨_, List.getElem?_eq_getElem hlt⟩
  have ix : ∀ Q, oIx S (dML n.embed) (.int l) Q = Q (dL em) S := oIx_eq (show seqA S (dML n.embed) = some (n.embed.map dL) from rfl) (at_z hl.1 (by rw [List.getElem?_map, hem]; rfl))
  have hemw := hn.em.2 _ (List.mem_of_getElem? hem)
  have ol : ∀ Q, oLen S [d] Q = Q (.int (rows.length : Nat)) S := fun Q => by rw [oLen_at (seqM_A hd), List.length_map]
  have sS : ∀ (S : Sto), seqA S (.lst (rngD 0 w)) = some (rngD 0 w) := fun _ => rfl
  simp only [wSet, wLc, wIt, wVar, getV, some!, sS, delVs, delV, rngD_length]
  refine ⟨by unfold sizeLine; omega, compI_size (fun k => (em.getD k 0 + (rows.length : Int) * n.shift.getD k 0) % n.prime) trivial (fun k hk R hR => ?_) ?_⟩
  · have a1 := fun Q => ix_vec (S := S) (v := em) (k := k) (by rw [hemw.1]; exact hk) Q
    have a2 := fun Q => ix_vec (S := S) (v := n.shift) (k := k) (by rw [hsl]; exact hk) Q
    have b2 := sm_get (k := k) hn.sh.2
    simp only [gN, setV, wBin, wCB, wCons, wNil, wVar, wC, getV, some!, i1, ix, a1, i2, ol, a2, oMul, oMod, oAdd, oI, oI0, oInt, one]
    exact ⟨mulw (by omega) (by omega), hp.1, hR⟩
  have ex0 : ((List.range w).map fun k => (em.getD k 0 + (rows.length : Int) * n.shift.getD k 0) % n.prime) = xB n rows.length l := by
    unfold xB
    rw [List.getD_eq_getElem?_getD, hem]
    conv => rhs; rw [show (some em).getD [] = em from rfl, vec_eq hemw.1, vec_eq hsl, List.map_map]
    rw [plus_vec]; rfl
  rw [ex0]
  simp only [setV]
  refine n3 _ _ ?_
  refine seq_k fun q4 n4 r4 _ _ x4 => ?_
  simp only [wSet, wLstM, wNil, setV]
  refine ⟨by decide, fun p hpn => n4 _ _ ?_⟩
  have E := ext_put (m := .lst []) (ext_refl S) hpn
  have hat : put S p (.lst []) p = some (.lst []) := put_same
  generalize put S p (.lst []) = S1 at E hat
  obtain ⟨i0, i1, i2, i3, i4, i5⟩ := plan_ix (n := n) (e := e) (S := S1)
  refine seq_k fun q5 n5 r5 _ _ x5 => ?_
  simp only [wFor, wRg1, wBin, wCB, wCons, wNil, wVar, wC, getV, some!, i3, oLen_L, asI, Int.toNat_natCast]
  refine ⟨⟨by omega, by omega⟩, ?_⟩
  have hkept := rows_drop (k := b) hr
  generalize hK : rows.drop b = kept at *
  refine forI_invq (fun k en S' => Ext S S' ∧ S' p = some (.lst ((stB n rows.length kept l k).1.map dP)) ∧ ∃ x8 x9 x10 x11 x12 x13 x14 x15 x16 x17 x18 x19, en = [some (dPlan n e), some d, some (.int l), some (.int (b : Nat)), some (.int n.prime), some (.lst (rngD 0 w)), some (dL (stB n rows.length kept l k).2), some (.ref p), x8, x9, x10, x11, x12, x13, x14, x15, x16, x17, x18, x19, none, none, none, none])
    ⟨E, hat, _, _, _, _, _, _, _, _, _, _, _, _, rfl⟩ (fun _ _ _ _ => trivial) ?_ ?_
  · rintro k dk en S' hi ⟨E, hat, x8, x9, x10, x11, x12, x13, x14, x15, x16, x17, x18, x19, rfl⟩ q hq _ _ _ _
    obtain ⟨hk, rfl⟩ := rngD_get hi
    rw [Int.zero_add]
    obtain ⟨ly, hly⟩ : ∃ x, n.layers[k]? = some x := ⟨_, List.getElem?_eq_getElem hk⟩
    have lok := hn.la.2 ly (List.mem_of_getElem? hly)
    obtain ⟨k1, k2, k3, k4, k5⟩ := lok
    have sok := stB_ok (cnt := rows.length) hn hkept hl k
    have slen := stB_len (n := n) (cnt := rows.length) (kept := kept) (l := l) (k := k) (by omega)
    have hsucc := stB_succ (cnt := rows.length) (kept := kept) (l := l) hly
    have hsm := sok.x.wd.2
    have hxl := sok.x.1
    generalize hst : stB n rows.length kept l k = st at *
    obtain ⟨prs, x⟩ := st
    dsimp only at *
    have hpk := w97_times (v := x) hp' k2.1
    have hpv := w97_times (v := x) hp' k3.1
    have hpq := w97_times (v := x) hp' k1.1
    obtain ⟨i0, i1, i2, i3, i4, i5⟩ := plan_ix (n := n) (e := e) (S := S')
    have il : ∀ Q, oIx S' (.lst (n.layers.map dLayL)) (.int (k : Nat)) Q = Q (dLayL ly) S' := oIx_eq rfl (at_k (by rw [List.getElem?_map, hly]; rfl))
    simp only [gN, setV]
    refine seq_k fun q6 n6 r6 _ _ x6' => ?_
    simp only [wAsgG, wBin, wVar, wC, getV, some!, i3, il, dLayL, lay5, List.map_cons, List.map_nil, gT, gAll, gN, setV]
    refine ⟨rfl, n6 _ _ ?_⟩
    refine seq_k fun q7 n7 r7 _ _ x7' => ?_
    simp only [wSet, wCall, wCons, wNil, wVar, getV, setV, some!]
    refine ⟨ly.q, x, n.prime, rfl, by rw [k1.1]; omega, fun r hr => ⟨by rw [(k1.2 r hr).1, hxl], (k1.2 r hr).2⟩, by rw [hxl]; omega, hsm, hp.1, n7 _ _ ?_⟩
    refine seq_k fun q8 n8 r8 _ _ x8' => ?_
    have tt : ∀ (v : Vec) Q, oTuple S' [dL v] Q = Q (dT v) S' := fun v Q => oTuple_at rfl Q
    simp only [wSet, wTup, wCB, wCall, wCons, wNil, wVar, getV, setV, some!]
    refine ⟨ly.k, x, n.prime, rfl, by rw [k2.1]; omega, fun r hr => ⟨by rw [(k2.2 r hr).1, hxl], (k2.2 r hr).2⟩, by rw [hxl]; omega, hsm, hp.1, ?_⟩
    simp only [tt]
    refine ⟨ly.v, x, n.prime, rfl, by rw [k3.1]; omega, fun r hr => ⟨by rw [(k3.2 r hr).1, hxl], (k3.2 r hr).2⟩, by rw [hxl]; omega, hsm, hp.1, ?_⟩
    simp only [tt]
    refine ⟨show 2 ≤ sizeLine by decide, n8 _ _ ?_⟩
    have epr : D.tup [dT (timesF n.prime ly.k x), dT (timesF n.prime ly.v x)] = dP (pairF n.prime ly x) := rfl
    rw [epr]
    have hpair : Wd w (pairF n.prime ly x).1 ∧ Wd w (pairF n.prime ly x).2 := ⟨hpk.wd, hpv.wd⟩
    have hxe : (stepL n.prime kept (prs, x) ly) = (prs ++ [pairF n.prime ly x], plusF n.prime (plusF n.prime x (lookF n.prime (timesF n.prime ly.q x) (beforeF kept k ++ [pairF n.prime ly x]))) (timesF n.prime ly.s ((timesF n.prime ly.f (plusF n.prime x (lookF n.prime (timesF n.prime ly.q x) (beforeF kept k ++ [pairF n.prime ly x])))).map fun n => n * n))) := by
      show (_, nextX _ (beforeF kept prs.length) _ _) = _
      rw [slen]; rfl
    generalize timesF n.prime ly.q x = qv at *
    generalize pairF n.prime ly x = pr at *
    refine seq_k fun q9 n9 r9 _ _ x9' => ?_
    simp only [wSet, wLc, wIt, wC, wVar, getV, some!, sS, delVs, delV, rngD_length]
    refine ⟨by unfold sizeLine; omega, compI_size (fun i => lkS qv [] i) trivial (fun i hi R hR => by simp only [gN, setV]; exact hR) ?_⟩
    simp only [setV]
    refine n9 _ _ ?_
    refine seq_k fun q10 n10 r10 _ _ x10' => ?_
    have hd' := seqM_ext E hd
    have osl := fun Q => oSl_M (lo := some (b : Int)) (hi := none) hd' Q
    simp only [wFor, wIt, wBin, wLc, wSl, wP, wNoP, wLst, wCons, wNil, wVar, wC, getV, some!, osl, cut_from hb, hK, seqA, seqL, seqM, delVs, delV, List.length_map]
    refine ⟨by have := hkept.1; unfold sizeLine; omega, compI_vals kept dRw (fun r => dP (r.pairs.getD k ([], []))) trivial (fun r hr0 R hR => ?_) ?_⟩
    · have hrp := (hkept.2 r hr0).pa
      have j0 : ∀ Q, oIx S' (dRw r) (.int 0) Q = Q (.tup (r.pairs.map dP)) S' := oIx_eq (show seqA S' (dRw r) = some [.tup (r.pairs.map dP), dT r.wts] from rfl) rfl
      have j1 : ∀ Q, oIx S' (.tup (r.pairs.map dP)) (.int (k : Nat)) Q = Q (dP (r.pairs.getD k ([], []))) S' := oIx_eq rfl (at_k (by rw [List.getElem?_map, List.getD_eq_getElem?_getD, List.getElem?_eq_getElem (by rw [hrp.1]; exact hk)]; rfl))
      simp only [gN, setV, wBin, wVar, wC, getV, some!, j0, j1]
      exact hR
    have eb : kept.map (fun r => dP (r.pairs.getD k ([], []))) = (beforeF kept k).map dP := by unfold beforeF; rw [List.map_map]; rfl
    rw [eb]
    refine ⟨show 1 ≤ sizeLine by decide, ?_⟩
    simp only [oAdd, oCatL, seqM, some!, List.length_map, List.length_cons, List.length_nil]
    have hbl : (beforeF kept k).length = kept.length := by unfold beforeF; rw [List.length_map]
    refine ⟨by rw [hbl]; have := hkept.1; unfold sizeLine; omega, ?_⟩
    have ecat : (beforeF kept k).map dP ++ [dP pr] = (beforeF kept k ++ [pr]).map dP := by rw [List.map_append]; rfl
    rw [ecat]
    have hall : ∀ y, y ∈ beforeF kept k ++ [pr] → Wd w y.1 ∧ Wd w y.2 := fun y hy => by
      rcases List.mem_append.mp hy with z | z
      · exact before_ok hkept hk y z
      · rw [List.mem_singleton] at z; subst z; exact hpair
    generalize beforeF kept k ++ [pr] = all at *
    refine forI_invq (fun j en S'' => S'' = S' ∧ ∃ x17 x18 x19, en = [some (dPlan n e), some d, some (.int l), some (.int (b : Nat)), some (.int n.prime), some (.lst (rngD 0 w)), some (dL x), some (.ref p), some (.int (k : Nat)), some (dML ly.q), some (dML ly.k), some (dML ly.v), some (dML ly.f), some (dML ly.s), some (dL qv), some (dP pr), some (dL ((List.range w).map fun i => lkS qv (all.take j) i)), x17, x18, x19, none, none, none, none])
      ⟨rfl, _, _, _, rfl⟩ (fun _ _ _ _ => trivial) ?_ ?_
    · rintro j dj en S'' hj ⟨rfl, x17, x18, x19, rfl⟩ q' hq' _ _ _ _
      rw [List.getElem?_map] at hj
      obtain ⟨y, hy, rfl⟩ := Option.map_eq_some_iff.mp hj
      have hyo := hall y (List.mem_of_getElem? hy)
      simp only [gT, gAll, gN, dP, setV]
      refine ⟨rfl, ?_⟩
      refine seq_k fun q11 n11 r11 _ _ x11' => ?_
      simp only [wSet, wCB, wCons, wNil, wLc, wIt, wVar, getV, some!, sS, delVs, delV, rngD_length]
      refine ⟨by unfold sizeLine; omega, compI_size (fun i => qv.getD i 0 * y.1.getD i 0) trivial (fun i hi R hR => ?_) ?_⟩
      · have a1 := fun Q => ix_vec (S := S'') (v := qv) (k := i) (by rw [hpq.1]; exact hi) Q
        have a2 := fun Q => ix_vecT (S := S'') (v := y.1) (k := i) (by rw [hyo.1.1]; exact hi) Q
        have b1 := sm_get (k := i) hpq.wd.2
        have b2 := sm_get (k := i) hyo.1.2
        simp only [gN, setV, wBin, wVar, getV, some!, a1, a2, oMul, oI, oI0]
        exact ⟨mulw (by omega) (by omega), hR⟩
      · simp only [sum_int, setV]
        have es : ((List.range w).map fun i => qv.getD i 0 * y.1.getD i 0).sum = psum qv y.1 := (psum_vec hpq.1 hyo.1.1).symm
        rw [es]
        refine n11 _ _ ?_
        have hps := psum_bd hpq.wd.2 hyo.1.2
        rw [hpq.1] at hps
        simp only [wSet, wLc, wIt, wVar, getV, some!, sS, delVs, delV, rngD_length]
        refine ⟨by unfold sizeLine; omega, compI_size (fun i => lkS qv (all.take j) i + psum qv y.1 * y.2.getD i 0) trivial (fun i hi R hR => ?_) ?_⟩
        · have a1 := fun Q => ix_vec (S := S'') (v := (List.range w).map fun i => lkS qv (all.take j) i) (k := i) (by rw [List.length_map, List.length_range]; exact hi) Q
          have a2 := fun Q => ix_vecT (S := S'') (v := y.2) (k := i) (by rw [hyo.2.1]; exact hi) Q
          have b2 := sm_get (k := i) hyo.2.2
          simp only [gN, setV, wBin, wVar, getV, some!, a1, a2, oMul, oAdd, oI, oI0, getD_range hi]
          exact ⟨mulw (by omega) (by omega), hR⟩
        · have el : (fun i => lkS qv (all.take (j + 1)) i) = fun i => lkS qv (all.take j) i + psum qv y.1 * y.2.getD i 0 := by funext i; exact lkS_snoc hy
          exact hq' _ _ ⟨rfl, _, _, _, by rw [el]; rfl⟩
    · rintro en S'' ⟨rfl, x17, x18, x19, rfl⟩
      rw [List.length_map, List.take_length]
      refine n10 _ _ ?_
      refine seq_k fun q12 n12 r12 _ _ x12' => ?_
      simp only [wSet, wLc, wIt, wVar, getV, some!, sS, delVs, delV, rngD_length]
      refine ⟨by unfold sizeLine; omega, compI_size (fun i => (x.getD i 0 + lkS qv all i) % n.prime) trivial (fun i hi R hR => ?_) ?_⟩
      · have a1 := fun Q => ix_vec (S := S'') (v := x) (k := i) (by rw [hxl]; exact hi) Q
        have a2 := fun Q => ix_vec (S := S'') (v := (List.range w).map fun i => lkS qv all i) (k := i) (by rw [List.length_map, List.length_range]; exact hi) Q
        simp only [gN, setV, wBin, wCB, wCons, wNil, wVar, getV, some!, a1, a2, oAdd, oMod, oI, oI0, oInt, one, getD_range hi]
        exact ⟨hp.1, hR⟩
      rw [plus_more hxl hpq.1 fun y hy => (hall y hy).2.1]
      have hlook : (lookF n.prime qv all).length = w := len_look hpq.1 fun y hy => (hall y hy).2.1
      have hx1 := w97_plus (b := lookF n.prime qv all) hp' hxl hlook
      generalize plusF n.prime x (lookF n.prime qv all) = y at *
      simp only [setV]
      refine n12 _ _ ?_
      have hpf := w97_times (v := y) hp' k4.1
      refine seq_k fun q13 n13 r13 _ _ x13' => ?_
      simp only [wSet, wCall, wCons, wNil, wLc, wIt, wVar, getV, some!]
      refine ⟨ly.f, y, n.prime, rfl, by rw [k4.1]; omega, fun r hr => ⟨by rw [(k4.2 r hr).1, hx1.1], (k4.2 r hr).2⟩, by rw [hx1.1]; omega, hx1.wd.2, hp.1, ?_⟩
      simp only [dL, seqA, seqL, seqM, delVs, delV]
      refine ⟨by rw [List.length_map, hpf.1]; unfold sizeLine; omega, compI_vals (timesF n.prime ly.f y) D.int (fun x => .int (x * x)) trivial (fun z hz R2 hR2 => ?_) ?_⟩
      · have := hpf.2 z hz
        simp only [gN, setV, wBin, wVar, getV, some!, oMul, oI, oI0]
        exact ⟨mulw (by omega) (by omega), hR2⟩
      have e1 : (timesF n.prime ly.f y).map (fun x => D.int (x * x)) = ((timesF n.prime ly.f y).map fun x => x * x).map D.int := by rw [List.map_map]; rfl
      rw [e1]
      have hsql : ((timesF n.prime ly.f y).map fun x => x * x).length = w := by rw [List.length_map]; exact hpf.1
      refine ⟨ly.s, (timesF n.prime ly.f y).map fun x => x * x, n.prime, rfl, by rw [k5.1]; omega, fun r hr => ⟨by rw [(k5.2 r hr).1, hsql], (k5.2 r hr).2⟩, by rw [hsql]; omega, sm_sq hpf.2, hp.1, ?_⟩
      have hps := w97_times (v := (timesF n.prime ly.f y).map fun x => x * x) hp' k5.1
      generalize timesF n.prime ly.s ((timesF n.prime ly.f y).map fun x => x * x) = z at *
      simp only [setV]
      refine n13 _ _ ?_
      refine seq_k fun q14 n14 r14 _ _ x14' => ?_
      have sS2 : ∀ (S : Sto), seqA S (.lst (rngD 0 w)) = some (rngD 0 w) := fun _ => rfl
      simp only [wSet, wLc, wIt, wVar, getV, some!, sS2, delVs, delV, rngD_length]
      refine ⟨by unfold sizeLine; omega, compI_size (fun i => (y.getD i 0 + z.getD i 0) % n.prime) trivial (fun i hi R hR => ?_) ?_⟩
      · have a1 : ∀ Q, oIx S'' (.lst (y.map D.int)) (.int (i : Nat)) Q = _ := fun Q => ix_vec (S := S'') (v := y) (k := i) (by rw [hx1.1]; exact hi) Q
        have a2 : ∀ Q, oIx S'' (.lst (z.map D.int)) (.int (i : Nat)) Q = _ := fun Q => ix_vec (S := S'') (v := z) (k := i) (by rw [hps.1]; exact hi) Q
        simp only [gN, setV, dL, wBin, wCB, wCons, wNil, wVar, getV, some!, a1, a2, oAdd, oMod, oI, oI0, oInt, one]
        exact ⟨hp.1, hR⟩
      rw [plus_get hx1.1 hps.1]
      simp only [setV]
      refine n14 _ _ ?_
      simp only [wDrop, wMt, wCons, wNil, wVar, getV, some!, mutL, hat, oAppend]
      refine ⟨by rw [List.length_map, slen]; unfold sizeLine; omega, hq _ _ ⟨ext_chg E hpn, ?_, _, _, _, _, _, _, _, _, _, _, _, _, by rw [hsucc, hxe]; rfl⟩⟩
      rw [put_same, hsucc, hxe]
      show _ = some (MO.lst ((prs ++ [pr]).map dP))
      rw [List.map_append]; rfl
  · rintro en S' ⟨E, hat, x8, x9, x10, x11, x12, x13, x14, x15, x16, x17, x18, x19, rfl⟩
    rw [rngD_length] at hat ⊢
    have sok := stB_ok (cnt := rows.length) hn hkept hl n.layers.length
    refine n5 _ _ ?_
    obtain ⟨i0, i1, i2, i3, i4, i5⟩ := plan_ix (n := n) (e := e) (S := S')
    have ot := fun Q => oTuple_at (seqA_at hat) Q
    simp only [wRet, wTup, wCB, wCall, wCons, wNil, wLc, wIt, wBin, wVar, wC, getV, some!, ot, i4]
    refine ⟨n.out, _, n.prime, rfl, by rw [hn.ou.1]; have := hn.l1; omega, fun r hr => ⟨by rw [(hn.ou.2 r hr).1, sok.x.1], (hn.ou.2 r hr).2⟩, by rw [sok.x.1]; omega, sok.x.wd.2, hp.1, ?_⟩
    simp only [dL, seqA, seqL, seqM, delVs, delV]
    refine ⟨by rw [List.length_map, len_times, hn.ou.1]; have := hn.l1; unfold sizeLine; omega, compI_vals (timesF n.prime n.out (stB n rows.length kept l n.layers.length).2) D.int (fun x => .int (1 + x)) trivial (fun z hz R2 hR2 => ?_) ?_⟩
    · simp only [gN, setV, wBin, wC, wVar, getV, some!, oAdd, oI0]
      exact hR2
    · simp only [oTuple, one, seqA, seqL, seqM, some!]
      rw [rowB_eq] at h
      have e2 : (timesF n.prime n.out (stB n rows.length kept l n.layers.length).2).map (fun x => D.int (1 + x)) = (n.out.map fun v => 1 + psum v (stB n rows.length kept l n.layers.length).2 % n.prime).map D.int := by unfold timesF; rw [List.map_map, List.map_map]; rfl
      rw [e2]
      exact ⟨show 2 ≤ sizeLine by decide, h S' E⟩
theorem len__law_grids (c : Cl) : ∀ ds S Q E, sp__law_grids c ds S Q E → ds.length = 2 := by
  rintro ds S Q E ⟨_, _, _, _, _, _, rfl, _⟩; rfl
theorem rd__law_grids (c : Cl) : ∀ ds S Q X1, sp__law_grids c ds S Q X1 → w__law_grids c (startD N__law_grids_ ds) S (endQ Q X1) := by
  rintro ds S Q X1 ⟨n, e, d, rows, w, L, rfl, hd, hn, hr, h⟩
  have hp := prime_pos hn
  have hp' : 0 < n.prime ∧ n.prime ≤ 97 := ⟨hp.1, hp.2.2⟩
  have hw := hn.w1
  have hsl := hn.sh.1
  have hm3 := hn.la.1
  show w__law_grids c [some (dPlan n e), some d, none, none, none, none, none, none, none, none, none, none, none] S (endQ Q X1)
  unfold w__law_grids
  obtain ⟨i0, i1, i2, i3, i4, i5⟩ := plan_ix (n := n) (e := e) (S := S)
  refine seq_k fun q2 n2 r2 _ _ x2 => ?_
  simp only [wSet, wListRg, wBin, wCB, wCons, wNil, wVar, wC, getV, setV, some!, i2, dL, oLen_L, asI, Int.toNat_natCast, hsl]
  refine ⟨⟨by omega, by omega⟩, n2 _ _ ?_⟩
  refine seq_k fun q4 n4 r4 _ _ x4 => ?_
  simp only [wSet, wLstM, wNil, setV]
  refine ⟨by decide, fun p hpn => n4 _ _ ?_⟩
  have E := ext_put (m := .lst []) (ext_refl S) hpn
  have hat : put S p (.lst []) p = some (.lst []) := put_same
  generalize put S p (.lst []) = S1 at E hat
  obtain ⟨i0, i1, i2, i3, i4, i5⟩ := plan_ix (n := n) (e := e) (S := S1)
  refine seq_k fun q5 n5 r5 _ _ x5 => ?_
  simp only [wFor, wRg1, wBin, wCB, wCons, wNil, wVar, wC, getV, some!, i3, oLen_L, asI, Int.toNat_natCast]
  refine ⟨⟨by omega, by omega⟩, ?_⟩
  have sS : ∀ (S : Sto), seqA S (.lst (rngD 0 w)) = some (rngD 0 w) := fun _ => rfl
  refine forI_invq (fun k en S' => Ext S S' ∧ S' p = some (.lst (((sumsOf n rows).take k).map dM)) ∧ ∃ x4 x5 x6 x7 x8 x9, en = [some (dPlan n e), some d, some (.lst (rngD 0 w)), some (.ref p), x4, x5, x6, x7, x8, x9, none, none, none])
    ⟨E, hat, _, _, _, _, _, _, rfl⟩ (fun _ _ _ _ => trivial) ?_ ?_
  · rintro k dk en S' hi ⟨E, hat, x4, x5, x6, x7, x8, x9, rfl⟩ q hq _ _ _ _
    obtain ⟨hk, rfl⟩ := rngD_get hi
    rw [Int.zero_add]
    have hbo := before_ok hr hk
    have hbl : (beforeF rows k).length = rows.length := by unfold beforeF; rw [List.length_map]
    simp only [gN, setV]
    refine seq_k fun q6 n6 r6 _ _ x6' => ?_
    simp only [wSet, wLc, wIt, wVar, getV, some!, sS, delVs, delV, rngD_length]
    refine ⟨by unfold sizeLine; omega, compI_sizeM (fun i => (List.range w).map fun _ => 0) trivial (fun i hi R hR => ?_) ?_⟩
    · simp only [gN, setV, wLc, wIt, wVar, getV, some!, sS, delVs, delV, rngD_length]
      exact ⟨by unfold sizeLine; omega, compI_size (fun _ => 0) trivial (fun k hk R2 hR2 => by simp only [gN, setV, wC]; exact hR2) hR⟩
    simp only [setV]
    refine n6 _ _ ?_
    refine seq_k fun q7 n7 r7 _ _ x7' => ?_
    have hd' := seqA_ext E hd
    simp only [wFor, wIt, wVar, getV, some!, hd']
    refine forI_invq (fun j en S'' => S'' = S' ∧ ∃ x6 x7 x8 x9, en = [some (dPlan n e), some d, some (.lst (rngD 0 w)), some (.ref p), some (.int (k : Nat)), some (dML (sumMat n.prime w ((beforeF rows k).take j))), x6, x7, x8, x9, none, none, none])
      ⟨rfl, x6, x7, x8, x9, by rw [List.take_zero, sumMat_nil]; rfl⟩ (fun j en S'' h => by rw [h.1]; exact hd') ?_ ?_
    · rintro j dj en S'' hj ⟨rfl, x6, x7, x8, x9, rfl⟩ q' hq' _ _ _ _
      rw [List.getElem?_map] at hj
      obtain ⟨r, hrj, rfl⟩ := Option.map_eq_some_iff.mp hj
      have hrp := (hr.2 r (List.mem_of_getElem? hrj)).pa
      obtain ⟨pr, hpr⟩ : ∃ x, r.pairs[k]? = some x := ⟨_, List.getElem?_eq_getElem (by rw [hrp.1]; exact hk)⟩
      have hpo := hrp.2 pr (List.mem_of_getElem? hpr)
      have j1 : ∀ Q, oIx S'' (.tup (r.pairs.map dP)) (.int (k : Nat)) Q = Q (dP pr) S'' := oIx_eq rfl (at_k (by rw [List.getElem?_map, hpr]; rfl))
      have hbj : (beforeF rows k)[j]? = some pr := by
        unfold beforeF
        rw [List.getElem?_map, hrj]
        show some (r.pairs.getD k ([], [])) = _
        rw [List.getD_eq_getElem?_getD, hpr]; rfl
      have htk : (beforeF rows k).take (j + 1) = (beforeF rows k).take j ++ [pr] := by rw [List.take_add_one, hbj]; rfl
      have hsn := (congrArg (sumMat n.prime w) htk).trans sumMat_snoc
      obtain ⟨i0, i1, i2, i3, i4, i5⟩ := plan_ix (n := n) (e := e) (S := S'')
      simp only [gT, gAll, gN, dRw, setV]
      refine ⟨rfl, ?_⟩
      refine seq_k fun q8 n8 r8 _ _ x8' => ?_
      simp only [wAsgG, wBin, wVar, getV, some!, j1, gT, gAll, gN, dP, setV]
      refine ⟨rfl, n8 _ _ ?_⟩
      simp only [wSet, wLc, wIt, wVar, getV, some!, sS, delVs, delV, rngD_length]
      refine ⟨by unfold sizeLine; omega, compI_sizeM (fun i => (List.range w).map fun k' => (prS ((beforeF rows k).take j) i k' % n.prime + pr.2.getD i 0 * pr.1.getD k' 0) % n.prime) trivial (fun i hi R hR => ?_) ?_⟩
      · have a1 := fun Q => ix_mat (p := n.prime) (w := w) (i := i) (prs := (beforeF rows k).take j) (S := S'') hi Q
        have a2 := fun Q => ix_vecT (S := S'') (v := pr.2) (k := i) (by rw [hpo.2.1]; exact hi) Q
        simp only [gN, setV, wLc, wIt, wVar, getV, some!, sS, delVs, delV, rngD_length]
        refine ⟨by unfold sizeLine; omega, compI_size (fun k' => (prS ((beforeF rows k).take j) i k' % n.prime + pr.2.getD i 0 * pr.1.getD k' 0) % n.prime) trivial (fun m hm R2 hR2 => ?_) hR⟩
        have a3 := fun Q => ix_vec (S := S'') (v := (List.range w).map fun k' => prS ((beforeF rows k).take j) i k' % n.prime) (k := m) (by rw [List.length_map, List.length_range]; exact hm) Q
        have a4 := fun Q => ix_vecT (S := S'') (v := pr.1) (k := m) (by rw [hpo.1.1]; exact hm) Q
        have b1 := sm_get (k := m) hpo.1.2
        have b2 := sm_get (k := i) hpo.2.2
        simp only [gN, setV, wBin, wCB, wCons, wNil, wC, wVar, getV, some!, a1, a2, a3, a4, i0, oMul, oAdd, oMod, oI, oI0, oInt, one, getD_range hm]
        exact ⟨mulw (by omega) (by omega), hp.1, hR2⟩
      · exact hq' _ _ ⟨rfl, _, _, _, _, by rw [hsn]; rfl⟩
    · rintro en S'' ⟨rfl, x6, x7, x8, x9, rfl⟩
      rw [List.length_map, ← hbl, List.take_length]
      refine n7 _ _ ?_
      have hmo := sumMat_ok (w := w) (prs := beforeF rows k) hp'
      have hsk := sums_get (kept := rows) hk
      rw [hsl] at hsk
      generalize sumMat n.prime w (beforeF rows k) = m at *
      have sM : seqA S'' (dML m) = some (m.map dL) := rfl
      simp only [wDrop, wMt, wCB, wCons, wNil, wLc, wIt, wVar, getV, some!, sM, mutL, hat, delVs, delV]
      refine ⟨by rw [List.length_map, hmo.1]; unfold sizeLine; omega, compI_vals m dL dT sM (fun v hv R hR => ?_) ?_⟩
      · have ot : ∀ Q, oTuple S'' [dL v] Q = Q (dT v) S'' := fun Q => oTuple_at rfl Q
        simp only [gN, setV, wCB, wCons, wNil, wVar, getV, some!, ot]
        exact hR
      · have ot : ∀ Q, oTuple S'' [.lst (m.map dT)] Q = Q (dM m) S'' := fun Q => oTuple_at rfl Q
        simp only [ot, oAppend, mutL, hat]
        refine ⟨by rw [List.length_map, List.length_take]; unfold sizeLine; omega, hq _ _ ⟨ext_chg E hpn, ?_, _, _, _, _, _, _, rfl⟩⟩
        rw [put_same, List.take_add_one, hsk, List.map_append]; rfl
  · rintro en S' ⟨E, hat, x4, x5, x6, x7, x8, x9, rfl⟩
    rw [rngD_length, List.take_of_length_le (by unfold sumsOf; rw [List.length_map, List.length_range]; exact Nat.le_refl _)] at hat
    refine n5 _ _ ?_
    have ot := fun Q => oTuple_at (seqA_at hat) Q
    simp only [wRet, wCB, wCons, wNil, wVar, getV, some!, ot]
    exact h S' E
theorem len__law_wide_net (c : Cl) : ∀ ds S Q E, sp__law_wide_net c ds S Q E → ds.length = 1 := by
  rintro ds S Q E ⟨_, rfl, _⟩; rfl
theorem rd__law_wide_net (c : Cl) : ∀ ds S Q X1, sp__law_wide_net c ds S Q X1 → w__law_wide_net c (startD N__law_wide_net_ ds) S (endQ Q X1) := by
  rintro ds S Q X1 ⟨p, rfl, hS, h⟩
  show w__law_wide_net c [some (.ref p), none, none, none] S (endQ Q X1)
  unfold w__law_wide_net
  refine seq_k fun q1 n1 r1 _ _ x1 => ?_
  simp only [wSet, wLst, wCons, wNil, wC, setV]
  refine ⟨show 25 ≤ sizeLine by decide, n1 _ _ ?_⟩
  have ls : ∀ S, seqA S (.lst [.int 2, .int 3, .int 5, .int 7, .int 11, .int 13, .int 17, .int 19, .int 23, .int 29, .int 31, .int 37, .int 41, .int 43, .int 47, .int 53, .int 59, .int 61, .int 67, .int 71, .int 73, .int 79, .int 83, .int 89, .int 97]) = some (thePrimes.map D.int) := fun _ => rfl
  generalize D.lst [.int 2, .int 3, .int 5, .int 7, .int 11, .int 13, .int 17, .int 19, .int 23, .int 29, .int 31, .int 37, .int 41, .int 43, .int 47, .int 53, .int 59, .int 61, .int 67, .int 71, .int 73, .int 79, .int 83, .int 89, .int 97] = pd at ls
  refine seq_k fun q2 n2 r2 _ _ x2 => ?_
  simp only [wSet, wBin, wCall, wCons, wNil, wVar, wC, getV, setV, some!]
  refine ⟨p, 25, rfl, hS, by decide, fun r S1 hr d1 => ?_⟩
  obtain ⟨pr, hpr⟩ : ∃ x, thePrimes[r.toNat]? = some x := ⟨_, List.getElem?_eq_getElem (show r.toNat < 25 by omega)⟩
  rw [oIx_eq (ls S1) (at_z hr.1 (by rw [List.getElem?_map, hpr]; rfl))]
  refine n2 _ _ ?_
  have hpp := List.mem_of_getElem? hpr
  refine seq_k fun q3 n3 r3 _ _ x3 => ?_
  simp only [wSet, wBin, wCall, wCons, wNil, wVar, wC, getV, setV, some!]
  refine ⟨p, 4, rfl, d1.po, by decide, fun r S2 hr d2 => ?_⟩
  simp only [oAdd, oI0]
  refine n3 _ _ ?_
  have fin : ∀ (L : Int) (S3 : Sto) (q : QS), q.rt = (endQ Q X1).rt → (1 ≤ L ∧ L ≤ 12) → Dr p S S3 → (wRet (wCall (sp__law_net c) (wCons (wVar 0) (wCons (wVar 2) (wCons (wVar 3) (wCons (wBin oAdd (wC (.int 1)) (wCall (sp__law_draw c) (wCons (wVar 0) (wCons (wC (.int 4)) wNil)))) (wCons (wCall (sp__law_draw c) (wCons (wVar 0) (wCons (wC (.int 4)) wNil))) wNil))))))) [some (.ref p), some pd, some (.int pr), some (.int L)] S3 q := by
    intro L S3 q hq hL d3
    simp only [wRet, wBin, wCall, wCons, wNil, wVar, wC, getV, some!]
    refine ⟨p, 4, rfl, d3.po, by decide, fun w S4 hw d4 => ?_⟩
    simp only [oAdd, oI0]
    refine ⟨p, 4, rfl, d4.po, by decide, fun k S5 hk d5 => ?_⟩
    rw [hq]
    obtain ⟨L, rfl⟩ : ∃ l : Nat, L = (l : Int) := ⟨L.toNat, by omega⟩
    obtain ⟨w, rfl⟩ : ∃ l : Nat, w = (l : Int) := ⟨w.toNat, by omega⟩
    obtain ⟨k, rfl⟩ : ∃ l : Nat, k = (l : Int) := ⟨k.toNat, by omega⟩
    exact ⟨p, pr, L, 1 + w, k, by rw [show (1 + (w : Int)) = ((1 + w : Nat) : Int) by omega], d5.po, hpp, by omega, by omega, by omega, fun n e S6 hn _ _ d6 => h n e _ _ S6 hn (dr_trans d3 (dr_trans d4 (dr_trans d5 d6)))⟩
  have dd := dr_trans d1 d2
  refine seq_k fun q4 n4 r4 _ _ x4 => ?_
  simp only [wIf, wTest, wBin, wCall, wCons, wNil, wVar, wC, getV, some!]
  refine ⟨p, 3, rfl, dd.po, by decide, fun k S3 hk d3 => ?_⟩
  simp only [oEq, shD_int, eqD_int, true_and]
  by_cases h3 : decide (k = 0) = true
  · rw [if_pos h3]
    simp only [wSet, wBin, wCall, wCons, wNil, wVar, wC, getV, setV, some!]
    refine ⟨p, 9, rfl, d3.po, by decide, fun r S4 hr d4 => ?_⟩
    simp only [oAdd, oI0]
    exact n4 _ _ (fin _ _ _ rfl (by omega) (dr_trans dd (dr_trans d3 d4)))
  · rw [if_neg h3]
    exact n4 _ _ (fin _ _ _ rfl (by omega) (dr_trans dd d3))
theorem odd_of {d : D} {L : Nat} (h1 : isLet L d = false) (h2 : ∀ S, ∃ n, tyN S d = some n) (h3 : plain 5 d) : Odd L d := ⟨h1, h2, h3⟩
theorem e1030 : (10 : Int) ^ Int.toNat 30 = 1000000000000000000000000000000 := by decide +kernel
theorem len__law_no_letter (c : Cl) : ∀ ds S Q E, sp__law_no_letter c ds S Q E → ds.length = 2 := by
  rintro ds S Q E ⟨_, _, rfl, _⟩; rfl
theorem odd_int {L : Nat} {i : Int} (h : i < 0 ∨ (L : Int) ≤ i) : Odd L (.int i) := ⟨decide_eq_false (by omega), fun _ => ⟨_, rfl⟩, trivial⟩
theorem rd__law_no_letter (c : Cl) : ∀ ds S Q X1, sp__law_no_letter c ds S Q X1 → w__law_no_letter c (startD N__law_no_letter_ ds) S (endQ Q X1) := by
  rintro ds S Q X1 ⟨p, L, rfl, hS, hL, h⟩
  show w__law_no_letter c [some (.ref p), some (.int (L : Nat)), none] S (endQ Q X1)
  unfold w__law_no_letter
  refine seq_k fun q1 n1 r1 _ _ x1 => ?_
  simp only [wSet, wCall, wCons, wNil, wVar, wC, getV, setV, some!]
  refine ⟨p, 9, rfl, hS, by decide, fun k S1 hk d1 => n1 _ _ ?_⟩
  have step : ∀ (j : Int) (e : WPe) (u : WPs) (q : QS), q.rt = (endQ Q X1).rt → (decide (k = j) = true → e [some (.ref p), some (.int (L : Nat)), some (.int k)] S1 (endQ Q X1).rt (xcQ q [some (.ref p), some (.int (L : Nat)), some (.int k)])) → (u [some (.ref p), some (.int (L : Nat)), some (.int k)] S1 q) → wSeq (wIf (wTest (wBin oEq (wVar 2) (wC (.int j)))) (wRet e) wNext) u [some (.ref p), some (.int (L : Nat)), some (.int k)] S1 q := by
    intro j e u q hq h1 h2
    refine seq_k fun q2 n2 r2 _ _ x2 => ?_
    simp only [wIf, wTest, wBin, wVar, wC, getV, some!, oEq, shD_int, eqD_int, true_and]
    by_cases z : decide (k = j) = true
    · rw [if_pos z]
      have := h1 z
      simp only [wRet]
      rw [r2, hq]
      have ex : xcQ q2 = xcQ q := by unfold xcQ; rw [x2]
      rw [ex]
      exact this
    · rw [if_neg z]
      exact n2 _ _ h2
  refine step 0 _ _ _ rfl (fun _ => ?_) ?_
  · simp only [wVar, getV, some!]
    exact h _ _ (odd_int (by omega)) d1
  refine step 1 _ _ _ rfl (fun _ => ?_) ?_
  · simp only [wBin, wUn, wCall, wCons, wNil, wVar, wC, getV, some!, oNeg]
    refine ⟨p, _, rfl, d1.po, by omega, fun r S2 hr d2 => ?_⟩
    simp only [oSub, oI0]
    exact h _ _ (odd_int (by omega)) (dr_trans d1 d2)
  refine step 2 _ _ _ rfl (fun _ => h _ _ ⟨rfl, fun _ => ⟨_, rfl⟩, trivial⟩ d1) ?_
  refine step 3 _ _ _ rfl (fun _ => h _ _ ⟨rfl, fun _ => ⟨_, rfl⟩, trivial⟩ d1) ?_
  refine step 4 _ _ _ rfl (fun _ => h _ _ ⟨rfl, fun _ => ⟨_, rfl⟩, trivial⟩ d1) ?_
  refine step 5 _ _ _ rfl (fun _ => h _ _ ⟨rfl, fun _ => ⟨_, rfl⟩, (show PyData.strOk "0" = true by decide +kernel)⟩ d1) ?_
  refine step 6 _ _ _ rfl (fun _ => ⟨show 1 ≤ sizeLine by decide, h (.tup [.int 0]) _ ⟨rfl, fun _ => ⟨_, rfl⟩, ⟨by decide, fun x hx => by rw [List.mem_singleton] at hx; subst hx; trivial⟩⟩ d1⟩) ?_
  refine step 7 _ _ _ rfl (fun _ => ?_) ?_
  · simp only [wLst, wCons, wNil, wC]
    refine ⟨show 2 ≤ sizeLine by decide, h _ _ ⟨rfl, fun _ => ⟨_, rfl⟩, ⟨by decide, fun x hx => ?_⟩⟩ d1⟩
    simp only [List.mem_cons, List.not_mem_nil, or_false] at hx
    rcases hx with rfl | rfl <;> trivial
  simp only [wRet, wBin, wCall, wCons, wNil, wVar, wC, getV, some!, oAdd, oI0, oPow, oI, e1030]
  refine ⟨by unfold CPow; decide, p, _, rfl, d1.po, by decide, fun r S2 hr d2 => ?_⟩
  exact h _ _ (odd_int (by omega)) (dr_trans d1 d2)

end K09

set_option Elab.async false
set_option linter.all false
set_option maxRecDepth 100000
set_option maxHeartbeats 1000000

namespace K09
open PySem PySem.Spec PyProof.Rows L2 DL
theorem plain_beg {w L k : Nat} {n : NetV} {rows : List Rw} (hn : NetOk w L n) : plain (k + 4) (begD n rows) := ⟨by show 2 ≤ 1000; decide, fun x hx => by
  rcases List.mem_cons.mp hx with rfl | hx
  · exact trivial
  · rcases List.mem_cons.mp hx with rfl | hx
    · exact plain_sums hn
    · cases hx⟩
theorem eqv_dM (a b : Mat) : PyData.eqv (toP (dM a)) (toP (dM b)) = decide (a = b) := eqvAll_map eqv_dT a b
theorem eqv_dMs (a b : List Mat) : PyData.eqv (toP (.tup (a.map dM))) (toP (.tup (b.map dM))) = decide (a = b) := eqvAll_map eqv_dM a b
theorem okP_dM {m : Mat} : okP 2 (toP (dM m)) := okP_tup fun x hx => by
  obtain ⟨v, _, rfl⟩ := List.mem_map.mp hx
  exact okP_dT
theorem shD_beg {S : Sto} {n : NetV} {r : List Rw} : shD S (begD n r) = true := by
  refine shaped_of (n := 4) (okP_tup fun x hx => ?_) (by decide)
  rcases List.mem_cons.mp hx with rfl | hx
  · exact okP_int
  · rcases List.mem_cons.mp hx with rfl | hx
    · exact okP_tup fun y hy => by
        obtain ⟨m, _, rfl⟩ := List.mem_map.mp hy
        exact okP_dM
    · cases hx
theorem len_Sums_twin (c : Cl) : ∀ ds S Q E, sp_Sums_twin c ds S Q E → ds.length = 1 := by
  rintro ds S Q E ⟨_, _, _, _, _, _, rfl, _⟩; rfl
theorem rd_Sums_twin (c : Cl) : ∀ ds S Q X1, sp_Sums_twin c ds S Q X1 → w_Sums_twin c (startD N_Sums_twin_ ds) S (endQ Q X1) := by
  rintro ds S Q X1 ⟨a, n, e, rows, w, L, rfl, hn, hA, h⟩
  show w_Sums_twin c [some (.ref a), none] S (endQ Q X1)
  unfold w_Sums_twin
  obtain ⟨f0, _, _⟩ := sumFld hA
  refine seq_k fun q1 n1 r1 _ _ x1 => ?_
  simp only [wSet, wMake, wCons, wNil, wFld, wVar, getV, setV, some!, f0]
  intro b hb
  refine ⟨b, n, e, w, L, rfl, hn, put_same, fun S1 hB fr => ⟨rfl, n1 _ _ ?_⟩⟩
  have nab := ne_fresh hA hb
  have E1 : Ext S S1 := fun x m z => fr x m (ne_fresh z hb) ((put_ne (ne_fresh z hb)).trans z)
  have hA1 : SumsAt c S1 a n e rows := E1 _ _ hA
  obtain ⟨_, f1, _⟩ := sumFld hA1
  refine seq_k fun q2 n2 r2 _ _ x2 => ?_
  simp only [wSetF, wFld, wVar, getV, some!, f1, setF_at hB]
  refine n2 _ _ ?_
  have g2 : ∀ {m : MO}, Ext S (put S1 b m) := fun {m} x y z => (put_ne (ne_fresh z hb)).trans (E1 _ _ z)
  generalize hx2 : setV [some (dNet c n e), some (D.int (([] : List Rw).length : Nat)), some (D.tup ((sumsOf n []).map dM))] 1 (.int (rows.length : Nat)) = xs2
  have h2 : put S1 b (.ins c.Sums N_Sums xs2) b = some (.ins c.Sums N_Sums xs2) := put_same
  have E2 : Ext S (put S1 b (.ins c.Sums N_Sums xs2)) := g2
  generalize put S1 b (.ins c.Sums N_Sums xs2) = S2 at h2 E2 ⊢
  have hA2 : SumsAt c S2 a n e rows := E2 _ _ hA
  obtain ⟨_, _, f2⟩ := sumFld hA2
  refine seq_k fun q3 n3 r3 _ _ x3 => ?_
  simp only [wSetF, wFld, wVar, getV, some!, f2, setF_at h2]
  refine n3 _ _ ?_
  simp only [wRet, wVar, getV, some!]
  refine h b _ hb ?_ fun x y z => (put_ne (ne_fresh z hb)).trans (E2 _ _ z)
  subst hx2
  exact put_same
theorem rowsF_all {w L : Nat} {n : NetV} {ls : Vec} (hn : NetOk w L n) (hl : LetsOk L ls) (h : ls.length ≤ 50000) : RowsOk w L n.layers.length (rowsF n ls) := by
  have := rowsF_ok hn hl h ls.length
  rwa [List.take_length] at this
theorem dr_ext {p : Addr} {S S' S'' : Sto} (h : Dr p S S') (e : Ext S' S'') : Dr p S S'' := dr_trans h ⟨pool_ext h.po e, fun a m _ z => e a m z⟩
theorem lets_app {L : Nat} {a b : Vec} (h : LetsOk L a) (h2 : LetsOk L b) : LetsOk L (a ++ b) := fun y hy => by
  rcases List.mem_append.mp hy with z | z
  · exact h y z
  · exact h2 y z
theorem beg_ix {n : NetV} {rows : List Rw} {S : Sto} : (∀ Q, oIx S (begD n rows) (.int 0) Q = Q (.int ((rows.length : Int) % n.prime)) S) ∧ (∀ Q, oIx S (begD n rows) (.int 1) Q = Q (.tup ((sumsOf n rows).map dM)) S) :=
  ⟨oIx_eq (show seqA S (begD n rows) = some [.int ((rows.length : Int) % n.prime), .tup ((sumsOf n rows).map dM)] from rfl) rfl, oIx_eq (show seqA S (begD n rows) = some [.int ((rows.length : Int) % n.prime), .tup ((sumsOf n rows).map dM)] from rfl) rfl⟩
theorem eqD_beg {S : Sto} {n n' : NetV} {r r' : List Rw} : eqD S (begD n r) (begD n' r') = decide (begK n r = begK n' r') := by
  show (PyData.eqv (toP (.int ((r.length : Int) % n.prime))) (toP (.int ((r'.length : Int) % n'.prime))) && (PyData.eqv (toP (.tup ((sumsOf n r).map dM))) (toP (.tup ((sumsOf n' r').map dM))) && true)) = _
  rw [eqv_int, eqv_dMs]
  unfold begK
  simp only [Prod.mk.injEq, Bool.and_true, Bool.decide_and]
theorem len_Sums___eq__ (c : Cl) : ∀ ds S Q E, sp_Sums___eq__ c ds S Q E → ds.length = 2 := by
  rintro ds S Q E ⟨_, _, _, _, _, _, (⟨_, _, _, _, rfl, _⟩ | ⟨_, _, rfl, _⟩)⟩ <;> rfl
theorem rd_Sums___eq__ (c : Cl) : ∀ ds S Q X1, sp_Sums___eq__ c ds S Q X1 → w_Sums___eq__ c (startD N_Sums___eq___ ds) S (endQ Q X1) := by
  rintro ds S Q X1 ⟨a, n, e, rows, hp, hA, (⟨b, n', e', rows', rfl, hp', hB, h⟩ | ⟨d, nm, rfl, h1, h2, h⟩)⟩
  · show w_Sums___eq__ c [some (.ref a), some (.ref b)] S (endQ Q X1)
    unfold w_Sums___eq__
    obtain ⟨_, f1, _⟩ := sumFld hA
    obtain ⟨_, g1, _⟩ := sumFld hB
    refine seq_k fun q1 n1 r1 _ _ x1 => ?_
    simp only [wIf, wNot, wTest, wIsO, wVar, getV, some!]
    refine .inl ⟨isS_at hB, ?_⟩
    simp only [Bool.not_true, Bool.false_eq_true, if_false, wNext]
    refine n1 _ _ ?_
    simp only [wRet, wAndV, wBin, wFld, wMeth, wCons, wNil, wVar, getV, some!, f1, g1, oEq, shD_int, eqD_int, true_and, decide_eq_true_eq]
    by_cases z : ((rows.length : Nat) : Int) = ((rows'.length : Nat) : Int)
    · rw [if_pos z]
      refine ⟨isS_at hA, a, n, e, rows, rfl, hp, hA, isS_at hB, b, n', e', rows', rfl, hp', hB, shD_beg, shD_beg, ?_⟩
      rw [eqD_beg]
      rw [decide_eq_true (show rows.length = rows'.length by omega), Bool.true_and] at h
      exact h
    · rw [if_neg z]
      rw [decide_eq_false (show ¬ rows.length = rows'.length by omega), Bool.false_and] at h
      exact h
  · show w_Sums___eq__ c [some (.ref a), some d] S (endQ Q X1)
    unfold w_Sums___eq__
    refine seq_k fun q1 n1 r1 _ _ x1 => ?_
    simp only [wIf, wNot, wTest, wIsO, wVar, getV, some!]
    refine .inr ⟨⟨nm, h1, h2⟩, ?_⟩
    simp only [Bool.not_false, if_true, wRet, wC]
    rw [r1]; exact h
theorem len__law_read (c : Cl) : ∀ ds S Q E, sp__law_read c ds S Q E → ds.length = 2 := by
  rintro ds S Q E ⟨_, _, _, _, _, _, _, rfl, _⟩; rfl
theorem rd__law_read (c : Cl) : ∀ ds S Q X1, sp__law_read c ds S Q X1 → w__law_read c (startD N__law_read_ ds) S (endQ Q X1) := by
  rintro ds S Q X1 ⟨a, n, e, rows, d, w, L, rfl, hn, hr, h60, hA, hk, hno, hyes⟩
  show w__law_read c [some (.ref a), some d, none] S (endQ Q X1)
  unfold w__law_read
  simp only [wTryM]
  simp only [wRet, wTup, wMeth, wCons, wNil, wC, wVar, getV, some!]
  refine ⟨isS_at hA, a, n, e, rows, d, w, L, rfl, hn, hr, h60, hA, hk, fun hi => ?_, fun l hd hl S1 hA' fr => ⟨show 2 ≤ sizeLine by decide, hyes l hd hl S1 hA' fr⟩⟩
  refine ⟨true, c.exL, fun _ => ⟨"letter", d, rfl, fun a dd => ?_⟩, fun z => (by cases z)⟩
  dsimp only
  refine seq_k fun q1 n1 r1 _ _ x1 => ?_
  simp only [setO, setV, wIf, wOr, wNot, wTest, wIsET, wIsE, wVar, getV, some!, List.map_cons, List.map_nil, c.kLo, c.kLs, Bool.false_eq_true, if_false, Bool.not_true, and_self, true_and, wNext]
  refine ⟨c.isL, c.isL, n1 _ _ ?_⟩
  simp only [wRet, wTup, wExF, wCons, wNil, wC, wVar, getV, some!, and_self, true_and]
  exact ⟨c.xfL, show 2 ≤ sizeLine by decide, hno hi _ (ext_refl S)⟩
/-! ### records -/
theorem rec_ix {r : Rec} {S : Sto} : (∀ Q, oIx S (dRec r) (.int 0) Q = Q (.ref r.a) S) ∧ (∀ Q, oIx S (dRec r) (.int 1) Q = Q (.int (r.i : Nat)) S) ∧ (∀ Q, oIx S (dRec r) (.int 2) Q = Q (.ref r.ll) S) ∧ (∀ Q, oIx S (dRec r) (.int 3) Q = Q (.ref r.rr) S) := by
  have hs : seqA S (dRec r) = some [.ref r.a, .int (r.i : Nat), .ref r.ll, .ref r.rr] := rfl
  exact ⟨oIx_eq hs rfl, oIx_eq hs rfl, oIx_eq hs rfl, oIx_eq hs rfl⟩
theorem plans_ix {ps : List Pl} {S : Sto} {i : Nat} {n : NetV} {e : Option Int} (h : ps[i]? = some (n, e)) (Q : Qd) : oIx S (dPlans ps) (.int (i : Nat)) Q = Q (dPlan n e) S :=
  oIx_eq (show seqA S (dPlans ps) = some (ps.map fun p => dPlan p.1 p.2) from rfl) (at_k (by rw [List.getElem?_map, h]; rfl)) Q
theorem nets_ix {c : Cl} {ps : List Pl} {S : Sto} {i : Nat} {n : NetV} {e : Option Int} (h : ps[i]? = some (n, e)) (Q : Qd) : oIx S (dNets c ps) (.int (i : Nat)) Q = Q (dNet c n e) S :=
  oIx_eq (show seqA S (dNets c ps) = some (ps.map fun p => dNet c p.1 p.2) from rfl) (at_k (by rw [List.getElem?_map, h]; rfl)) Q
theorem rec_keep {c : Cl} {S S' : Sto} {ps : List Pl} {r : Rec} {n : NetV} {e : Option Int} {w L : Nat} (h : RecAt c S ps r n e w L) (k : ∀ x m, x ∈ adr r → S x = some m → S' x = some m) : RecAt c S' ps r n e w L :=
  ⟨h.ix, h.hn, h.lo, h.le, k _ _ List.mem_cons_self h.su, k _ _ (List.mem_cons_of_mem _ List.mem_cons_self) h.hl, k _ _ (List.mem_cons_of_mem _ (List.mem_cons_of_mem _ List.mem_cons_self)) h.hr⟩
theorem rec_ext {c : Cl} {S S' : Sto} {ps : List Pl} {r : Rec} {n : NetV} {e : Option Int} {w L : Nat} (h : RecAt c S ps r n e w L) (E : Ext S S') : RecAt c S' ps r n e w L := rec_keep h fun x m _ z => E x m z
theorem rec_dr {c : Cl} {S S' : Sto} {ps : List Pl} {r : Rec} {n : NetV} {e : Option Int} {w L : Nat} {p : Addr} (h : RecAt c S ps r n e w L) (hp : p ∉ adr r) (d : Dr p S S') : RecAt c S' ps r n e w L := rec_keep h fun x m hx z => d.ex x m (fun y => hp (y ▸ hx)) z
theorem rec_rows {c : Cl} {S : Sto} {ps : List Pl} {r : Rec} {n : NetV} {e : Option Int} {w L : Nat} (h : RecAt c S ps r n e w L) : RowsOk w L n.layers.length (rowsF n r.ls) := rowsF_all h.hn h.lo (by have := h.le; omega)
theorem rec_len {c : Cl} {S : Sto} {ps : List Pl} {r : Rec} {n : NetV} {e : Option Int} {w L : Nat} (h : RecAt c S ps r n e w L) (Q : Qd) : oLen S [.ref r.ll] Q = Q (.int (r.ls.length : Nat)) S := by rw [oLen_at (seqA_at h.hl), List.length_map]
theorem len__law_own (c : Cl) : ∀ ds S Q E, sp__law_own c ds S Q E → ds.length = 2 := by
  rintro ds S Q E ⟨_, _, _, _, _, _, rfl, _⟩; rfl
theorem rd__law_own (c : Cl) : ∀ ds S Q X1, sp__law_own c ds S Q X1 → w__law_own c (startD N__law_own_ ds) S (endQ Q X1) := by
  rintro ds S Q X1 ⟨ps, r, n, e, w, L, rfl, hR, h⟩
  show w__law_own c [some (dPlans ps), some (dRec r), none] S (endQ Q X1)
  unfold w__law_own
  have hp := prime_pos hR.hn
  obtain ⟨j0, j1, j2, j3⟩ := rec_ix (r := r) (S := S)
  have ip := fun Q => plans_ix (S := S) hR.ix Q
  obtain ⟨i0, _⟩ := plan_ix (n := n) (e := e) (S := S)
  have ol := fun Q => rec_len hR Q
  refine seq_k fun q1 n1 r1 _ _ x1 => ?_
  simp only [wSet, wBin, wC, wVar, getV, setV, some!, j1, ip]
  refine n1 _ _ ?_
  simp only [wRet, wTup, wBin, wCall, wCB, wCons, wNil, wC, wVar, getV, some!, j2, ol, oInt, one, i0, oMod, oI, j3]
  refine ⟨hp.1, n, e, .ref r.rr, rowsF n r.ls, w, L, rfl, seqA_at hR.hr, hR.hn, rec_rows hR, fun S' E => ⟨show 2 ≤ sizeLine by decide, ?_⟩⟩
  have := h S' E
  unfold begD at this
  rwa [rowsF_len] at this
theorem len__law_is_so (c : Cl) : ∀ ds S Q E, sp__law_is_so c ds S Q E → ds.length = 2 := by
  rintro ds S Q E ⟨_, _, _, _, _, _, rfl, _⟩; rfl
theorem rd__law_is_so (c : Cl) : ∀ ds S Q X1, sp__law_is_so c ds S Q X1 → w__law_is_so c (startD N__law_is_so_ ds) S (endQ Q X1) := by
  rintro ds S Q X1 ⟨ps, r, n, e, w, L, rfl, hR, h⟩
  show w__law_is_so c [some (dPlans ps), some (dRec r), none] S (endQ Q X1)
  unfold w__law_is_so
  have hp := prime_pos hR.hn
  refine seq_k fun q1 n1 r1 _ _ x1 => ?_
  simp only [wSet, wCall, wCons, wNil, wVar, getV, setV, some!]
  refine ⟨ps, r, n, e, w, L, rfl, hR, fun S1 E1 => n1 _ _ ?_⟩
  have hR1 := rec_ext hR E1
  obtain ⟨j0, j1, j2, j3⟩ := rec_ix (r := r) (S := S1)
  obtain ⟨_, f1, f2⟩ := sumFld hR1.su
  obtain ⟨_, b1⟩ := beg_ix (n := n) (rows := rowsF n r.ls) (S := S1)
  have ol := fun Q => rec_len hR1 Q
  refine seq_k fun q2 n2 r2 _ _ x2 => ?_
  simp only [wIf, wOr, wNot, wTest, wCall, wCB, wBin, wFld, wC, wCons, wNil, wVar, getV, some!, j0, f1, j2, ol, rowsF_len]
  refine same_go trivial ?_
  simp only [Bool.not_true, Bool.false_eq_true, if_false, j0, f2, b1]
  refine same_go (plain_sums hR.hn) ?_
  simp only [Bool.not_true, Bool.false_eq_true, if_false, wNext]
  refine n2 _ _ ?_
  simp only [wRet, wCall, wMeth, wBin, wC, wCons, wNil, wVar, getV, some!, j0]
  exact ⟨isS_at hR1.su, r.a, n, e, _, rfl, hp.1, hR1.su, same_go (plain_beg hR.hn) (h S1 E1)⟩
theorem len__law_reads (c : Cl) : ∀ ds S Q E, sp__law_reads c ds S Q E → ds.length = 3 := by
  rintro ds S Q E ⟨_, _, _, _, _, _, _, rfl, _⟩; rfl
theorem rd__law_reads (c : Cl) : ∀ ds S Q X1, sp__law_reads c ds S Q X1 → w__law_reads c (startD N__law_reads_ ds) S (endQ Q X1) := by
  rintro ds S Q X1 ⟨p, ps, r, n, e, w, L, rfl, hS, hR, hp, hlr, h1000, h⟩
  have hn := hR.hn
  have hL := hn.l1
  have npa : r.a ≠ p := fun z => hp (z ▸ List.mem_cons_self)
  have npl : r.ll ≠ p := fun z => hp (z ▸ List.mem_cons_of_mem _ List.mem_cons_self)
  have npr : r.rr ≠ p := fun z => hp (z ▸ List.mem_cons_of_mem _ (List.mem_cons_of_mem _ List.mem_cons_self))
  have nal : r.a ≠ r.ll := fun z => by
    have h1 := hR.su
    unfold SumsAt at h1
    rw [z, hR.hl] at h1; cases h1
  have nar : r.a ≠ r.rr := fun z => by
    have h1 := hR.su
    unfold SumsAt at h1
    rw [z, hR.hr] at h1; cases h1
  show w__law_reads c [some (.ref p), some (dPlans ps), some (dRec r), none, none, none] S (endQ Q X1)
  unfold w__law_reads
  have J := fun S => rec_ix (r := r) (S := S)
  have ip := fun Q => plans_ix (S := S) hR.ix Q
  obtain ⟨j0, j1, j2, j3⟩ := J S
  refine seq_k fun q1 n1 r1 _ _ x1 => ?_
  simp only [wSet, wBin, wC, wVar, getV, setV, some!, j1, ip]
  refine n1 _ _ ?_
  obtain ⟨_, i1, _⟩ := plan_ix (n := n) (e := e) (S := S)
  have ole : ∀ Q, oLen S [dML n.embed] Q = Q (.int (L : Nat)) S := fun Q => by rw [oLen_at (S := S) (d := dML n.embed) rfl, List.length_map, hn.em.1]
  refine seq_k fun q2 n2 r2 _ _ x2 => ?_
  simp only [wSet, wCall, wCB, wBin, wCons, wNil, wC, wVar, getV, setV, some!, i1, ole]
  refine ⟨p, ((L : Nat) : Int), rfl, hS, ⟨by omega, by omega⟩, fun l S1 hl d1 => n2 _ _ ?_⟩
  have hR1 := rec_dr hR hp d1
  obtain ⟨j0, j1, j2, j3⟩ := J S1
  have hro := rec_rows hR
  refine seq_k fun q3 n3 r3 _ _ x3 => ?_
  simp only [wSet, wCall, wBin, wCons, wNil, wC, wVar, getV, setV, some!, j3]
  refine ⟨n, e, .ref r.rr, rowsF n r.ls, l, 0, w, L, rfl, seqA_at hR1.hr, Nat.zero_le _, hn, hro, hl, fun S2 E2 => n3 _ _ ?_⟩
  rw [List.drop_zero, ← rowF_rowB]
  have hR2 := rec_ext hR1 E2
  have hS2 := pool_ext d1.po E2
  have hrw := row_ok hn hro hl
  obtain ⟨j0, j1, j2, j3⟩ := J S2
  refine seq_k fun q4 n4 r4 _ _ x4 => ?_
  simp only [wIf, wNot, wTest, wCall, wTup, wBin, wCons, wNil, wC, wVar, getV, some!, j0]
  refine ⟨r.a, n, e, rowsF n r.ls, .int l, w, L, rfl, hn, hro, by rw [rowsF_len]; have := hR.le; omega, hR2.su, kn_int l, fun hno => ?_, fun l' hl' _ S3 hA3 fr3 => ?_⟩
  · rw [isLet_int hl] at hno; cases hno
  obtain rfl := D.int.inj hl'
  have ir : ∀ Q, oIx S3 (dRw (rowF n (rowsF n r.ls) l)) (.int 1) Q = Q (dT (rowF n (rowsF n r.ls) l).wts) S3 := oIx_eq (show seqA S3 (dRw (rowF n (rowsF n r.ls) l)) = some [.tup ((rowF n (rowsF n r.ls) l).pairs.map dP), dT (rowF n (rowsF n r.ls) l).wts] from rfl) rfl
  simp only [ir]
  refine ⟨show 2 ≤ sizeLine by decide, same_go (plain_two ok_told (plain_dT (k := 5) (by rw [hrw.wt.1]; omega))) ?_⟩
  simp only [Bool.not_true, Bool.false_eq_true, if_false, wNext]
  refine n4 _ _ ?_
  have hl3 := fr3 _ _ (Ne.symm nal) hR2.hl
  have hr3 := fr3 _ _ (Ne.symm nar) hR2.hr
  have hS3 : PoolAt S3 p := by
    obtain ⟨x1, x2, x3, x4, h1, h2⟩ := hS2
    exact ⟨x1, x2, x3, x4, fr3 _ _ (Ne.symm npa) h1, h2⟩
  have fS3 : ∀ x m, x ∉ p :: adr r → S x = some m → S3 x = some m := fun x m hx z => by
    have h1 : x ≠ p := fun y => hx (y ▸ List.mem_cons_self)
    have h2 : x ≠ r.a := fun y => hx (y ▸ List.mem_cons_of_mem _ List.mem_cons_self)
    exact fr3 x m h2 (E2 _ _ (d1.ex x m h1 z))
  rw [← rowsF_snoc] at hA3
  obtain ⟨j0, j1, j2, j3⟩ := J S3
  refine seq_k fun q5 n5 r5 _ _ x5 => ?_
  simp only [wDrop, wMt, wBin, wCons, wNil, wC, wVar, getV, some!, j2, mutL, hl3, oAppend, one, List.length_map]
  refine ⟨by unfold sizeLine; omega, n5 _ _ ?_⟩
  have hl4 : put S3 r.ll (.lst (r.ls.map D.int ++ [.int l])) r.ll = some (.lst ((r.ls ++ [l]).map D.int)) := by rw [put_same, List.map_append]; rfl
  have hr4 : put S3 r.ll (.lst (r.ls.map D.int ++ [.int l])) r.rr = _ := (put_ne (Ne.symm hlr)).trans hr3
  have hA4 : SumsAt c (put S3 r.ll (.lst (r.ls.map D.int ++ [.int l]))) r.a n e (rowsF n (r.ls ++ [l])) := (put_ne nal).trans hA3
  have hS4 : PoolAt (put S3 r.ll (.lst (r.ls.map D.int ++ [.int l]))) p := pool_put hS3 npl
  have fS4 : ∀ x m, x ∉ p :: adr r → S x = some m → put S3 r.ll (.lst (r.ls.map D.int ++ [.int l])) x = some m := fun x m hx z => (put_ne (show x ≠ r.ll from fun y => hx (y ▸ List.mem_cons_of_mem _ (List.mem_cons_of_mem _ List.mem_cons_self)))).trans (fS3 x m hx z)
  generalize put S3 r.ll (.lst (r.ls.map D.int ++ [.int l])) = S4 at hl4 hr4 hA4 hS4 fS4
  obtain ⟨j0, j1, j2, j3⟩ := J S4
  refine seq_k fun q6 n6 r6 _ _ x6 => ?_
  simp only [wDrop, wMt, wBin, wCons, wNil, wC, wVar, getV, some!, j3, mutL, hr4, oAppend, one, List.length_map, rowsF_len]
  refine ⟨by unfold sizeLine; omega, n6 _ _ ?_⟩
  simp only [wRet, wC]
  refine h l _ hl (pool_put hS4 npr) ⟨hR.ix, hn, lets_snoc hR.lo hl, by show (r.ls ++ [l]).length ≤ 1000; rw [List.length_append, List.length_singleton]; omega, (put_ne nar).trans hA4, (put_ne hlr).trans hl4, ?_⟩ fun x m hx z => (put_ne (show x ≠ r.rr from fun y => hx (y ▸ List.mem_cons_of_mem _ (List.mem_cons_of_mem _ (List.mem_cons_of_mem _ List.mem_cons_self))))).trans (fS4 x m hx z)
  show put S4 r.rr _ r.rr = some (.lst ((rowsF n (r.ls ++ [l])).map dRw))
  rw [put_same, rowsF_snoc, List.map_append]; rfl
theorem len__law_refuses (c : Cl) : ∀ ds S Q E, sp__law_refuses c ds S Q E → ds.length = 3 := by
  rintro ds S Q E ⟨_, _, _, _, _, _, _, rfl, _⟩; rfl
theorem rd__law_refuses (c : Cl) : ∀ ds S Q X1, sp__law_refuses c ds S Q X1 → w__law_refuses c (startD N__law_refuses_ ds) S (endQ Q X1) := by
  rintro ds S Q X1 ⟨p, ps, r, n, e, w, L, rfl, hS, hR, hp, h⟩
  have hn := hR.hn
  have hL := hn.l1
  show w__law_refuses c [some (.ref p), some (dPlans ps), some (dRec r), none] S (endQ Q X1)
  unfold w__law_refuses
  have J := fun S => rec_ix (r := r) (S := S)
  have ip := fun Q => plans_ix (S := S) hR.ix Q
  obtain ⟨j0, j1, j2, j3⟩ := J S
  obtain ⟨_, i1, _⟩ := plan_ix (n := n) (e := e) (S := S)
  have ole : ∀ Q, oLen S [dML n.embed] Q = Q (.int (L : Nat)) S := fun Q => by rw [oLen_at (S := S) (d := dML n.embed) rfl, List.length_map, hn.em.1]
  refine seq_k fun q1 n1 r1 _ _ x1 => ?_
  simp only [wSet, wCall, wCB, wBin, wCons, wNil, wC, wVar, getV, setV, some!, j1, ip, i1, ole]
  refine ⟨p, L, rfl, hS, hL, fun d S1 hodd d1 => n1 _ _ ?_⟩
  have hR1 := rec_dr hR hp d1
  obtain ⟨j0, j1, j2, j3⟩ := J S1
  simp only [wRet, wAndV, wTup, wCall, wBin, wCons, wNil, wC, wVar, getV, some!, j0]
  refine ⟨r.a, n, e, rowsF n r.ls, d, w, L, rfl, hn, rec_rows hR, by rw [rowsF_len]; have := hR.le; omega, hR1.su, hodd.2.1 S1, fun _ S2 E2 => ⟨show 2 ≤ sizeLine by decide, same_go (plain_two ok_letter (plain_mono hodd.2.2)) ?_⟩, fun l hd hlt => ?_⟩
  · dsimp only
    rw [if_pos rfl]
    exact ⟨ps, r, n, e, w, L, rfl, rec_ext hR1 E2, fun S3 E3 => h S3 (dr_ext (dr_ext d1 E2) E3)⟩
  · exfalso
    have := hodd.1
    rw [hd, isLet_int hlt] at this
    cases this

end K09

set_option Elab.async false
set_option linter.all false
set_option maxRecDepth 100000
set_option maxHeartbeats 1000000

namespace K09
open PySem PySem.Spec PyProof.Rows L2 DL
theorem res_at {S : Sto} {p : Addr} {xs : List D} (h : S p = some (.lst xs)) : resD S (.ref p) = .lst xs := by
  show (match S p with | some (.lst xs) => D.lst xs | _ => .ref p) = _
  rw [h]
theorem shD_ref {S : Sto} {p : Addr} {v : Vec} (h : S p = some (.lst (v.map D.int))) : shD S (.ref p) = true := by
  unfold shD; rw [res_at h]; exact shaped_of okP_dL (by decide)
theorem eqD_ref {S : Sto} {p q : Addr} {v u : Vec} (h : S p = some (.lst (v.map D.int))) (h2 : S q = some (.lst (u.map D.int))) : eqD S (.ref p) (.ref q) = decide (v = u) := by
  unfold eqD; rw [res_at h, res_at h2]; exact eqv_dL v u
theorem eqO_go {c : Cl} {S : Sto} {a b : Addr} {n n' : NetV} {e e' : Option Int} {ls ls' : Vec} {Q : Qd} (hp : 0 < n.prime) (hp' : 0 < n'.prime) (ha : SumsAt c S a n e (rowsF n ls)) (hb : SumsAt c S b n' e' (rowsF n' ls')) (q : Q (.bl (decide (ls.length = ls'.length) && decide (begK n (rowsF n ls) = begK n' (rowsF n' ls')))) S) : oEqO c.Sums N_Sums (sp_Sums___eq__ c) S (.ref a) (.ref b) Q := by
  refine ⟨isS_at ha, .inl (isS_at hb), a, n, e, _, hp, ha, .inl ⟨b, n', e', _, rfl, hp', hb, ⟨_, rfl, ?_⟩⟩⟩
  rw [rowsF_len, rowsF_len]; exact q
theorem neO_go {c : Cl} {S : Sto} {a b : Addr} {n n' : NetV} {e e' : Option Int} {ls ls' : Vec} {Q : Qd} (hp : 0 < n.prime) (hp' : 0 < n'.prime) (ha : SumsAt c S a n e (rowsF n ls)) (hb : SumsAt c S b n' e' (rowsF n' ls')) (q : Q (.bl (!(decide (ls.length = ls'.length) && decide (begK n (rowsF n ls) = begK n' (rowsF n' ls'))))) S) : oNeO c.Sums N_Sums (sp_Sums___eq__ c) S (.ref a) (.ref b) Q := by
  refine ⟨isS_at ha, .inl (isS_at hb), a, n, e, _, hp, ha, .inl ⟨b, n', e', _, rfl, hp', hb, ⟨_, rfl, ?_⟩⟩⟩
  rw [rowsF_len, rowsF_len]; exact q
theorem eqO_no {c : Cl} {S : Sto} {a : Addr} {n : NetV} {e : Option Int} {rows : List Rw} {d : D} {nm : String} {Q : Qd} (hp : 0 < n.prime) (ha : SumsAt c S a n e rows) (h1 : tyN S d = some nm) (h2 : (fastBuiltinMro nm).isSome = true) (q : Q (.bl false) S) : oEqO c.Sums N_Sums (sp_Sums___eq__ c) S (.ref a) d Q :=
  ⟨isS_at ha, .inr ⟨nm, h1, h2⟩, a, n, e, _, hp, ha, .inr ⟨d, nm, rfl, h1, h2, ⟨_, rfl, q⟩⟩⟩
theorem neO_no {c : Cl} {S : Sto} {a : Addr} {n : NetV} {e : Option Int} {rows : List Rw} {d : D} {nm : String} {Q : Qd} (hp : 0 < n.prime) (ha : SumsAt c S a n e rows) (h1 : tyN S d = some nm) (h2 : (fastBuiltinMro nm).isSome = true) (q : Q (.bl true) S) : oNeO c.Sums N_Sums (sp_Sums___eq__ c) S (.ref a) d Q :=
  ⟨isS_at ha, .inr ⟨nm, h1, h2⟩, a, n, e, _, hp, ha, .inr ⟨d, nm, rfl, h1, h2, ⟨_, rfl, q⟩⟩⟩
theorem len__law_compared (c : Cl) : ∀ ds S Q E, sp__law_compared c ds S Q E → ds.length = 4 := by
  rintro ds S Q E ⟨_, _, _, _, _, _, _, _, _, _, _, _, rfl, _⟩; rfl
theorem rd__law_compared (c : Cl) : ∀ ds S Q X1, sp__law_compared c ds S Q X1 → w__law_compared c (startD N__law_compared_ ds) S (endQ Q X1) := by
  rintro ds S Q X1 ⟨p, ps, r, n, e, w, L, r', n', e', w', L', rfl, hS, hR, hR', hp, hp', h⟩
  have hpp := (prime_pos hR.hn).1
  have hpp' := (prime_pos hR'.hn).1
  show w__law_compared c [some (.ref p), some (dPlans ps), some (dRec r), some (dRec r'), none, none] S (endQ Q X1)
  unfold w__law_compared
  have J := fun S => rec_ix (r := r) (S := S)
  have J' := fun S => rec_ix (r := r') (S := S)
  obtain ⟨j0, j1, j2, j3⟩ := J S
  obtain ⟨k0, k1, k2, k3⟩ := J' S
  have ol := fun Q => rec_len hR Q
  have ol' := fun Q => rec_len hR' Q
  refine seq_k fun q1 n1 r1 _ _ x1 => ?_
  have key : ∀ (S1 : Sto) (b : Bool), b = (decide (r.ls.length = r'.ls.length) && decide (begK n (rowsF n r.ls) = begK n' (rowsF n' r'.ls))) → Ext S S1 →
      q1.nx [some (.ref p), some (dPlans ps), some (dRec r), some (dRec r'), some (.bl b), none] S1 := by
    intro S1 b hb E1
    refine n1 _ _ ?_
    have hR1 := rec_ext hR E1
    have hR1' := rec_ext hR' E1
    obtain ⟨j0, j1, j2, j3⟩ := J S1
    obtain ⟨k0, k1, k2, k3⟩ := J' S1
    refine seq_k fun q2 n2 r2 _ _ x2 => ?_
    simp only [wIf, wOr, wNot, wTest, wCall, wBin, wNotV, wCons, wNil, wVar, wC, getV, some!, j0, k0]
    refine eqO_go hpp hpp' hR1.su hR1'.su ?_
    rw [← hb]
    refine same_go trivial ?_
    simp only [Bool.not_true, Bool.false_eq_true, if_false, j0, k0]
    refine neO_go hpp hpp' hR1.su hR1'.su ?_
    rw [← hb]
    refine same_go trivial ?_
    simp only [Bool.not_true, Bool.false_eq_true, if_false, wNext]
    refine n2 _ _ ?_
    have ol1 := fun Q => rec_len hR1 Q
    refine seq_k fun q3 n3 r3 _ _ x3 => ?_
    have fin : ∀ (d : D) (nm : String) (S3 : Sto), (∀ S, tyN S d = some nm) → (fastBuiltinMro nm).isSome = true → Dr p S S3 → q3.nx [some (.ref p), some (dPlans ps), some (dRec r), some (dRec r'), some (.bl b), some d] S3 := by
      intro d nm S3 h1 h2 d3
      refine n3 _ _ ?_
      have hR3 := rec_dr hR hp d3
      obtain ⟨j0, j1, j2, j3⟩ := J S3
      simp only [wRet, wAndV, wCall, wBin, wCons, wNil, wVar, wC, getV, some!, j0]
      refine eqO_no hpp hR3.su (h1 S3) h2 (same_go trivial ?_)
      simp only [if_true, j0]
      exact neO_no hpp hR3.su (h1 S3) h2 (same_go trivial (h S3 d3))
    simp only [wSet, wBin, wLst, wCall, wCB, wTup, wCons, wNil, wVar, wC, getV, setV, some!, j2, ol1]
    refine ⟨ps, r, n, e, w, L, rfl, hR1, fun S2 E2 => ⟨show 0 ≤ sizeLine by decide, show 5 ≤ sizeLine by decide, p, 5, rfl, pool_ext hS (ext_trans E1 E2), by decide, fun i S3 hi d3 => ?_⟩⟩
    have d3' : Dr p S S3 := dr_trans (dr_ext (dr_refl hS) (ext_trans E1 E2)) d3
    have hsx : seqA S3 (.lst [.non, .int (r.ls.length : Nat), begD n (rowsF n r.ls), .str "sums", .tup []]) = some [.non, .int (r.ls.length : Nat), begD n (rowsF n r.ls), .str "sums", .tup []] := rfl
    rcases (show i = 0 ∨ i = 1 ∨ i = 2 ∨ i = 3 ∨ i = 4 by omega) with rfl | rfl | rfl | rfl | rfl
    · dsimp only; rw [oIx_eq hsx rfl]; exact fin _ "NoneType" S3 (fun _ => rfl) mro_non d3'
    · dsimp only; rw [oIx_eq hsx rfl]; exact fin _ "int" S3 (fun _ => rfl) mro_int d3'
    · dsimp only; rw [oIx_eq hsx rfl]; exact fin _ "tuple" S3 (fun _ => rfl) mro_tup d3'
    · dsimp only; rw [oIx_eq hsx rfl]; exact fin _ "str" S3 (fun _ => rfl) mro_str d3'
    · dsimp only; rw [oIx_eq hsx rfl]; exact fin _ "tuple" S3 (fun _ => rfl) mro_tup d3'
  simp only [wSet, wAndV, wBin, wCall, wCB, wCons, wNil, wVar, wC, getV, setV, some!, j2, k2, ol, ol', oEq, shD_int, eqD_int, true_and, decide_eq_true_eq]
  by_cases z : ((r.ls.length : Nat) : Int) = ((r'.ls.length : Nat) : Int)
  · rw [if_pos z]
    refine ⟨ps, r, n, e, w, L, rfl, hR, fun S4 E4 => ?_⟩
    refine ⟨ps, r', n', e', w', L', rfl, rec_ext hR' E4, fun S5 E5 => ?_⟩
    simp only [shD_beg, eqD_beg, true_and]
    exact key S5 _ (by rw [decide_eq_true (show r.ls.length = r'.ls.length by omega), Bool.true_and]) (ext_trans E4 E5)
  · rw [if_neg z]
    exact key S _ (by rw [decide_eq_false (show ¬ r.ls.length = r'.ls.length by omega), Bool.false_and]) (ext_refl S)
/-! ### all records -/
theorem some_adr {c : Cl} {S : Sto} {ps : List Pl} {r : Rec} {n : NetV} {e : Option Int} {w L : Nat} (h : RecAt c S ps r n e w L) {x : Addr} (hx : x ∈ adr r) : S x ≠ none := by
  rcases List.mem_cons.mp hx with rfl | hx
  · intro z; have := h.su; unfold SumsAt at this; rw [z] at this; cases this
  rcases List.mem_cons.mp hx with rfl | hx
  · intro z; rw [h.hl] at z; cases z
  rcases List.mem_cons.mp hx with rfl | hx
  · intro z; rw [h.hr] at z; cases z
  · cases hx
theorem all_fresh {c : Cl} {S : Sto} {ps : List Pl} {A p : Addr} {B : Nat} {rs : List Rec} (h : AllR c S ps A p B rs) {x : Addr} (hx : S x = none) : x ≠ A ∧ x ≠ p ∧ ∀ r, r ∈ rs → x ∉ adr r := by
  refine ⟨(fun z => by rw [z, h.at_] at hx; cases hx), fun z => pool_ne h.po hx z, fun r hr hm => ?_⟩
  obtain ⟨⟨n, e, w, L, hR⟩, _⟩ := h.ok r hr
  exact some_adr hR hm hx
theorem all_dr {c : Cl} {S S' : Sto} {ps : List Pl} {A p : Addr} {B : Nat} {rs : List Rec} (h : AllR c S ps A p B rs) (d : Dr p S S') : AllR c S' ps A p B rs :=
  ⟨d.ex _ _ h.nA h.at_, fun r hr => by
    obtain ⟨⟨n, e, w, L, hR⟩, hB⟩ := h.ok r hr
    exact ⟨⟨n, e, w, L, rec_dr hR (h.ne r hr).2.1 d⟩, hB⟩, h.ne, h.nd, h.len, d.po, h.nA⟩
theorem all_mono {c : Cl} {S : Sto} {ps : List Pl} {A p : Addr} {B B' : Nat} {rs : List Rec} (h : AllR c S ps A p B rs) (hB : B ≤ B') : AllR c S ps A p B' rs :=
  ⟨h.at_, fun r hr => ⟨(h.ok r hr).1, Nat.le_trans (h.ok r hr).2 hB⟩, h.ne, h.nd, h.len, h.po, h.nA⟩
theorem all_ix {c : Cl} {S : Sto} {ps : List Pl} {A p : Addr} {B : Nat} {rs : List Rec} (h : AllR c S ps A p B rs) {i : Nat} {r : Rec} (hr : rs[i]? = some r) (Q : Qd) : oIx S (.ref A) (.int (i : Nat)) Q = Q (dRec r) S :=
  oIx_eq (seqA_at h.at_) (at_k (by rw [List.getElem?_map, hr]; rfl)) Q
theorem all_snoc {c : Cl} {S : Sto} {ps : List Pl} {A p : Addr} {B : Nat} {rs : List Rec} {r2 : Rec} {n : NetV} {e : Option Int} {w L : Nat} (h : AllR c S ps A p B rs) (hR : RecAt c S ps r2 n e w L) (hB : r2.ls.length ≤ B) (hlr : r2.ll ≠ r2.rr) (hx : ∀ x, x ∈ adr r2 → x ≠ A ∧ x ≠ p ∧ ∀ r, r ∈ rs → x ∉ adr r) (h6 : rs.length < 6) :
    AllR c (put S A (.lst ((rs ++ [r2]).map dRec))) ps A p B (rs ++ [r2]) := by
  have sp : ∀ (i : Nat) b, (rs ++ [r2])[i]? = some b → rs[i]? = some b ∨ (i = rs.length ∧ b = r2) := fun i q hq => by
    rcases Nat.lt_or_ge i rs.length with z | z
    · rw [List.getElem?_append_left z] at hq; exact .inl hq
    · rw [List.getElem?_append_right z] at hq
      have : i - rs.length = 0 := by
        have := lt_of_some hq
        rw [List.length_singleton] at this; omega
      rw [this] at hq
      exact .inr ⟨by omega, (Option.some.inj hq).symm⟩
  refine ⟨put_same, fun r hr => ?_, fun r hr => ?_, fun i j r s hij hi hj x hxr hxs => ?_, ?_, pool_put h.po h.nA, h.nA⟩
  · rcases List.mem_append.mp hr with z | z
    · obtain ⟨⟨n, e, w, L, hR⟩, hB⟩ := h.ok r z
      exact ⟨⟨n, e, w, L, rec_keep hR fun x m hm y => (put_ne (show x ≠ A from fun q => (h.ne r z).1 (q ▸ hm))).trans y⟩, hB⟩
    · rw [List.mem_singleton] at z; subst z
      exact ⟨⟨n, e, w, L, rec_keep hR fun x m hm y => (put_ne (hx x hm).1).trans y⟩, hB⟩
  · rcases List.mem_append.mp hr with z | z
    · exact h.ne r z
    · rw [List.mem_singleton] at z; subst z
      exact ⟨fun q => (hx _ q).1 rfl, fun q => (hx _ q).2.1 rfl, hlr⟩
  · rcases sp i r hi with z | ⟨rfl, rfl⟩
    · rcases sp j s hj with y | ⟨rfl, rfl⟩
      · exact h.nd i j r s hij z y x hxr hxs
      · exact (hx x hxs).2.2 r (List.mem_of_getElem? z) hxr
    · rcases sp j s hj with y | ⟨rfl, rfl⟩
      · exact (hx x hxr).2.2 s (List.mem_of_getElem? y) hxs
      · exact hij rfl
  · have := h.len; rw [List.length_append, List.length_singleton]; omega
theorem all_set {c : Cl} {S S' : Sto} {ps : List Pl} {A p : Addr} {B k : Nat} {rs : List Rec} {r : Rec} {ls : Vec} {n : NetV} {e : Option Int} {w L : Nat} (h : AllR c S ps A p B rs) (hr : rs[k]? = some r) (hR : RecAt c S' ps (withLs r ls) n e w L) (hB : ls.length ≤ B + 1) (po : PoolAt S' p) (fr : ∀ x m, x ∉ p :: adr r → S x = some m → S' x = some m) :
    AllR c S' ps A p (B + 1) (rs.set k (withLs r ls)) := by
  have hm := List.mem_of_getElem? hr
  have hk := lt_of_some hr
  have hnr := h.ne r hm
  have emap : (rs.set k (withLs r ls)).map dRec = rs.map dRec := by
    rw [List.map_set]
    apply List.ext_getElem?
    intro i
    rw [List.getElem?_set, List.length_map]
    by_cases z : k = i
    · subst z
      rw [if_pos rfl, if_pos hk, List.getElem?_map, hr]; rfl
    · rw [if_neg z]
  have sp : ∀ (i : Nat) b, (rs.set k (withLs r ls))[i]? = some b → (i = k ∧ b = withLs r ls) ∨ (i ≠ k ∧ rs[i]? = some b) := fun i b hb => by
    rw [List.getElem?_set] at hb
    by_cases z : k = i
    · subst z
      rw [if_pos rfl, if_pos hk] at hb
      exact .inl ⟨rfl, (Option.some.inj hb).symm⟩
    · rw [if_neg z] at hb
      exact .inr ⟨Ne.symm z, hb⟩
  have orig : ∀ (i : Nat) b, (rs.set k (withLs r ls))[i]? = some b → ∃ b', rs[i]? = some b' ∧ adr b' = adr b ∧ b'.ll = b.ll ∧ b'.rr = b.rr := fun i b hb => by
    rcases sp i b hb with ⟨rfl, rfl⟩ | ⟨_, z⟩
    · exact ⟨r, hr, rfl, rfl, rfl⟩
    · exact ⟨b, z, rfl, rfl, rfl⟩
  refine ⟨?_, fun b hb => ?_, fun b hb => ?_, fun i j b s hij hi hj x hxb hxs => ?_, by rw [List.length_set]; exact h.len, po, h.nA⟩
  · rw [emap]
    exact fr _ _ (fun z => by
      rcases List.mem_cons.mp z with z | z
      · exact h.nA z
      · exact hnr.1 z) h.at_
  · obtain ⟨i, hi⟩ := List.mem_iff_getElem?.mp hb
    rcases sp i b hi with ⟨rfl, rfl⟩ | ⟨hik, z⟩
    · exact ⟨⟨n, e, w, L, hR⟩, hB⟩
    · obtain ⟨⟨n, e, w, L, hR0⟩, hB0⟩ := h.ok b (List.mem_of_getElem? z)
      refine ⟨⟨n, e, w, L, rec_keep hR0 fun x m hx y => fr x m (fun q => ?_) y⟩, by omega⟩
      rcases List.mem_cons.mp q with q | q
      · exact (h.ne b (List.mem_of_getElem? z)).2.1 (q ▸ hx)
      · exact h.nd i k b r hik z hr x hx q
  · obtain ⟨i, hi⟩ := List.mem_iff_getElem?.mp hb
    obtain ⟨b', h1, h2, h3, h4⟩ := orig i b hi
    have := h.ne b' (List.mem_of_getElem? h1)
    rw [h2, h3, h4] at this
    exact this
  · obtain ⟨b', h1, h2, _⟩ := orig i b hi
    obtain ⟨s', h3, h4, _⟩ := orig j s hj
    rw [← h2] at hxb
    rw [← h4] at hxs
    exact h.nd i j b' s' hij h1 h3 x hxb hxs
theorem ints_inj {a b : Vec} (h : a.map D.int = b.map D.int) : a = b := by
  induction a generalizing b with
  | nil => cases b with
    | nil => rfl
    | cons y s => cases h
  | cons x r ih => cases b with
    | nil => cases h
    | cons y s =>
      rw [List.map_cons, List.map_cons] at h
      injection h with h1 h2
      injection h1 with h1
      rw [h1, ih h2]
theorem len__law_twin (c : Cl) : ∀ ds S Q E, sp__law_twin c ds S Q E → ds.length = 5 := by
  rintro ds S Q E ⟨_, _, _, _, _, _, rfl, _⟩; rfl
theorem rd__law_twin (c : Cl) : ∀ ds S Q X1, sp__law_twin c ds S Q X1 → w__law_twin c (startD N__law_twin_ ds) S (endQ Q X1) := by
  rintro ds S Q X1 ⟨p, ps, A, B, rs, r, rfl, hA, hm, h⟩
  obtain ⟨⟨n, e, w, L, hR⟩, hB⟩ := hA.ok r hm
  have hn := hR.hn
  have hS := hA.po
  obtain ⟨hAr, hp, hlr⟩ := hA.ne r hm
  have h1000 := hR.le
  show w__law_twin c [some (.ref p), some (dPlans ps), some (dNets c ps), some (.ref A), some (dRec r), none, none] S (endQ Q X1)
  unfold w__law_twin
  have J := fun S => rec_ix (r := r) (S := S)
  refine seq_k fun q1 n1 r1 _ _ x1 => ?_
  have key : ∀ (b : Addr) (S1 : Sto) (x6 : Option D), Dr p S S1 → S b = none → SumsAt c S1 b n e (rowsF n r.ls) → q1.nx [some (.ref p), some (dPlans ps), some (dNets c ps), some (.ref A), some (dRec r), some (.ref b), x6] S1 := by
    intro b S1 x6 d1 hb0 hb
    refine n1 _ _ ?_
    have hA1 := all_dr hA d1
    have hR1 := rec_dr hR hp d1
    obtain ⟨j0, j1, j2, j3⟩ := J S1
    refine seq_k fun q2 n2 r2 _ _ x2 => ?_
    have out : ∀ (rs' : List Rec) (S2 : Sto), rs.length ≤ rs'.length → AllR c S2 ps A p B rs' → RecAt c S2 ps r n e w L → SumsAt c S2 b n e (rowsF n r.ls) → q2.nx [some (.ref p), some (dPlans ps), some (dNets c ps), some (.ref A), some (dRec r), some (.ref b), x6] S2 := by
      intro rs' S2 hle hA2 hR2 hb2
      refine n2 _ _ ?_
      obtain ⟨j0, j1, j2, j3⟩ := J S2
      simp only [wRet, wCall, wLst, wBin, wCons, wNil, wC, wVar, getV, some!, j1, j2, j3]
      refine ⟨show 4 ≤ sizeLine by decide, ps, { r with a := b }, n, e, w, L, rfl, ⟨hR2.ix, hn, hR2.lo, hR2.le, hb2, hR2.hl, hR2.hr⟩, fun S3 E3 => ?_⟩
      exact h rs' S3 hle (all_dr hA2 (dr_ext (dr_refl hA2.po) E3))
    have olA : ∀ Q, oLen S1 [.ref A] Q = Q (.int (rs.length : Nat)) S1 := fun Q => by rw [oLen_at (seqA_at hA1.at_), List.length_map]
    simp only [wIf, wTest, wBin, wCB, wCons, wNil, wC, wVar, getV, some!, olA, oLt, oI0, decide_eq_true_eq]
    by_cases z : ((rs.length : Nat) : Int) < 6
    · rw [if_pos z]
      have sl : seqA S1 (.ref r.ll) = some (r.ls.map D.int) := seqA_at hR1.hl
      simp only [wDrop, wMt, wLst, wBin, wCB, wCons, wNil, wC, wVar, getV, some!, mutL, hA1.at_, j1, j2, oListM, one, sl]
      intro h1 hh1
      have E2 := ext_put (m := .lst (r.ls.map D.int)) (ext_refl S1) hh1
      have at1 : put S1 h1 (.lst (r.ls.map D.int)) h1 = some (.lst (r.ls.map D.int)) := put_same
      generalize put S1 h1 (.lst (r.ls.map D.int)) = S2 at E2 at1
      obtain ⟨k0, k1, k2, k3⟩ := J S2
      have hr2 := E2 _ _ hR1.hr
      have sr : seqA S2 (.ref r.rr) = some ((rowsF n r.ls).map dRw) := seqA_at hr2
      simp only [k3, sr, some!]
      intro h2 hh2
      have n12 : h1 ≠ h2 := fun y => by rw [← y, at1] at hh2; cases hh2
      have hh2' := ext_none E2 hh2
      have E3 := ext_put (m := .lst ((rowsF n r.ls).map dRw)) E2 hh2
      have at2 : put S2 h2 (.lst ((rowsF n r.ls).map dRw)) h2 = some (.lst ((rowsF n r.ls).map dRw)) := put_same
      have at1 : put S2 h2 (.lst ((rowsF n r.ls).map dRw)) h1 = _ := (put_ne n12).trans at1
      generalize put S2 h2 (.lst ((rowsF n r.ls).map dRw)) = S3 at E3 at1 at2
      have hA3 := all_dr hA1 (dr_ext (dr_refl hA1.po) E3)
      refine ⟨show 4 ≤ sizeLine by decide, ?_⟩
      simp only [oAppend, mutL, hA3.at_, one, List.length_map]
      refine ⟨by unfold sizeLine; omega, ?_⟩
      have hRn : RecAt c S3 ps ⟨b, r.i, h1, h2, r.ls⟩ n e w L := ⟨hR.ix, hn, hR.lo, hR.le, E3 _ _ hb, at1, at2⟩
      have h0 : ∀ x, x ∈ adr (⟨b, r.i, h1, h2, r.ls⟩ : Rec) → S x = none := fun x hx => by
        rcases List.mem_cons.mp hx with rfl | hx
        · exact hb0
        rcases List.mem_cons.mp hx with rfl | hx
        · exact dr_none d1 hh1
        rcases List.mem_cons.mp hx with rfl | hx
        · exact dr_none d1 hh2'
        · cases hx
      have hA4 := all_snoc hA3 hRn hB n12 (fun x hx => all_fresh hA (h0 x hx)) (by omega)
      have ea : rs.map dRec ++ [D.lst [.ref b, .int (r.i : Nat), .ref h1, .ref h2]] = (rs ++ [(⟨b, r.i, h1, h2, r.ls⟩ : Rec)]).map dRec := by rw [List.map_append]; rfl
      rw [ea]
      refine out _ _ (by rw [List.length_append]; exact Nat.le_add_right _ _) hA4 ?_ ?_
      · exact rec_keep (rec_ext hR1 E3) fun x m hx y => (put_ne (show x ≠ A from fun q => hAr (q ▸ hx))).trans y
      · exact (put_ne (all_fresh hA hb0).1).trans (E3 _ _ hb)
    · rw [if_neg z]
      simp only [wNext]
      exact out rs S1 (Nat.le_refl _) hA1 hR1 hb
  simp only [wIf, wTest, wBin, wCall, wCons, wNil, wC, wVar, getV, some!]
  refine ⟨p, 2, rfl, hS, by decide, fun t S1 ht d1 => ?_⟩
  have hR1 := rec_dr hR hp d1
  obtain ⟨j0, j1, j2, j3⟩ := J S1
  simp only [oEq, shD_int, eqD_int, true_and, decide_eq_true_eq]
  by_cases z : t = 0
  · rw [if_pos z]
    simp only [wSet, wMeth, wBin, wCons, wNil, wC, wVar, getV, setV, some!, j0]
    exact ⟨isS_at hR1.su, r.a, n, e, _, w, L, rfl, hn, hR1.su, fun b S2 hb0 hb E2 => key b S2 _ (dr_ext d1 E2) (dr_none d1 hb0) hb⟩
  · rw [if_neg z]
    refine seq_k fun q2 n2 r2 _ _ x2 => ?_
    have sl : seqA S1 (.ref r.ll) = some (r.ls.map D.int) := seqA_at hR1.hl
    simp only [wSet, wBin, wCB, wCons, wNil, wC, wVar, getV, setV, some!, j2, oListM, one, sl]
    intro g hg
    refine n2 _ _ ?_
    have E2 := ext_put (m := .lst (r.ls.map D.int)) (ext_refl S1) hg
    have atg : put S1 g (.lst (r.ls.map D.int)) g = some (.lst (r.ls.map D.int)) := put_same
    generalize put S1 g (.lst (r.ls.map D.int)) = S2 at E2 atg
    obtain ⟨k0, k1, k2, k3⟩ := J S2
    have iN := fun Q => nets_ix (c := c) (S := S2) hR.ix Q
    refine seq_k fun q3 n3 r3 _ _ x3 => ?_
    simp only [wSet, wCall, wBin, wCons, wNil, wC, wVar, getV, setV, some!, k1, iN]
    refine ⟨n, e, .ref g, r.ls.map D.int, w, L, rfl, hn, seqA_at atg, by rw [List.length_map]; omega, kn_ints, fun b hb => ?_, fun ls hls _ b S3 E3 hb0 hb => n3 _ _ ?_⟩
    · have hnb : firstBad L (r.ls.map D.int) = none := no_bad fun d hd => by
        obtain ⟨v, hv, rfl⟩ := List.mem_map.mp hd
        exact isLet_int (hR.lo v hv)
      rw [hnb] at hb; cases hb
    obtain rfl := ints_inj hls
    have atg3 := E3 _ _ atg
    have hl3 := E3 _ _ (E2 _ _ hR1.hl)
    obtain ⟨k0, k1, k2, k3⟩ := J S3
    refine seq_k fun q4 n4 r4 _ _ x4 => ?_
    simp only [wIf, wTest, wBin, wC, wVar, getV, some!, k2, oNe, shD_ref atg3, shD_ref hl3, eqD_ref atg3 hl3, true_and, decide_true, Bool.not_true, Bool.false_eq_true, if_false, wNext]
    refine n4 _ _ ?_
    simp only [wDrop, wMt, wCons, wNil, wC, wVar, getV, some!, mutL, atg3, oAppend, one, List.length_map]
    refine ⟨by unfold sizeLine; omega, ?_⟩
    refine key b _ _ (dr_ext d1 (ext_chg (ext_trans E2 E3) hg)) (dr_none d1 (ext_none E2 hb0)) ((put_ne fun y => ?_).trans hb)
    rw [y, atg] at hb0; cases hb0

end K09

set_option Elab.async false
set_option linter.all false
set_option maxRecDepth 100000
set_option maxHeartbeats 1000000

namespace K09
open PySem PySem.Spec PyProof.Rows L2 DL
def wT10 (c : Cl) : WPs := (wSeq (wIf (wOr (wNot (wTest (wCall (sp__law_twin c) (wCons (wVar 1) (wCons (wVar 2) (wCons (wVar 3) (wCons (wVar 4) (wCons (wBin oIx (wVar 4) (wVar 6)) wNil)))))))) (wNot (wTest (wCall (sp__law_refuses c) (wCons (wVar 1) (wCons (wVar 2) (wCons (wBin oIx (wVar 4) (wC (.int 0))) wNil))))))) (wRet (wC (.bl false))) wNext)
  (wSeq (wFor (wIt (wVar 4)) (gN 8) (wIf (wOr (wNot (wTest (wCall (sp__law_is_so c) (wCons (wVar 2) (wCons (wVar 8) wNil))))) (wNot (wTest (wCall (sp__law_compared c) (wCons (wVar 1) (wCons (wVar 2) (wCons (wVar 8) (wCons (wBin oIx (wVar 4) (wVar 6)) wNil)))))))) (wRet (wC (.bl false))) wNext))
  (wRet (wAndV (wCall (sp__law_reads c) (wCons (wVar 1) (wCons (wVar 2) (wCons (wBin oIx (wVar 4) (wBin oSub (wCB oLen (wCons (wVar 4) wNil)) (wC (.int 1)))) wNil)))) (wCall (sp__law_is_so c) (wCons (wVar 2) (wCons (wBin oIx (wVar 4) (wVar 6)) wNil)))))))
def wT9 (c : Cl) : WPs := (wSeq (wFor (wRg1 (wVar 5)) (gN 7) (wSeq (wIf (wTest (wBin oEq (wCall (sp__law_draw c) (wCons (wVar 1) (wCons (wC (.int 3)) wNil))) (wC (.int 0)))) (wSet 6 (wCall (sp__law_draw c) (wCons (wVar 1) (wCons (wCB oLen (wCons (wVar 4) wNil)) wNil)))) wNext)
  (wIf (wNot (wTest (wCall (sp__law_turn c) (wCons (wVar 1) (wCons (wVar 2) (wCons (wVar 3) (wCons (wVar 4) (wCons (wVar 6) wNil)))))))) (wRet (wC (.bl false))) wNext)))
  (wT10 c))
def wT5 (c : Cl) : WPs := (wSeq (wIf (wOr (wNot (wTest (wCall (sp__law_compared c) (wCons (wVar 1) (wCons (wVar 2) (wCons (wBin oIx (wVar 4) (wC (.int 0))) (wCons (wBin oIx (wVar 4) (wC (.int 1))) wNil))))))) (wNot (wTest (wCall (sp__law_is_so c) (wCons (wVar 2) (wCons (wBin oIx (wVar 4) (wC (.int 0))) wNil)))))) (wRet (wC (.bl false))) wNext)
  (wSeq (wSet 5 (wBin oAdd (wC (.int 12)) (wCall (sp__law_draw c) (wCons (wVar 1) (wCons (wC (.int 12)) wNil)))))
  (wSeq (wIf (wTest (wBin oEq (wCall (sp__law_draw c) (wCons (wVar 1) (wCons (wC (.int 6)) wNil))) (wC (.int 0)))) (wSet 5 (wC (.int 40))) wNext)
  (wSeq (wSet 6 (wC (.int 0)))
  (wT9 c)))))
theorem len__law_plans (c : Cl) : ∀ ds S Q E, sp__law_plans c ds S Q E → ds.length = 1 := by
  rintro ds S Q E ⟨_, rfl, _⟩; rfl
theorem rd__law_plans (c : Cl) : ∀ ds S Q X1, sp__law_plans c ds S Q X1 → w__law_plans c (startD N__law_plans_ ds) S (endQ Q X1) := by
  rintro ds S Q X1 ⟨p, rfl, hS, h⟩
  show w__law_plans c [some (.ref p), none, none, none] S (endQ Q X1)
  unfold w__law_plans
  refine seq_k fun q1 n1 r1 _ _ x1 => ?_
  simp only [wIf, wTest, wBin, wCall, wCons, wNil, wC, wVar, getV, some!]
  refine ⟨p, 2, rfl, hS, by decide, fun t S1 ht d1 => ?_⟩
  simp only [oEq, shD_int, eqD_int, true_and, decide_eq_true_eq]
  by_cases z : t = 0
  · rw [if_pos z]
    simp only [wRet, wLst, wCall, wCons, wNil, wVar, getV, some!]
    refine ⟨p, rfl, d1.po, fun n e w L S2 hn d2 => ⟨p, rfl, d2.po, fun n' e' w' L' S3 hn' d3 => ⟨show 2 ≤ sizeLine by decide, ?_⟩⟩⟩
    rw [r1]
    refine h [(n, e), (n', e')] S3 ⟨rfl, fun x hx => ?_⟩ (dr_trans d1 (dr_trans d2 d3))
    rcases List.mem_cons.mp hx with rfl | hx
    · exact ⟨_, _, hn⟩
    · rw [List.mem_singleton] at hx; subst hx; exact ⟨_, _, hn'⟩
  · rw [if_neg z]
    simp only [wNext]
    refine n1 _ _ ?_
    refine seq_k fun q2 n2 r2 _ _ x2 => ?_
    simp only [wSet, wBin, wLst, wCall, wCons, wNil, wC, wVar, getV, setV, some!]
    refine ⟨show 3 ≤ sizeLine by decide, p, 3, rfl, d1.po, by decide, fun u S2 hu d2 => ?_⟩
    have d2 := dr_trans d1 d2
    have hsx : seqA S2 (.lst [.int 2, .int 3, .int 5]) = some [.int 2, .int 3, .int 5] := rfl
    have key : ∀ pr : Int, pr ∈ thePrimes → q2.nx [some (.ref p), some (.int pr), none, none] S2 := by
      intro pr hpr
      refine n2 _ _ ?_
      refine seq_k fun q3 n3 r3 _ _ x3 => ?_
      simp only [wSet, wCall, wCons, wNil, wC, wVar, getV, setV, some!]
      refine ⟨p, 3, rfl, d2.po, by decide, fun m S3 hm d3 => n3 _ _ ?_⟩
      have d3 := dr_trans d2 d3
      obtain ⟨k, rfl⟩ : ∃ k : Nat, m = (k : Int) := ⟨m.toNat, by omega⟩
      simp only [wRet, wLc, wRg1, wC, asI, delVs, delV]
      refine ⟨by decide, by decide, compI_dr (fun x : Pl => dPlan x.1 x.2) (fun x => ∃ w L, NetOk w L x.1) d3.po (fun i dd S4 hi d4 R hR => ?_) fun ps S4 hl hok d4 => ?_⟩
      · simp only [gN, setV, wCall, wBin, wCons, wNil, wC, wVar, getV, some!]
        refine ⟨p, 3, rfl, d4.po, by decide, fun v S5 hv d5 => ?_⟩
        simp only [oAdd]
        refine ⟨p, pr, (1 + v).toNat, 1, k, by rw [show (((1 + v).toNat : Nat) : Int) = 1 + v by omega]; rfl, d5.po, hpr, by omega, by decide, by omega, fun n e S6 hn _ _ d6 => ?_⟩
        exact hR (n, e) S6 ⟨_, _, hn⟩ (dr_trans d5 d6)
      · exact h ps S4 ⟨by rw [hl]; rfl, hok⟩ (dr_trans d3 d4)
    rcases (show u = 0 ∨ u = 1 ∨ u = 2 by omega) with rfl | rfl | rfl
    · dsimp only; rw [oIx_eq hsx rfl]; exact key 2 (by decide)
    · dsimp only; rw [oIx_eq hsx rfl]; exact key 3 (by decide)
    · dsimp only; rw [oIx_eq hsx rfl]; exact key 5 (by decide)
theorem len__law_turn (c : Cl) : ∀ ds S Q E, sp__law_turn c ds S Q E → ds.length = 5 := by
  rintro ds S Q E ⟨_, _, _, _, _, _, rfl, _⟩; rfl
theorem rd__law_turn (c : Cl) : ∀ ds S Q X1, sp__law_turn c ds S Q X1 → w__law_turn c (startD N__law_turn_ ds) S (endQ Q X1) := by
  rintro ds S Q X1 ⟨p, ps, A, B, rs, k, rfl, hA, hk, hB, h⟩
  show w__law_turn c [some (.ref p), some (dPlans ps), some (dNets c ps), some (.ref A), some (.int (k : Nat)), none, none] S (endQ Q X1)
  unfold w__law_turn
  refine seq_k fun q1 n1 r1 _ _ x1 => ?_
  simp only [wSet, wCall, wCons, wNil, wC, wVar, getV, setV, some!]
  refine ⟨p, 12, rfl, hA.po, by decide, fun t S1 ht d1 => n1 _ _ ?_⟩
  have hA1 := all_dr hA d1
  obtain ⟨r, hr⟩ : ∃ r, rs[k]? = some r := ⟨_, List.getElem?_eq_getElem hk⟩
  have hm := List.mem_of_getElem? hr
  obtain ⟨⟨n, e, w, L, hR⟩, hrB⟩ := hA1.ok r hm
  obtain ⟨hAr, hp, hlr⟩ := hA1.ne r hm
  have ir := fun Q => all_ix hA1 hr Q
  refine seq_k fun q2 n2 r2 _ _ x2 => ?_
  simp only [wSet, wBin, wVar, getV, setV, some!, ir]
  refine n2 _ _ ?_
  have done : ∀ S', Dr p S1 S' → Q (.bl true) S' := fun S' d => h rs S' (Nat.le_refl _) (all_mono (all_dr hA1 d) (Nat.le_succ _))
  refine seq_k fun q3 n3 r3 _ _ x3 => ?_
  simp only [wIf, wTest, wBin, wC, wVar, getV, some!, oLt, oI0, decide_eq_true_eq]
  by_cases z : t < 7
  · rw [if_pos z]
    simp only [wRet, wCall, wCons, wNil, wVar, getV, some!]
    refine ⟨p, ps, r, n, e, w, L, rfl, hA1.po, hR, hp, hlr, by omega, fun l S2 hl po hR2 fr => ?_⟩
    rw [r3]
    exact h _ S2 (by rw [List.length_set]; exact Nat.le_refl _) (all_set hA1 hr hR2 (by rw [List.length_append, List.length_singleton]; omega) po fr)
  rw [if_neg z]
  simp only [wNext]
  refine n3 _ _ ?_
  refine seq_k fun q4 n4 r4 _ _ x4 => ?_
  simp only [wIf, wTest, wBin, wC, wVar, getV, some!, oEq, shD_int, eqD_int, true_and, decide_eq_true_eq]
  by_cases z : t = 7
  · rw [if_pos z]
    simp only [wRet, wCall, wCons, wNil, wVar, getV, some!]
    refine ⟨p, ps, r, n, e, w, L, rfl, hA1.po, hR, hp, fun S2 d2 => ?_⟩
    rw [r4]; exact done S2 d2
  rw [if_neg z]
  simp only [wNext]
  refine n4 _ _ ?_
  refine seq_k fun q5 n5 r5 _ _ x5 => ?_
  simp only [wIf, wTest, wBin, wC, wVar, getV, some!, oEq, shD_int, eqD_int, true_and, decide_eq_true_eq]
  by_cases z : t = 8
  · rw [if_pos z]
    simp only [wRet, wCall, wCons, wNil, wVar, getV, some!]
    refine ⟨p, ps, A, B, rs, r, rfl, hA1, hm, fun rs' S2 hle hA2 => ?_⟩
    rw [r5]; exact h rs' S2 hle (all_mono hA2 (Nat.le_succ _))
  rw [if_neg z]
  simp only [wNext]
  refine n5 _ _ ?_
  refine seq_k fun q6 n6 r6 _ _ x6 => ?_
  simp only [wIf, wTest, wBin, wC, wVar, getV, some!, oEq, shD_int, eqD_int, true_and, decide_eq_true_eq]
  by_cases z : t = 9
  · rw [if_pos z]
    simp only [wRet, wCall, wCons, wNil, wVar, getV, some!]
    refine ⟨ps, r, n, e, w, L, rfl, hR, fun S2 E2 => ?_⟩
    rw [r6]; exact done S2 (dr_ext (dr_refl hA1.po) E2)
  rw [if_neg z]
  simp only [wNext]
  refine n6 _ _ ?_
  have olA : ∀ Q, oLen S1 [.ref A] Q = Q (.int (rs.length : Nat)) S1 := fun Q => by rw [oLen_at (seqA_at hA1.at_), List.length_map]
  have h6 := hA1.len
  simp only [wRet, wCall, wCB, wBin, wCons, wNil, wC, wVar, getV, some!, olA]
  refine ⟨p, ((rs.length : Nat) : Int), rfl, hA1.po, ⟨by omega, by omega⟩, fun u S2 hu d2 => ?_⟩
  obtain ⟨j, rfl⟩ : ∃ j : Nat, u = (j : Int) := ⟨u.toNat, by omega⟩
  obtain ⟨r', hr'⟩ : ∃ r, rs[j]? = some r := ⟨_, List.getElem?_eq_getElem (by omega)⟩
  have hA2 := all_dr hA1 d2
  have hm' := List.mem_of_getElem? hr'
  obtain ⟨⟨n', e', w', L', hR'⟩, _⟩ := hA2.ok r' hm'
  have ij := fun Q => all_ix hA2 hr' Q
  simp only [ij]
  exact ⟨p, ps, r, n, e, w, L, r', n', e', w', L', rfl, hA2.po, rec_dr hR hp d2, hR', hp, (hA2.ne r' hm').2.1, fun S3 d3 => done S3 (dr_trans d2 d3)⟩
theorem wVar_at {i : Nat} {env : DE} {d : D} {S : Sto} {Q : Qd} {X : XQ} (h : getV env i = some d) (q : Q d S) : wVar i env S Q X := by
  show some! (getV env i) (fun d => Q d S)
  rw [h]; exact q
def wNew (c : Cl) (i : Int) : WPe := (wLst (wCons (wMake c.Sums N_Sums (sp_Sums_init c) (wCons (wBin oIx (wVar 3) (wC (.int i))) wNil)) (wCons (wC (.int i)) (wCons (wLstM wNil) (wCons (wLstM wNil) wNil)))))
theorem new_go {c : Cl} {ps : List Pl} {n : NetV} {e : Option Int} {w L k : Nat} {env : DE} {S : Sto} {Q : Qd} {X : XQ} (h3 : getV env 3 = some (dNets c ps)) (hk : ps[k]? = some (n, e)) (hn : NetOk w L n)
    (h : ∀ r S', Ext S S' → (∀ x, x ∈ adr r → S x = none) → r.ll ≠ r.rr → r.ls.length = 0 → RecAt c S' ps r n e w L → Q (dRec r) S') : wNew c (k : Nat) env S Q X := by
  unfold wNew
  have iN := fun Q => nets_ix (c := c) (S := S) hk Q
  simp only [wLst, wMake, wBin, wCons, wNil, wC, wVar, h3, some!, iN]
  intro a ha
  refine ⟨a, n, e, w, L, rfl, hn, put_same, fun S1 hA fr => ⟨rfl, ?_⟩⟩
  have E1 : Ext S S1 := fun x m z => fr x m (ne_fresh z ha) ((put_ne (ne_fresh z ha)).trans z)
  simp only [wLstM, wNil]
  refine ⟨show 0 ≤ sizeLine by decide, fun ll hll => ⟨show 0 ≤ sizeLine by decide, fun rr hrr => ⟨show 4 ≤ sizeLine by decide, ?_⟩⟩⟩
  have E2 := ext_put (m := .lst []) (ext_refl S1) hll
  have nlr : ll ≠ rr := fun z => by rw [← z, put_same] at hrr; cases hrr
  have at1 : put S1 ll (.lst []) ll = some (.lst []) := put_same
  have hr0 := ext_none E2 hrr
  generalize put S1 ll (.lst []) = S2 at E2 at1 hrr
  have E3 := ext_put (m := .lst []) (ext_refl S2) hrr
  refine h ⟨a, k, ll, rr, []⟩ _ (ext_trans E1 (ext_trans E2 E3)) (fun x hx => ?_) nlr rfl ⟨hk, hn, (fun x hx => by cases hx), Nat.zero_le _, E3 _ _ (E2 _ _ hA), (put_ne nlr).trans at1, put_same⟩
  rcases List.mem_cons.mp hx with rfl | hx
  · exact ha
  rcases List.mem_cons.mp hx with rfl | hx
  · exact ext_none E1 hll
  rcases List.mem_cons.mp hx with rfl | hx
  · exact ext_none E1 hr0
  · cases hx
theorem t10 {c : Cl} {ps : List Pl} {A p : Addr} {B k : Nat} {rs : List Rec} {S : Sto} {q : QS} {x0 x5 x7 x8 : Option D} (hA : AllR c S ps A p B rs) (hk : k < rs.length) (hB : B < 900) (h : ∀ S', q.rt (.bl true) S') :
    wT10 c [x0, some (.ref p), some (dPlans ps), some (dNets c ps), some (.ref A), x5, some (.int (k : Nat)), x7, x8] S q := by
  unfold wT10
  obtain ⟨r, hr⟩ : ∃ r, rs[k]? = some r := ⟨_, List.getElem?_eq_getElem hk⟩
  have hm := List.mem_of_getElem? hr
  have ir := fun Q => all_ix hA hr Q
  refine seq_k fun q1 n1 r1 _ _ y1 => ?_
  simp only [wIf, wOr, wNot, wTest, wCall, wBin, wCons, wNil, wC, wVar, getV, some!, ir]
  refine ⟨p, ps, A, B, rs, r, rfl, hA, hm, fun rs S1 hle hA1 => ?_⟩
  have hk : k < rs.length := by omega
  clear hr hm ir
  obtain ⟨r, hr⟩ : ∃ r, rs[k]? = some r := ⟨_, List.getElem?_eq_getElem hk⟩
  have h2 := hA1.len
  obtain ⟨r0, hr0⟩ : ∃ r, rs[0]? = some r := ⟨_, List.getElem?_eq_getElem (by omega)⟩
  obtain ⟨⟨n0, e0, w0, L0, hR0⟩, _⟩ := hA1.ok r0 (List.mem_of_getElem? hr0)
  have i0 : ∀ Q, oIx S1 (.ref A) (.int 0) Q = Q (dRec r0) S1 := fun Q => all_ix hA1 hr0 Q
  simp only [Bool.not_true, Bool.false_eq_true, if_false, i0]
  refine ⟨p, ps, r0, n0, e0, w0, L0, rfl, hA1.po, hR0, (hA1.ne r0 (List.mem_of_getElem? hr0)).2.1, fun S2 d2 => ?_⟩
  simp only [Bool.not_true, Bool.false_eq_true, if_false, wNext]
  refine n1 _ _ ?_
  have hA2 := all_dr hA1 d2
  refine seq_k fun q2 n2 r2 _ _ y2 => ?_
  simp only [wFor, wIt, wVar, getV, some!, seqA_at hA2.at_]
  refine forI_invq (fun i e' S' => AllR c S' ps A p B rs ∧ ∃ x8, e' = [x0, some (.ref p), some (dPlans ps), some (dNets c ps), some (.ref A), x5, some (.int (k : Nat)), x7, x8]) ⟨hA2, _, rfl⟩ (fun _ _ _ z => seqA_at z.1.at_) ?_ ?_
  · rintro i d e' S3 hi ⟨hA3, x8, rfl⟩ q3 hq3 _ _ _ _
    rw [List.getElem?_map] at hi
    obtain ⟨ri, hri, rfl⟩ := Option.map_eq_some_iff.mp hi
    have hmi := List.mem_of_getElem? hri
    obtain ⟨⟨ni, ei, wi, Li, hRi⟩, _⟩ := hA3.ok ri hmi
    simp only [gN, setV, wIf, wOr, wNot, wTest, wCall, wBin, wCons, wNil, wVar, getV, some!]
    refine ⟨ps, ri, ni, ei, wi, Li, rfl, hRi, fun S4 E4 => ?_⟩
    have hA4 := all_dr hA3 (dr_ext (dr_refl hA3.po) E4)
    have ik := fun Q => all_ix hA4 hr Q
    obtain ⟨⟨nk, ek, wk, Lk, hRk⟩, _⟩ := hA4.ok r (List.mem_of_getElem? hr)
    simp only [Bool.not_true, Bool.false_eq_true, if_false, ik]
    refine ⟨p, ps, ri, ni, ei, wi, Li, r, nk, ek, wk, Lk, rfl, hA4.po, rec_ext hRi E4, hRk, (hA4.ne ri hmi).2.1, (hA4.ne r (List.mem_of_getElem? hr)).2.1, fun S5 d5 => ?_⟩
    simp only [Bool.not_true, Bool.false_eq_true, if_false, wNext]
    exact hq3 _ _ ⟨all_dr hA4 d5, _, rfl⟩
  · rintro e' S3 ⟨hA3, x8, rfl⟩
    refine n2 _ _ ?_
    have olA : ∀ Q, oLen S3 [.ref A] Q = Q (.int (rs.length : Nat)) S3 := fun Q => by rw [oLen_at (seqA_at hA3.at_), List.length_map]
    obtain ⟨rl, hrl⟩ : ∃ r, rs[rs.length - 1]? = some r := ⟨_, List.getElem?_eq_getElem (by omega)⟩
    have hml := List.mem_of_getElem? hrl
    obtain ⟨⟨nl, el, wl, Ll, hRl⟩, hBl⟩ := hA3.ok rl hml
    have il : ∀ Q, oIx S3 (.ref A) (.int (((rs.length : Nat) : Int) - 1)) Q = Q (dRec rl) S3 := fun Q => by
      rw [show (((rs.length : Nat) : Int) - 1) = ((rs.length - 1 : Nat) : Int) by omega]; exact all_ix hA3 hrl Q
    simp only [wRet, wAndV, wCall, wCB, wBin, wCons, wNil, wC, wVar, getV, some!, olA, oSub, oI0, il]
    refine ⟨p, ps, rl, nl, el, wl, Ll, rfl, hA3.po, hRl, (hA3.ne rl hml).2.1, (hA3.ne rl hml).2.2, by omega, fun l S4 hl po hR4 fr => ?_⟩
    have hA4 := all_set hA3 hrl hR4 (by rw [List.length_append, List.length_singleton]; omega) po fr
    obtain ⟨rk, hrk⟩ : ∃ r, (rs.set (rs.length - 1) (withLs rl (rl.ls ++ [l])))[k]? = some r := ⟨_, List.getElem?_eq_getElem (by rw [List.length_set]; exact hk)⟩
    obtain ⟨⟨nk, ek, wk, Lk, hRk⟩, _⟩ := hA4.ok rk (List.mem_of_getElem? hrk)
    have ik := fun Q => all_ix hA4 hrk Q
    simp only [if_true, ik]
    exact ⟨ps, rk, nk, ek, wk, Lk, rfl, hRk, fun S5 E5 => h S5⟩
theorem t9 {c : Cl} {ps : List Pl} {A p : Addr} {rs : List Rec} {S : Sto} {q : QS} {x0 : Option D} {m : Nat} (hA : AllR c S ps A p 0 rs) (hm : m ≤ 40) (h : ∀ S', q.rt (.bl true) S') :
    wT9 c [x0, some (.ref p), some (dPlans ps), some (dNets c ps), some (.ref A), some (.int (m : Nat)), some (.int 0), none, none] S q := by
  unfold wT9
  refine seq_k fun q1 n1 r1 _ _ y1 => ?_
  simp only [wFor, wRg1, wVar, getV, some!, asI, Int.toNat_natCast]
  refine ⟨by omega, ?_⟩
  refine forI_invq (fun i e' S' => ∃ (rs : List Rec) (k : Nat) (x7 : Option D), AllR c S' ps A p i rs ∧ k < rs.length ∧ e' = [x0, some (.ref p), some (dPlans ps), some (dNets c ps), some (.ref A), some (.int (m : Nat)), some (.int (k : Nat)), x7, none])
    ⟨rs, 0, _, hA, by have := hA.len; omega, rfl⟩ (fun _ _ _ _ => trivial) ?_ ?_
  · clear hA
    rintro i d e' S1 hi ⟨rs, k, x7, hA, hk, rfl⟩ q2 hq2 _ _ _ _
    obtain ⟨him, rfl⟩ := rngD_get hi
    have h6 := hA.len
    simp only [gN, setV]
    refine seq_k fun q3 n3 r3 _ _ y3 => ?_
    have key : ∀ (k : Nat) (S2 : Sto), AllR c S2 ps A p i rs → k < rs.length → q3.nx [x0, some (.ref p), some (dPlans ps), some (dNets c ps), some (.ref A), some (.int (m : Nat)), some (.int (k : Nat)), some (.int (0 + (i : Int))), none] S2 := by
      intro k S2 hA2 hk
      refine n3 _ _ ?_
      simp only [wIf, wNot, wTest, wCall, wCons, wNil, wVar, getV, some!]
      refine ⟨p, ps, A, i, rs, k, rfl, hA2, hk, by omega, fun rs' S3 hle hA3 => ?_⟩
      simp only [Bool.not_true, Bool.false_eq_true, if_false, wNext]
      exact hq2 _ _ ⟨rs', k, _, hA3, by omega, rfl⟩
    simp only [wIf, wTest, wBin, wCall, wCons, wNil, wC, wVar, getV, some!]
    refine ⟨p, 3, rfl, hA.po, by decide, fun t S2 ht d2 => ?_⟩
    have hA2 := all_dr hA d2
    simp only [oEq, shD_int, eqD_int, true_and, decide_eq_true_eq]
    by_cases z : t = 0
    · rw [if_pos z]
      have olA : ∀ Q, oLen S2 [.ref A] Q = Q (.int (rs.length : Nat)) S2 := fun Q => by rw [oLen_at (seqA_at hA2.at_), List.length_map]
      simp only [wSet, wCall, wCB, wCons, wNil, wVar, getV, setV, some!, olA]
      refine ⟨p, ((rs.length : Nat) : Int), rfl, hA2.po, ⟨by omega, by omega⟩, fun u S3 hu d3 => ?_⟩
      obtain ⟨j, rfl⟩ : ∃ j : Nat, u = (j : Int) := ⟨u.toNat, by omega⟩
      exact key j S3 (all_dr hA2 d3) (by omega)
    · rw [if_neg z]
      simp only [wNext]
      exact key k S2 hA2 hk
  · rintro e' S1 ⟨rs, k, x7, hA, hk, rfl⟩
    rw [rngD_length] at hA
    refine n1 _ _ ?_
    exact t10 hA hk (by omega) h
theorem t5 {c : Cl} {ps : List Pl} {A p : Addr} {rs : List Rec} {S : Sto} {q : QS} {x0 : Option D} (hA : AllR c S ps A p 0 rs) (h : ∀ S', q.rt (.bl true) S') :
    wT5 c [x0, some (.ref p), some (dPlans ps), some (dNets c ps), some (.ref A), none, none, none, none] S q := by
  unfold wT5
  have h2 := hA.len
  obtain ⟨r0, hr0⟩ : ∃ r, rs[0]? = some r := ⟨_, List.getElem?_eq_getElem (by omega)⟩
  obtain ⟨r1', hr1⟩ : ∃ r, rs[1]? = some r := ⟨_, List.getElem?_eq_getElem (by omega)⟩
  have hm0 := List.mem_of_getElem? hr0
  have hm1 := List.mem_of_getElem? hr1
  have i0 : ∀ {S : Sto}, AllR c S ps A p 0 rs → ∀ Q, oIx S (.ref A) (.int 0) Q = Q (dRec r0) S := fun hA Q => all_ix hA hr0 Q
  have i1 : ∀ Q, oIx S (.ref A) (.int 1) Q = Q (dRec r1') S := fun Q => all_ix hA hr1 Q
  have i00 := i0 hA
  obtain ⟨⟨n0, e0, w0, L0, hR0⟩, _⟩ := hA.ok r0 hm0
  obtain ⟨⟨n1', e1, w1, L1, hR1⟩, _⟩ := hA.ok r1' hm1
  refine seq_k fun q1 n1 r1 _ _ y1 => ?_
  simp only [wIf, wOr, wNot, wTest, wCall, wBin, wCons, wNil, wC, wVar, getV, some!, i00, i1]
  refine ⟨p, ps, r0, n0, e0, w0, L0, r1', n1', e1, w1, L1, rfl, hA.po, hR0, hR1, (hA.ne r0 hm0).2.1, (hA.ne r1' hm1).2.1, fun S1 d1 => ?_⟩
  have hA1 := all_dr hA d1
  have i01 := i0 hA1
  simp only [Bool.not_true, Bool.false_eq_true, if_false, i01]
  refine ⟨ps, r0, n0, e0, w0, L0, rfl, rec_dr hR0 (hA.ne r0 hm0).2.1 d1, fun S2 E2 => ?_⟩
  simp only [Bool.not_true, Bool.false_eq_true, if_false, wNext]
  refine n1 _ _ ?_
  have hA2 := all_dr hA1 (dr_ext (dr_refl hA1.po) E2)
  refine seq_k fun q2 n2 r2 _ _ y2 => ?_
  simp only [wSet, wBin, wCall, wCons, wNil, wC, wVar, getV, setV, some!]
  refine ⟨p, 12, rfl, hA2.po, by decide, fun u S3 hu d3 => ?_⟩
  simp only [oAdd]
  refine n2 _ _ ?_
  have hA3 := all_dr hA2 d3
  refine seq_k fun q3 n3 r3 _ _ y3 => ?_
  have key : ∀ (m : Nat) (S4 : Sto), m ≤ 40 → AllR c S4 ps A p 0 rs → q3.nx [x0, some (.ref p), some (dPlans ps), some (dNets c ps), some (.ref A), some (.int (m : Nat)), none, none, none] S4 := by
    intro m S4 hm hA4
    refine n3 _ _ ?_
    refine seq_k fun q4 n4 r4 _ _ y4 => ?_
    simp only [wSet, wC, setV]
    refine n4 _ _ ?_
    exact t9 hA4 hm h
  simp only [wIf, wTest, wBin, wCall, wCons, wNil, wC, wVar, getV, some!]
  refine ⟨p, 6, rfl, hA3.po, by decide, fun t S4 ht d4 => ?_⟩
  have hA4 := all_dr hA3 d4
  simp only [oEq, shD_int, eqD_int, true_and, decide_eq_true_eq]
  by_cases z : t = 0
  · rw [if_pos z]
    simp only [wSet, wC, setV]
    exact key 40 S4 (by decide) hA4
  · rw [if_neg z]
    simp only [wNext]
    obtain ⟨m, hm⟩ : ∃ m : Nat, 12 + u = (m : Int) := ⟨(12 + u).toNat, by omega⟩
    rw [hm]
    exact key m S4 (by omega) hA4
theorem len_law (c : Cl) : ∀ ds S Q E, sp_law c ds S Q E → ds.length = 1 := by
  rintro ds S Q E ⟨_, rfl, _⟩; rfl
theorem rd_law (c : Cl) : ∀ ds S Q X1, sp_law c ds S Q X1 → w_law c (startD N_law_ ds) S (endQ Q X1) := by
  rintro ds S Q X1 ⟨cells, rfl, hcl, h⟩
  show w_law c [some (.fro (cells.map D.int)), none, none, none, none, none, none, none, none] S (endQ Q X1)
  generalize hx0 : some (D.fro (cells.map D.int)) = x0
  unfold w_law
  refine seq_k fun q1 n1 r1 _ _ x1 => ?_
  subst hx0
  simp only [wSet, wCall, wCons, wNil, wVar, getV, setV, some!]
  refine ⟨cells, rfl, hcl, fun p S1 hp hS1 E1 => n1 _ _ ?_⟩
  generalize some (D.fro (cells.map D.int)) = x0
  refine seq_k fun q2 n2 r2 _ _ x2 => ?_
  simp only [wSet, wCall, wCons, wNil, wVar, getV, setV, some!]
  refine ⟨p, rfl, hS1, fun ps S2 hps d2 => n2 _ _ ?_⟩
  refine seq_k fun q3 n3 r3 _ _ x3 => ?_
  have sP : ∀ S : Sto, seqA S (dPlans ps) = some (ps.map fun p => dPlan p.1 p.2) := fun _ => rfl
  simp only [wSet, wLc, wIt, wVar, getV, some!, sP, delVs, delV, List.length_map]
  refine ⟨by rw [hps.1]; decide, compI_inv (fun k acc S' => Dr p S1 S' ∧ acc = (ps.take k).map fun p => dNet c p.1 p.2) ⟨d2, rfl⟩ (fun _ _ _ _ => trivial) ?_ ?_⟩
  · rintro i d acc S3 hi ⟨d3, rfl⟩
    rw [List.getElem?_map] at hi
    obtain ⟨⟨n, e⟩, hpi, rfl⟩ := Option.map_eq_some_iff.mp hi
    obtain ⟨w, L, hn⟩ := hps.2 _ (List.mem_of_getElem? hpi)
    simp only [gN, setV, wCall, wBin, wCons, wNil, wC, wVar, getV, some!]
    refine ⟨p, 2, rfl, d3.po, by decide, fun u S4 hu d4 => ?_⟩
    simp only [oEq, shD_int, eqD_int, true_and]
    refine ⟨n, e, w, L, _, rfl, hn, fun S5 E5 => ⟨dr_ext (dr_trans d3 d4) E5, ?_⟩⟩
    rw [List.take_add_one, hpi, List.map_append]; rfl
  rintro acc S3 ⟨d3, rfl⟩
  rw [List.length_map, List.take_length]
  refine n3 _ _ ?_
  rw [show D.lst (ps.map fun p => dNet c p.1 p.2) = dNets c ps from rfl]
  obtain ⟨⟨n0, e0⟩, hp0⟩ : ∃ x, ps[0]? = some x := ⟨_, List.getElem?_eq_getElem (by rw [hps.1]; decide)⟩
  obtain ⟨⟨n1', e1⟩, hp1⟩ : ∃ x, ps[1]? = some x := ⟨_, List.getElem?_eq_getElem (by rw [hps.1]; decide)⟩
  obtain ⟨w0, L0, hn0⟩ := hps.2 _ (List.mem_of_getElem? hp0)
  obtain ⟨w1, L1, hn1⟩ := hps.2 _ (List.mem_of_getElem? hp1)
  refine seq_k fun q4 n4 r4 _ _ x4 => ?_
  simp only [setV]
  generalize henv : [x0, some (D.ref p), some (dPlans ps), some (dNets c ps), none, none, none, none, none] = env
  have g3 : getV env 3 = some (dNets c ps) := by rw [← henv]; rfl
  refine (show wNew c ((0 : Nat) : Int) env S3 (fun d S4 => wNew c ((1 : Nat) : Int) env S4 (fun d2 S5 => ([d, d2] : List D).length ≤ sizeLine ∧ ∀ A, S5 A = none → q4.nx (setV env 4 (.ref A)) (put S5 A (.lst [d, d2]))) (xcQ q4 env)) (xcQ q4 env) from ?_)
  refine new_go g3 hp0 hn0 fun ra S4 E4 ha0 hla hla0 hRa => ?_
  refine new_go g3 hp1 hn1 fun rb S5 E5 hb0 hlb hlb0 hRb => ⟨show 2 ≤ sizeLine by decide, fun A hA0 => n4 _ _ ?_⟩
  have d5 := dr_ext (dr_ext d3 E4) E5
  have nA : A ≠ p := pool_ne hS1 (dr_none d5 hA0)
  have hRa5 := rec_ext hRa E5
  have npos : ∀ {x : Addr}, S3 x = none → x ≠ p := fun hx => pool_ne hS1 (dr_none d3 hx)
  have nAa : ∀ x, x ∈ adr ra → x ≠ A := fun x hx z => some_adr hRa5 hx (z ▸ hA0)
  have nAb : ∀ x, x ∈ adr rb → x ≠ A := fun x hx z => some_adr hRb hx (z ▸ hA0)
  have nab : ∀ x, x ∈ adr ra → x ∉ adr rb := fun x hx hy => some_adr hRa hx (hb0 x hy)
  have hAll : AllR c (put S5 A (.lst ([ra, rb].map dRec))) ps A p 0 [ra, rb] := by
    refine ⟨put_same, fun r hr => ?_, fun r hr => ?_, fun i j r s hij hi hj x hxr hxs => ?_, ⟨Nat.le_refl 2, show 2 ≤ 6 by decide⟩, pool_put d5.po nA, nA⟩
    · rcases List.mem_cons.mp hr with rfl | hr
      · exact ⟨⟨_, _, _, _, rec_keep hRa5 fun x m hx z => (put_ne (nAa x hx)).trans z⟩, by omega⟩
      · rw [List.mem_singleton] at hr; subst hr
        exact ⟨⟨_, _, _, _, rec_keep hRb fun x m hx z => (put_ne (nAb x hx)).trans z⟩, by omega⟩
    · rcases List.mem_cons.mp hr with rfl | hr
      · exact ⟨fun z => nAa A z rfl, fun z => npos (ha0 p z) rfl, hla⟩
      · rw [List.mem_singleton] at hr; subst hr
        exact ⟨fun z => nAb A z rfl, fun z => npos (ext_none E4 (hb0 p z)) rfl, hlb⟩
    · have hi2 := lt_of_some hi
      have hj2 := lt_of_some hj
      have hi2 : i < 2 := hi2
      have hj2 : j < 2 := hj2
      rcases (show (i = 0 ∧ j = 1) ∨ (i = 1 ∧ j = 0) by omega) with ⟨rfl, rfl⟩ | ⟨rfl, rfl⟩
      · obtain rfl : ra = r := by simpa using hi
        obtain rfl : rb = s := by simpa using hj
        exact nab x hxr hxs
      · obtain rfl : rb = r := by simpa using hi
        obtain rfl : ra = s := by simpa using hj
        exact nab x hxs hxr
  rw [show [dRec ra, dRec rb] = [ra, rb].map dRec from rfl]
  generalize put S5 A (.lst ([ra, rb].map dRec)) = S6 at hAll
  have hl2 : [ra, rb].length = 2 := rfl
  generalize [ra, rb] = rs at hAll hl2
  subst henv
  have hlen := hAll.len
  refine seq_k fun q5 n5 r5 _ _ x5 => ?_
  simp only [setV]
  have key : ∀ (rs : List Rec) (S7 : Sto), AllR c S7 ps A p 0 rs → q5.nx [x0, some (.ref p), some (dPlans ps), some (dNets c ps), some (.ref A), none, none, none, none] S7 := by
    intro rs S7 hA7
    refine n5 _ _ ?_
    exact t5 hA7 fun S' => h S'
  generalize henv2 : [x0, some (D.ref p), some (dPlans ps), some (dNets c ps), some (.ref A), none, none, none, none] = env2 at *
  have g1 : getV env2 1 = some (.ref p) := by rw [← henv2]; rfl
  have g3 : getV env2 3 = some (dNets c ps) := by rw [← henv2]; rfl
  have g4 : getV env2 4 = some (.ref A) := by rw [← henv2]; rfl
  simp only [wIf, wTest, wBin, wCall, wCons, wNil, wC, wVar, g1, some!]
  refine ⟨p, 2, rfl, hAll.po, by decide, fun t S7 ht d7 => ?_⟩
  have hA7 := all_dr hAll d7
  simp only [oEq, shD_int, eqD_int, true_and, decide_eq_true_eq]
  by_cases z : t = 0
  · rw [if_pos z]
    simp only [wDrop, wMt]
    refine wVar_at g4 ?_
    simp only [mutL, hA7.at_]
    refine (show wNew c ((0 : Nat) : Int) env2 S7 (fun d S8 => oAppend S8 (.ref A) [d] fun _ S9 => q5.nx env2 S9) (xcQ q5 env2) from ?_)
    refine new_go g3 hp0 hn0 fun rc S8 E8 hc0 hlc hlc0 hRc => ?_
    have hA8 := all_dr hA7 (dr_ext (dr_refl hA7.po) E8)
    simp only [oAppend, mutL, hA8.at_, one, List.length_map]
    refine ⟨by unfold sizeLine; omega, ?_⟩
    have hA9 := all_snoc hA8 hRc (by omega) hlc (fun x hx => all_fresh hA7 (hc0 x hx)) (by omega)
    rw [show rs.map dRec ++ [dRec rc] = (rs ++ [rc]).map dRec by rw [List.map_append]; rfl]
    exact key _ _ hA9
  · rw [if_neg z]
    simp only [wNext]
    exact key rs S7 hA7

end K09
set_option Elab.async false
set_option linter.all false
set_option maxRecDepth 100000
set_option maxHeartbeats 4000000
namespace K09
open PySem PySem.Spec PyProof.Rows L2 DL
def topS (i : Nat) : Stmt := PySem.Challenge.pw_everyasked_k09_whole_sums_tell_the_rows.main.body.getD i (.Pass ⟨0, 0, 0, 0⟩)
abbrev s_is_between : Stmt := topS 9
abbrev s_vector_of : Stmt := topS 10
abbrev s_matrix_of : Stmt := topS 11
abbrev s_product_sum : Stmt := topS 12
abbrev s_Net_init : Stmt := inClass (topS 13) 0
abbrev s_Net_is_letter : Stmt := inClass (topS 13) 2
abbrev s_Net_rest : Stmt := inClass (topS 13) 3
abbrev s_Net_times : Stmt := inClass (topS 13) 4
abbrev s_Net_plus : Stmt := inClass (topS 13) 5
abbrev s_no_matrix : Stmt := topS 15
abbrev s_with_pair : Stmt := topS 16
abbrev s_LayerReader_init : Stmt := inClass (topS 17) 0
abbrev s_LayerReader_read : Stmt := inClass (topS 17) 1
abbrev s_Sums_init : Stmt := inClass (topS 18) 0
abbrev s_Sums_read : Stmt := inClass (topS 18) 1
abbrev s_Sums_twin : Stmt := inClass (topS 18) 2
abbrev s_Sums_state : Stmt := inClass (topS 18) 3
abbrev s_Sums___eq__ : Stmt := inClass (topS 18) 4
abbrev s_sums_behind : Stmt := topS 19
abbrev s__law_pool : Stmt := topS 21
abbrev s__law_draw : Stmt := topS 22
abbrev s__law_number : Stmt := topS 23
abbrev s__law_matrix : Stmt := topS 24
abbrev s__law_net : Stmt := topS 25
abbrev s__law_wide_net : Stmt := topS 26
abbrev s__law_copy : Stmt := topS 27
abbrev s__law_made : Stmt := topS 28
abbrev s__law_times : Stmt := topS 29
abbrev s__law_row : Stmt := topS 30
abbrev s__law_same : Stmt := topS 31
abbrev s__law_no_letter : Stmt := topS 32
abbrev s__law_read : Stmt := topS 33
abbrev s__law_grids : Stmt := topS 34
abbrev s__law_own : Stmt := topS 35
abbrev s__law_is_so : Stmt := topS 36
abbrev s__law_reads : Stmt := topS 37
abbrev s__law_refuses : Stmt := topS 38
abbrev s__law_twin : Stmt := topS 39
abbrev s__law_compared : Stmt := topS 40
abbrev s__law_plans : Stmt := topS 41
abbrev s__law_turn : Stmt := topS 42
abbrev s_law : Stmt := topS 43
theorem sc_is_between : FnScope N_is_between_ ["value", "least", "most"] (defScope s_is_between) := ⟨rfl, rfl, rfl, by decide +kernel, rfl, by decide +kernel, by decide +kernel⟩
theorem sc_vector_of : FnScope N_vector_of_ ["numbers"] (defScope s_vector_of) := ⟨rfl, rfl, rfl, by decide +kernel, rfl, by decide +kernel, by decide +kernel⟩
theorem sc_matrix_of : FnScope N_matrix_of_ ["rows"] (defScope s_matrix_of) := ⟨rfl, rfl, rfl, by decide +kernel, rfl, by decide +kernel, by decide +kernel⟩
theorem sc_product_sum : FnScope N_product_sum_ ["one", "two"] (defScope s_product_sum) := ⟨rfl, rfl, rfl, by decide +kernel, rfl, by decide +kernel, by decide +kernel⟩
theorem sc_Net_init : FnScope N_Net_init_ ["self", "prime", "embed", "shift", "layers", "out", "end"] (defScope s_Net_init) := ⟨rfl, rfl, rfl, by decide +kernel, rfl, by decide +kernel, by decide +kernel⟩
theorem sc_Net_is_letter : FnScope N_Net_is_letter_ ["self", "value"] (defScope s_Net_is_letter) := ⟨rfl, rfl, rfl, by decide +kernel, rfl, by decide +kernel, by decide +kernel⟩
theorem sc_Net_rest : FnScope N_Net_rest_ ["self", "number"] (defScope s_Net_rest) := ⟨rfl, rfl, rfl, by decide +kernel, rfl, by decide +kernel, by decide +kernel⟩
theorem sc_Net_times : FnScope N_Net_times_ ["self", "matrix", "vector"] (defScope s_Net_times) := ⟨rfl, rfl, rfl, by decide +kernel, rfl, by decide +kernel, by decide +kernel⟩
theorem sc_Net_plus : FnScope N_Net_plus_ ["self", "one", "two"] (defScope s_Net_plus) := ⟨rfl, rfl, rfl, by decide +kernel, rfl, by decide +kernel, by decide +kernel⟩
theorem sc_no_matrix : FnScope N_no_matrix_ ["width"] (defScope s_no_matrix) := ⟨rfl, rfl, rfl, by decide +kernel, rfl, by decide +kernel, by decide +kernel⟩
theorem sc_with_pair : FnScope N_with_pair_ ["net", "matrix", "pair", "times"] (defScope s_with_pair) := ⟨rfl, rfl, rfl, by decide +kernel, rfl, by decide +kernel, by decide +kernel⟩
theorem sc_LayerReader_init : FnScope N_LayerReader_init_ ["self", "net", "count", "ahead"] (defScope s_LayerReader_init) := ⟨rfl, rfl, rfl, by decide +kernel, rfl, by decide +kernel, by decide +kernel⟩
theorem sc_LayerReader_read : FnScope N_LayerReader_read_ ["self", "letter"] (defScope s_LayerReader_read) := ⟨rfl, rfl, rfl, by decide +kernel, rfl, by decide +kernel, by decide +kernel⟩
theorem sc_Sums_init : FnScope N_Sums_init_ ["self", "net"] (defScope s_Sums_init) := ⟨rfl, rfl, rfl, by decide +kernel, rfl, by decide +kernel, by decide +kernel⟩
theorem sc_Sums_read : FnScope N_Sums_read_ ["self", "letter"] (defScope s_Sums_read) := ⟨rfl, rfl, rfl, by decide +kernel, rfl, by decide +kernel, by decide +kernel⟩
theorem sc_Sums_twin : FnScope N_Sums_twin_ ["self"] (defScope s_Sums_twin) := ⟨rfl, rfl, rfl, by decide +kernel, rfl, by decide +kernel, by decide +kernel⟩
theorem sc_Sums_state : FnScope N_Sums_state_ ["self"] (defScope s_Sums_state) := ⟨rfl, rfl, rfl, by decide +kernel, rfl, by decide +kernel, by decide +kernel⟩
theorem sc_Sums___eq__ : FnScope N_Sums___eq___ ["self", "other"] (defScope s_Sums___eq__) := ⟨rfl, rfl, rfl, by decide +kernel, rfl, by decide +kernel, by decide +kernel⟩
theorem sc_sums_behind : FnScope N_sums_behind_ ["net", "letters"] (defScope s_sums_behind) := ⟨rfl, rfl, rfl, by decide +kernel, rfl, by decide +kernel, by decide +kernel⟩
theorem sc__law_pool : FnScope N__law_pool_ ["script"] (defScope s__law_pool) := ⟨rfl, rfl, rfl, by decide +kernel, rfl, by decide +kernel, by decide +kernel⟩
theorem sc__law_draw : FnScope N__law_draw_ ["pool", "many"] (defScope s__law_draw) := ⟨rfl, rfl, rfl, by decide +kernel, rfl, by decide +kernel, by decide +kernel⟩
theorem sc__law_number : FnScope N__law_number_ ["pool", "prime"] (defScope s__law_number) := ⟨rfl, rfl, rfl, by decide +kernel, rfl, by decide +kernel, by decide +kernel⟩
theorem sc__law_matrix : FnScope N__law_matrix_ ["pool", "prime", "width"] (defScope s__law_matrix) := ⟨rfl, rfl, rfl, by decide +kernel, rfl, by decide +kernel, by decide +kernel⟩
theorem sc__law_net : FnScope N__law_net_ ["pool", "prime", "letters", "width", "many"] (defScope s__law_net) := ⟨rfl, rfl, rfl, by decide +kernel, rfl, by decide +kernel, by decide +kernel⟩
theorem sc__law_wide_net : FnScope N__law_wide_net_ ["pool"] (defScope s__law_wide_net) := ⟨rfl, rfl, rfl, by decide +kernel, rfl, by decide +kernel, by decide +kernel⟩
theorem sc__law_copy : FnScope N__law_copy_ ["plan"] (defScope s__law_copy) := ⟨rfl, rfl, rfl, by decide +kernel, rfl, by decide +kernel, by decide +kernel⟩
theorem sc__law_made : FnScope N__law_made_ ["plan", "loose"] (defScope s__law_made) := ⟨rfl, rfl, rfl, by decide +kernel, rfl, by decide +kernel, by decide +kernel⟩
theorem sc__law_times : FnScope N__law_times_ ["grid", "x", "prime"] (defScope s__law_times) := ⟨rfl, rfl, rfl, by decide +kernel, rfl, by decide +kernel, by decide +kernel⟩
theorem sc__law_row : FnScope N__law_row_ ["plan", "before", "letter", "begin"] (defScope s__law_row) := ⟨rfl, rfl, rfl, by decide +kernel, rfl, by decide +kernel, by decide +kernel⟩
theorem sc__law_same : FnScope N__law_same_ ["told", "due"] (defScope s__law_same) := ⟨rfl, rfl, rfl, by decide +kernel, rfl, by decide +kernel, by decide +kernel⟩
theorem sc__law_no_letter : FnScope N__law_no_letter_ ["pool", "letters"] (defScope s__law_no_letter) := ⟨rfl, rfl, rfl, by decide +kernel, rfl, by decide +kernel, by decide +kernel⟩
theorem sc__law_read : FnScope N__law_read_ ["sums", "letter"] (defScope s__law_read) := ⟨rfl, rfl, rfl, by decide +kernel, rfl, by decide +kernel, by decide +kernel⟩
theorem sc__law_grids : FnScope N__law_grids_ ["plan", "rows"] (defScope s__law_grids) := ⟨rfl, rfl, rfl, by decide +kernel, rfl, by decide +kernel, by decide +kernel⟩
theorem sc__law_own : FnScope N__law_own_ ["plans", "one"] (defScope s__law_own) := ⟨rfl, rfl, rfl, by decide +kernel, rfl, by decide +kernel, by decide +kernel⟩
theorem sc__law_is_so : FnScope N__law_is_so_ ["plans", "one"] (defScope s__law_is_so) := ⟨rfl, rfl, rfl, by decide +kernel, rfl, by decide +kernel, by decide +kernel⟩
theorem sc__law_reads : FnScope N__law_reads_ ["pool", "plans", "one"] (defScope s__law_reads) := ⟨rfl, rfl, rfl, by decide +kernel, rfl, by decide +kernel, by decide +kernel⟩
theorem sc__law_refuses : FnScope N__law_refuses_ ["pool", "plans", "one"] (defScope s__law_refuses) := ⟨rfl, rfl, rfl, by decide +kernel, rfl, by decide +kernel, by decide +kernel⟩
theorem sc__law_twin : FnScope N__law_twin_ ["pool", "plans", "nets", "all_sums", "one"] (defScope s__law_twin) := ⟨rfl, rfl, rfl, by decide +kernel, rfl, by decide +kernel, by decide +kernel⟩
theorem sc__law_compared : FnScope N__law_compared_ ["pool", "plans", "one", "other"] (defScope s__law_compared) := ⟨rfl, rfl, rfl, by decide +kernel, rfl, by decide +kernel, by decide +kernel⟩
theorem sc__law_plans : FnScope N__law_plans_ ["pool"] (defScope s__law_plans) := ⟨rfl, rfl, rfl, by decide +kernel, rfl, by decide +kernel, by decide +kernel⟩
theorem sc__law_turn : FnScope N__law_turn_ ["pool", "plans", "nets", "all_sums", "at"] (defScope s__law_turn) := ⟨rfl, rfl, rfl, by decide +kernel, rfl, by decide +kernel, by decide +kernel⟩
theorem sc_law : FnScope N_law_ ["script"] (defScope s_law) := ⟨rfl, rfl, rfl, by decide +kernel, rfl, by decide +kernel, by decide +kernel⟩
structure Txt (mg : Str → Option Value) (c : Cl) : Prop where
  b_bool : mg "bool" = none
  b_enumerate : mg "enumerate" = none
  b_int : mg "int" = none
  b_isinstance : mg "isinstance" = none
  b_len : mg "len" = none
  b_list : mg "list" = none
  b_range : mg "range" = none
  b_str : mg "str" = none
  b_sum : mg "sum" = none
  b_tuple : mg "tuple" = none
  b_zip : mg "zip" = none
  d_is_between : DefAt c.K mg "is_between" "is_between" s_is_between ["value", "least", "most"]
  d_vector_of : DefAt c.K mg "vector_of" "vector_of" s_vector_of ["numbers"]
  d_matrix_of : DefAt c.K mg "matrix_of" "matrix_of" s_matrix_of ["rows"]
  d_product_sum : DefAt c.K mg "product_sum" "product_sum" s_product_sum ["one", "two"]
  i_Net_init : MkAt c.K c.Net "Net.__init__" s_Net_init ["self", "prime", "embed", "shift", "layers", "out", "end"]
  m_Net_is_letter : MetAt c.K c.Net "is_letter" "Net.is_letter" s_Net_is_letter ["self", "value"]
  m_Net_rest : MetAt c.K c.Net "rest" "Net.rest" s_Net_rest ["self", "number"]
  m_Net_times : MetAt c.K c.Net "times" "Net.times" s_Net_times ["self", "matrix", "vector"]
  m_Net_plus : MetAt c.K c.Net "plus" "Net.plus" s_Net_plus ["self", "one", "two"]
  d_no_matrix : DefAt c.K mg "no_matrix" "no_matrix" s_no_matrix ["width"]
  d_with_pair : DefAt c.K mg "with_pair" "with_pair" s_with_pair ["net", "matrix", "pair", "times"]
  i_LayerReader_init : MkAt c.K c.LayerReader "LayerReader.__init__" s_LayerReader_init ["self", "net", "count", "ahead"]
  m_LayerReader_read : MetAt c.K c.LayerReader "read" "LayerReader.read" s_LayerReader_read ["self", "letter"]
  i_Sums_init : MkAt c.K c.Sums "Sums.__init__" s_Sums_init ["self", "net"]
  m_Sums_read : MetAt c.K c.Sums "read" "Sums.read" s_Sums_read ["self", "letter"]
  m_Sums_twin : MetAt c.K c.Sums "twin" "Sums.twin" s_Sums_twin ["self"]
  m_Sums_state : MetAt c.K c.Sums "state" "Sums.state" s_Sums_state ["self"]
  m_Sums___eq__ : MetAt c.K c.Sums "__eq__" "Sums.__eq__" s_Sums___eq__ ["self", "other"]
  d_sums_behind : DefAt c.K mg "sums_behind" "sums_behind" s_sums_behind ["net", "letters"]
  d__law_pool : DefAt c.K mg "_law_pool" "_law_pool" s__law_pool ["script"]
  d__law_draw : DefAt c.K mg "_law_draw" "_law_draw" s__law_draw ["pool", "many"]
  d__law_number : DefAt c.K mg "_law_number" "_law_number" s__law_number ["pool", "prime"]
  d__law_matrix : DefAt c.K mg "_law_matrix" "_law_matrix" s__law_matrix ["pool", "prime", "width"]
  d__law_net : DefAt c.K mg "_law_net" "_law_net" s__law_net ["pool", "prime", "letters", "width", "many"]
  d__law_wide_net : DefAt c.K mg "_law_wide_net" "_law_wide_net" s__law_wide_net ["pool"]
  d__law_copy : DefAt c.K mg "_law_copy" "_law_copy" s__law_copy ["plan"]
  d__law_made : DefAt c.K mg "_law_made" "_law_made" s__law_made ["plan", "loose"]
  d__law_times : DefAt c.K mg "_law_times" "_law_times" s__law_times ["grid", "x", "prime"]
  d__law_row : DefAt c.K mg "_law_row" "_law_row" s__law_row ["plan", "before", "letter", "begin"]
  d__law_same : DefAt c.K mg "_law_same" "_law_same" s__law_same ["told", "due"]
  d__law_no_letter : DefAt c.K mg "_law_no_letter" "_law_no_letter" s__law_no_letter ["pool", "letters"]
  d__law_read : DefAt c.K mg "_law_read" "_law_read" s__law_read ["sums", "letter"]
  d__law_grids : DefAt c.K mg "_law_grids" "_law_grids" s__law_grids ["plan", "rows"]
  d__law_own : DefAt c.K mg "_law_own" "_law_own" s__law_own ["plans", "one"]
  d__law_is_so : DefAt c.K mg "_law_is_so" "_law_is_so" s__law_is_so ["plans", "one"]
  d__law_reads : DefAt c.K mg "_law_reads" "_law_reads" s__law_reads ["pool", "plans", "one"]
  d__law_refuses : DefAt c.K mg "_law_refuses" "_law_refuses" s__law_refuses ["pool", "plans", "one"]
  d__law_twin : DefAt c.K mg "_law_twin" "_law_twin" s__law_twin ["pool", "plans", "nets", "all_sums", "one"]
  d__law_compared : DefAt c.K mg "_law_compared" "_law_compared" s__law_compared ["pool", "plans", "one", "other"]
  d__law_plans : DefAt c.K mg "_law_plans" "_law_plans" s__law_plans ["pool"]
  d__law_turn : DefAt c.K mg "_law_turn" "_law_turn" s__law_turn ["pool", "plans", "nets", "all_sums", "at"]
  d_law : DefAt c.K mg "law" "law" s_law ["script"]
  c_PRIMES : ConT c.K mg "PRIMES" K_PRIMES
  g_InvalidLetter : mg "InvalidLetter" = some (.ref c.InvalidLetter)
  g_InvalidNumber : mg "InvalidNumber" = some (.ref c.InvalidNumber)
  g_InvalidRow : mg "InvalidRow" = some (.ref c.InvalidRow)
  g_ServeError : mg "ServeError" = some (.ref c.ServeError)
  g_TooMany : mg "TooMany" = some (.ref c.TooMany)
  g_Undefined : mg "Undefined" = some (.ref c.Undefined)
  x_InvalidLetter : ExAt c.K mg "InvalidLetter" c.InvalidLetter "letter" "letter" "InvalidLetter.__init__" (inClass (topS 3) 0)
  x_InvalidNumber : ExAt c.K mg "InvalidNumber" c.InvalidNumber "number" "number" "InvalidNumber.__init__" (inClass (topS 2) 0)
  cl_Net : Cls c.K c.Net
  mk_Net : mg "Net" = some (.ref c.Net)
  na_Net_prime : NoAttr c.K c.Net "prime"
  na_Net_embed : NoAttr c.K c.Net "embed"
  na_Net_shift : NoAttr c.K c.Net "shift"
  na_Net_layers : NoAttr c.K c.Net "layers"
  na_Net_out : NoAttr c.K c.Net "out"
  na_Net_end : NoAttr c.K c.Net "end"
  cl_LayerReader : Cls c.K c.LayerReader
  mk_LayerReader : mg "LayerReader" = some (.ref c.LayerReader)
  na_LayerReader_net : NoAttr c.K c.LayerReader "net"
  na_LayerReader_count : NoAttr c.K c.LayerReader "count"
  na_LayerReader_ahead : NoAttr c.K c.LayerReader "ahead"
  na_LayerReader_pairs : NoAttr c.K c.LayerReader "pairs"
  na_LayerReader_matrices : NoAttr c.K c.LayerReader "matrices"
  cl_Sums : Cls c.K c.Sums
  mk_Sums : mg "Sums" = some (.ref c.Sums)
  na_Sums_net : NoAttr c.K c.Sums "net"
  na_Sums_count : NoAttr c.K c.Sums "count"
  na_Sums_matrices : NoAttr c.K c.Sums "matrices"
  oc_Sums : OwnC c.K c.Sums
  ne_Sums : PySem.W.findIn c.K (.ref c.Sums) "__ne__" = some (some (.builtin "object.__ne__"))
section
variable {P : Program} {w : World} {mg : Str → Option Value} {base : Heap} {c : Cl}
theorem scx_InvalidLetter : FnScope ["self", "letter"] ["self", "letter"] (defScope (inClass (topS 3) 0)) := ⟨rfl, rfl, rfl, by decide +kernel, rfl, by decide +kernel, by decide +kernel⟩
theorem xc_InvalidLetter (T : Txt mg c) : ExC P w c.K mg base "InvalidLetter" c.InvalidLetter "letter" :=
  ExC.mk T.x_InvalidLetter scx_InvalidLetter fun fI cdv A outer s H E => pss_one (ps_ost (pv 0) (pv 1) rfl)
theorem scx_InvalidNumber : FnScope ["self", "number"] ["self", "number"] (defScope (inClass (topS 2) 0)) := ⟨rfl, rfl, rfl, by decide +kernel, rfl, by decide +kernel, by decide +kernel⟩
theorem xc_InvalidNumber (T : Txt mg c) : ExC P w c.K mg base "InvalidNumber" c.InvalidNumber "number" :=
  ExC.mk T.x_InvalidNumber scx_InvalidNumber fun fI cdv A outer s H E => pss_one (ps_ost (pv 0) (pv 1) rfl)
theorem ok_is_between (T : Txt mg c) : FnC P w c.K mg base 1 "is_between" ["value", "least", "most"] (sp_is_between c) :=
  FnC.mk T.d_is_between sc_is_between (by decide) (len_is_between c) (fun f cdv A outer s H E hr => (pss_oneD (pds_ret (pd_and (pd_isi (T := "int") (pd_var 0) (pe_bltn rfl T.b_int (by decide +kernel) rfl) T.b_isinstance) (pd_and (pd_not (pd_isi (T := "bool") (pd_var 0) (pe_bltn rfl T.b_bool (by decide +kernel) rfl) T.b_isinstance)) (pd_one (pd_chain opd_le opd_le (pd_var 1) (pd_var 0) (pd_var 2)))))))) (rd_is_between c)
theorem ok_vector_of (T : Txt mg c) : FnC P w c.K mg base 1 "vector_of" ["numbers"] (sp_vector_of c) :=
  FnC.mk T.d_vector_of sc_vector_of (by decide) (len_vector_of c) (fun f cdv A outer s H E hr => (pss_oneD (pds_ret (pd_callTy cd_tuple T.b_tuple (by decide +kernel) (pda_cons (pd_var 0) pda_nil))))) (rd_vector_of c)
theorem ok_matrix_of (T : Txt mg c) : FnC P w c.K mg base 2 "matrix_of" ["rows"] (sp_matrix_of c) :=
  FnC.mk T.d_matrix_of sc_matrix_of (by decide) (len_matrix_of c) (fun f cdv A outer s H E hr => (pss_oneD (pds_ret (pd_callTy cd_tuple T.b_tuple (by decide +kernel) (pda_cons (pd_lc (own := [("row", 1)]) rfl sc_matrix_of.nd (pdi_seq (pd_var 0)) (blkOk_by (N := N_matrix_of_) (sc := defScope s_matrix_of) (by decide +kernel)) (fun _ _ _ _ _ => (pdg_name (i := 1) sc_matrix_of.nd rfl (by first | exact Or.inl rfl | exact Or.inr rfl) (by decide))) (fun _ _ _ _ _ => pdts_nil) (fun _ _ _ _ _ => (pd_fn (ok_vector_of T) (hr.mono (by decide)) (pda_cons (pd_var 1) pda_nil)))) pda_nil))))) (rd_matrix_of c)
theorem ok_product_sum (T : Txt mg c) : FnC P w c.K mg base 1 "product_sum" ["one", "two"] (sp_product_sum c) :=
  FnC.mk T.d_product_sum sc_product_sum (by decide) (len_product_sum c) (fun f cdv A outer s H E hr => (pss_consD (pds_set (i := 2) sc_product_sum.nd rfl (by first | exact Or.inl rfl | exact Or.inr rfl) pd_int)
  (pss_consD (pds_for (vs := (List.range 5)) rfl (passes_of rfl) (pdi_zip T.b_zip (pd_var 0) (pd_var 1)) (pdg_tup rfl (pdgs_cons (pdg_name (i := 3) sc_product_sum.nd rfl (by first | exact Or.inl rfl | exact Or.inr rfl) (by decide)) (pdgs_cons (pdg_name (i := 4) sc_product_sum.nd rfl (by first | exact Or.inl rfl | exact Or.inr rfl) (by decide)) pdgs_nil))) (pss_oneD (pds_aug (i := 2) sc_product_sum.nd rfl (by first | exact Or.inl rfl | exact Or.inr rfl) (pd_op opd_mul (pd_var 3) (pd_var 4)) iopd_add)))
  (pss_oneD (pds_ret (pd_var 2)))))) (rd_product_sum c)
theorem ok_Net_init (T : Txt mg c) : MkC P w c.K mg base c.Net 3 ["self", "prime", "embed", "shift", "layers", "out", "end"] (sp_Net_init c) :=
  MkC.mk T.i_Net_init sc_Net_init (by decide) (len_Net_init c) (fun f cdv A outer s H E hr => (pss_consD (pds_if (PDw.pt (pdw_or (pdt_not (pdt_val (pd_fn (ok_is_between T) (hr.mono (by decide)) (pda_cons (pd_var 1) (pda_cons pd_int (pda_cons pd_int pda_nil)))))) (pdw_or1 (pdt_cmp (opd_notInD hr.units) (pd_var 1) (pd_globT T.c_PRIMES) (by rfl))))) (pss_oneD (pds_raise rfl (pdx_mk (xc_InvalidNumber T) (hr.mono (by decide)) (pd_var 1)))) pss_nilD)
  (pss_consD (pds_setF (N := N_Net) (i := 0) T.cl_Net T.na_Net_prime rfl (pd_var 0) (pd_var 1))
  (pss_consD (pds_setF (N := N_Net) (i := 1) T.cl_Net T.na_Net_embed rfl (pd_var 0) (pd_fn (ok_matrix_of T) (hr.mono (by decide)) (pda_cons (pd_var 2) pda_nil)))
  (pss_consD (pds_setF (N := N_Net) (i := 2) T.cl_Net T.na_Net_shift rfl (pd_var 0) (pd_fn (ok_vector_of T) (hr.mono (by decide)) (pda_cons (pd_var 3) pda_nil)))
  (pss_consD (pds_setF (N := N_Net) (i := 3) T.cl_Net T.na_Net_layers rfl (pd_var 0) (pd_callTy cd_tuple T.b_tuple (by decide +kernel) (pda_cons (pd_lc (own := [("layer", 7)]) rfl sc_Net_init.nd (pdi_seq (pd_var 4)) (blkOk_by (N := N_Net_init_) (sc := defScope s_Net_init) (by decide +kernel)) (fun _ _ _ _ _ => (pdg_name (i := 7) sc_Net_init.nd rfl (by first | exact Or.inl rfl | exact Or.inr rfl) (by decide))) (fun _ _ _ _ _ => pdts_nil) (fun _ _ _ _ _ => (pd_callTy cd_tuple T.b_tuple (by decide +kernel) (pda_cons (pd_lc (own := [("matrix", 8)]) rfl sc_Net_init.nd (pdi_seq (pd_var 7)) (blkOk_by (N := N_Net_init_) (sc := relS _ (defScope s_Net_init)) (by decide +kernel)) (fun _ _ _ _ _ => (pdg_name (i := 8) sc_Net_init.nd rfl (by first | exact Or.inl rfl | exact Or.inr rfl) (by decide))) (fun _ _ _ _ _ => pdts_nil) (fun _ _ _ _ _ => (pd_fn (ok_matrix_of T) (hr.mono (by decide)) (pda_cons (pd_var 8) pda_nil)))) pda_nil)))) pda_nil)))
  (pss_consD (pds_setF (N := N_Net) (i := 4) T.cl_Net T.na_Net_out rfl (pd_var 0) (pd_fn (ok_matrix_of T) (hr.mono (by decide)) (pda_cons (pd_var 5) pda_nil)))
  (pss_oneD (pds_setF (N := N_Net) (i := 5) T.cl_Net T.na_Net_end rfl (pd_var 0) (pd_var 6)))))))))) (rd_Net_init c)
theorem ok_Net_is_letter (T : Txt mg c) : MtC P w c.K mg base c.Net 2 "is_letter" ["self", "value"] (sp_Net_is_letter c) :=
  MtC.mk T.m_Net_is_letter sc_Net_is_letter (by decide) (len_Net_is_letter c) (fun f cdv A outer s H E hr => (pss_oneD (pds_ret (pd_fn (ok_is_between T) (hr.mono (by decide)) (pda_cons (pd_var 1) (pda_cons pd_int (pda_cons (pd_op opd_sub (pd_callB cd_len T.b_len (by decide +kernel) (pda_cons (pd_fld (N := N_Net) (i := 1) T.cl_Net T.na_Net_embed rfl (pd_var 0)) pda_nil)) pd_int) pda_nil))))))) (rd_Net_is_letter c)
theorem ok_Net_rest (T : Txt mg c) : MtC P w c.K mg base c.Net 1 "rest" ["self", "number"] (sp_Net_rest c) :=
  MtC.mk T.m_Net_rest sc_Net_rest (by decide) (len_Net_rest c) (fun f cdv A outer s H E hr => (pss_oneD (pds_ret (pd_op opd_mod (pd_callTy cd_int T.b_int (by decide +kernel) (pda_cons (pd_var 1) pda_nil)) (pd_fld (N := N_Net) (i := 0) T.cl_Net T.na_Net_prime rfl (pd_var 0)))))) (rd_Net_rest c)
theorem ok_Net_times (T : Txt mg c) : MtC P w c.K mg base c.Net 2 "times" ["self", "matrix", "vector"] (sp_Net_times c) :=
  MtC.mk T.m_Net_times sc_Net_times (by decide) (len_Net_times c) (fun f cdv A outer s H E hr => (pss_oneD (pds_ret (pd_callTy cd_tuple T.b_tuple (by decide +kernel) (pda_cons (pd_lc (own := [("row", 3)]) rfl sc_Net_times.nd (pdi_seq (pd_var 1)) (blkOk_by (N := N_Net_times_) (sc := defScope s_Net_times) (by decide +kernel)) (fun _ _ _ _ _ => (pdg_name (i := 3) sc_Net_times.nd rfl (by first | exact Or.inl rfl | exact Or.inr rfl) (by decide))) (fun _ _ _ _ _ => pdts_nil) (fun _ _ _ _ _ => (pd_mt (N := N_Net) T.cl_Net (ok_Net_rest T) (by decide +kernel) (hr.mono (by decide)) (pd_var 0) (pda_cons (pd_fn (ok_product_sum T) (hr.mono (by decide)) (pda_cons (pd_var 3) (pda_cons (pd_var 2) pda_nil))) pda_nil)))) pda_nil))))) (rd_Net_times c)
theorem ok_Net_plus (T : Txt mg c) : MtC P w c.K mg base c.Net 2 "plus" ["self", "one", "two"] (sp_Net_plus c) :=
  MtC.mk T.m_Net_plus sc_Net_plus (by decide) (len_Net_plus c) (fun f cdv A outer s H E hr => (pss_oneD (pds_ret (pd_callTy cd_tuple T.b_tuple (by decide +kernel) (pda_cons (pd_lc (own := [("number", 3), ("other", 4)]) rfl sc_Net_plus.nd (pdi_zip T.b_zip (pd_var 1) (pd_var 2)) (blkOk_by (N := N_Net_plus_) (sc := defScope s_Net_plus) (by decide +kernel)) (fun _ _ _ _ _ => (pdg_tup rfl (pdgs_cons (pdg_name (i := 3) sc_Net_plus.nd rfl (by first | exact Or.inl rfl | exact Or.inr rfl) (by decide)) (pdgs_cons (pdg_name (i := 4) sc_Net_plus.nd rfl (by first | exact Or.inl rfl | exact Or.inr rfl) (by decide)) pdgs_nil)))) (fun _ _ _ _ _ => pdts_nil) (fun _ _ _ _ _ => (pd_mt (N := N_Net) T.cl_Net (ok_Net_rest T) (by decide +kernel) (hr.mono (by decide)) (pd_var 0) (pda_cons (pd_op opd_add (pd_var 3) (pd_var 4)) pda_nil)))) pda_nil))))) (rd_Net_plus c)
theorem ok_no_matrix (T : Txt mg c) : FnC P w c.K mg base 1 "no_matrix" ["width"] (sp_no_matrix c) :=
  FnC.mk T.d_no_matrix sc_no_matrix (by decide) (len_no_matrix c) (fun f cdv A outer s H E hr => (pss_oneD (pds_ret (pd_callTy cd_tuple T.b_tuple (by decide +kernel) (pda_cons (pd_lc (own := [("_", 1)]) rfl sc_no_matrix.nd (pdi_rg1 T.b_range (pd_var 0)) (blkOk_by (N := N_no_matrix_) (sc := defScope s_no_matrix) (by decide +kernel)) (fun _ _ _ _ _ => (pdg_name (i := 1) sc_no_matrix.nd rfl (by first | exact Or.inl rfl | exact Or.inr rfl) (by decide))) (fun _ _ _ _ _ => pdts_nil) (fun _ _ _ _ _ => (pd_callTy cd_tuple T.b_tuple (by decide +kernel) (pda_cons (pd_op opd_rep (pd_lst (pda_cons pd_int pda_nil)) (pd_var 0)) pda_nil)))) pda_nil))))) (rd_no_matrix c)
theorem ok_with_pair (T : Txt mg c) : FnC P w c.K mg base 2 "with_pair" ["net", "matrix", "pair", "times"] (sp_with_pair c) :=
  FnC.mk T.d_with_pair sc_with_pair (by decide) (len_with_pair c) (fun f cdv A outer s H E hr => (pss_consD (pds_asgG (vs := (List.range 11)) (pd_var 2) (pdg_tup rfl (pdgs_cons (pdg_name (i := 4) sc_with_pair.nd rfl (by first | exact Or.inl rfl | exact Or.inr rfl) (by decide)) (pdgs_cons (pdg_name (i := 5) sc_with_pair.nd rfl (by first | exact Or.inl rfl | exact Or.inr rfl) (by decide)) pdgs_nil))))
  (pss_consD (pds_set (i := 6) sc_with_pair.nd rfl (by first | exact Or.inl rfl | exact Or.inr rfl) (pd_lstM pda_nil))
  (pss_consD (pds_for (vs := (List.range 11)) rfl (passes_of rfl) (pdi_zip T.b_zip (pd_var 1) (pd_var 5)) (pdg_tup rfl (pdgs_cons (pdg_name (i := 7) sc_with_pair.nd rfl (by first | exact Or.inl rfl | exact Or.inr rfl) (by decide)) (pdgs_cons (pdg_name (i := 8) sc_with_pair.nd rfl (by first | exact Or.inl rfl | exact Or.inr rfl) (by decide)) pdgs_nil))) (pss_oneD (pds_drop (pd_lm PySem.F.slot_list_append PySem.F.type_list_append md_append (pd_var 6) (pda_cons (pd_callTy cd_tuple T.b_tuple (by decide +kernel) (pda_cons (pd_lc (own := [("old", 9), ("number", 10)]) rfl sc_with_pair.nd (pdi_zip T.b_zip (pd_var 7) (pd_var 4)) (blkOk_by (N := N_with_pair_) (sc := defScope s_with_pair) (by decide +kernel)) (fun _ _ _ _ _ => (pdg_tup rfl (pdgs_cons (pdg_name (i := 9) sc_with_pair.nd rfl (by first | exact Or.inl rfl | exact Or.inr rfl) (by decide)) (pdgs_cons (pdg_name (i := 10) sc_with_pair.nd rfl (by first | exact Or.inl rfl | exact Or.inr rfl) (by decide)) pdgs_nil)))) (fun _ _ _ _ _ => pdts_nil) (fun _ _ _ _ _ => (pd_mt (N := N_Net) T.cl_Net (ok_Net_rest T) (by decide +kernel) (hr.mono (by decide)) (pd_var 0) (pda_cons (pd_op opd_add (pd_var 9) (pd_op opd_mul (pd_op opd_mul (pd_var 3) (pd_var 8)) (pd_var 10))) pda_nil)))) pda_nil)) pda_nil)))))
  (pss_oneD (pds_ret (pd_callTy cd_tuple T.b_tuple (by decide +kernel) (pda_cons (pd_var 6) pda_nil)))))))) (rd_with_pair c)
theorem ok_LayerReader_init (T : Txt mg c) : MkC P w c.K mg base c.LayerReader 1 ["self", "net", "count", "ahead"] (sp_LayerReader_init c) :=
  MkC.mk T.i_LayerReader_init sc_LayerReader_init (by decide) (len_LayerReader_init c) (fun f cdv A outer s H E hr => (pss_consD (pds_setF (N := N_LayerReader) (i := 0) T.cl_LayerReader T.na_LayerReader_net rfl (pd_var 0) (pd_var 1))
  (pss_consD (pds_setF (N := N_LayerReader) (i := 1) T.cl_LayerReader T.na_LayerReader_count rfl (pd_var 0) (pd_var 2))
  (pss_consD (pds_setF (N := N_LayerReader) (i := 2) T.cl_LayerReader T.na_LayerReader_ahead rfl (pd_var 0) (pd_var 3))
  (pss_consD (pds_setF (N := N_LayerReader) (i := 3) T.cl_LayerReader T.na_LayerReader_pairs rfl (pd_var 0) (pd_lstM pda_nil))
  (pss_oneD (pds_setF (N := N_LayerReader) (i := 4) T.cl_LayerReader T.na_LayerReader_matrices rfl (pd_var 0) (pd_lstM pda_nil)))))))) (rd_LayerReader_init c)
theorem ok_LayerReader_read (T : Txt mg c) : MtC P w c.K mg base c.LayerReader 3 "read" ["self", "letter"] (sp_LayerReader_read c) :=
  MtC.mk T.m_LayerReader_read sc_LayerReader_read (by decide) (len_LayerReader_read c) (fun f cdv A outer s H E hr => (pss_consD (pds_set (i := 2) sc_LayerReader_read.nd rfl (by first | exact Or.inl rfl | exact Or.inr rfl) (pd_fld (N := N_LayerReader) (i := 0) T.cl_LayerReader T.na_LayerReader_net rfl (pd_var 0)))
  (pss_consD (pds_set (i := 3) sc_LayerReader_read.nd rfl (by first | exact Or.inl rfl | exact Or.inr rfl) (pd_mt (N := N_Net) T.cl_Net (ok_Net_plus T) (by decide +kernel) (hr.mono (by decide)) (pd_var 2) (pda_cons (pd_ix ixd (pd_fld (N := N_Net) (i := 1) T.cl_Net T.na_Net_embed rfl (pd_var 2)) (pd_var 1)) (pda_cons (pd_lc (own := [("number", 12)]) rfl sc_LayerReader_read.nd (pdi_seq (pd_fld (N := N_Net) (i := 2) T.cl_Net T.na_Net_shift rfl (pd_var 2))) (blkOk_by (N := N_LayerReader_read_) (sc := defScope s_LayerReader_read) (by decide +kernel)) (fun _ _ _ _ _ => (pdg_name (i := 12) sc_LayerReader_read.nd rfl (by first | exact Or.inl rfl | exact Or.inr rfl) (by decide))) (fun _ _ _ _ _ => pdts_nil) (fun _ _ _ _ _ => (pd_op opd_mul (pd_fld (N := N_LayerReader) (i := 1) T.cl_LayerReader T.na_LayerReader_count rfl (pd_var 0)) (pd_var 12)))) pda_nil))))
  (pss_consD (pds_for (vs := (List.range 14)) rfl (passes_of rfl) (pdi_enum T.b_enumerate (pd_fld (N := N_Net) (i := 3) T.cl_Net T.na_Net_layers rfl (pd_var 2))) (pdg_tup rfl (pdgs_cons (pdg_name (i := 4) sc_LayerReader_read.nd rfl (by first | exact Or.inl rfl | exact Or.inr rfl) (by decide)) (pdgs_cons (pdg_tup rfl (pdgs_cons (pdg_name (i := 5) sc_LayerReader_read.nd rfl (by first | exact Or.inl rfl | exact Or.inr rfl) (by decide)) (pdgs_cons (pdg_name (i := 6) sc_LayerReader_read.nd rfl (by first | exact Or.inl rfl | exact Or.inr rfl) (by decide)) (pdgs_cons (pdg_name (i := 7) sc_LayerReader_read.nd rfl (by first | exact Or.inl rfl | exact Or.inr rfl) (by decide)) (pdgs_cons (pdg_name (i := 8) sc_LayerReader_read.nd rfl (by first | exact Or.inl rfl | exact Or.inr rfl) (by decide)) (pdgs_cons (pdg_name (i := 9) sc_LayerReader_read.nd rfl (by first | exact Or.inl rfl | exact Or.inr rfl) (by decide)) pdgs_nil)))))) pdgs_nil))) (pss_consD (pds_set (i := 10) sc_LayerReader_read.nd rfl (by first | exact Or.inl rfl | exact Or.inr rfl) (pd_tup (pda_cons (pd_mt (N := N_Net) T.cl_Net (ok_Net_times T) (by decide +kernel) (hr.mono (by decide)) (pd_var 2) (pda_cons (pd_var 6) (pda_cons (pd_var 3) pda_nil))) (pda_cons (pd_mt (N := N_Net) T.cl_Net (ok_Net_times T) (by decide +kernel) (hr.mono (by decide)) (pd_var 2) (pda_cons (pd_var 7) (pda_cons (pd_var 3) pda_nil))) pda_nil))))
  (pss_consD (pds_set (i := 11) sc_LayerReader_read.nd rfl (by first | exact Or.inl rfl | exact Or.inr rfl) (pd_fn (ok_with_pair T) (hr.mono (by decide)) (pda_cons (pd_var 2) (pda_cons (pd_ix ixd (pd_fld (N := N_LayerReader) (i := 2) T.cl_LayerReader T.na_LayerReader_ahead rfl (pd_var 0)) (pd_var 4)) (pda_cons (pd_var 10) (pda_cons pd_int pda_nil))))))
  (pss_consD (pds_set (i := 3) sc_LayerReader_read.nd rfl (by first | exact Or.inl rfl | exact Or.inr rfl) (pd_mt (N := N_Net) T.cl_Net (ok_Net_plus T) (by decide +kernel) (hr.mono (by decide)) (pd_var 2) (pda_cons (pd_var 3) (pda_cons (pd_mt (N := N_Net) T.cl_Net (ok_Net_times T) (by decide +kernel) (hr.mono (by decide)) (pd_var 2) (pda_cons (pd_var 11) (pda_cons (pd_mt (N := N_Net) T.cl_Net (ok_Net_times T) (by decide +kernel) (hr.mono (by decide)) (pd_var 2) (pda_cons (pd_var 5) (pda_cons (pd_var 3) pda_nil))) pda_nil))) pda_nil))))
  (pss_consD (pds_set (i := 3) sc_LayerReader_read.nd rfl (by first | exact Or.inl rfl | exact Or.inr rfl) (pd_mt (N := N_Net) T.cl_Net (ok_Net_plus T) (by decide +kernel) (hr.mono (by decide)) (pd_var 2) (pda_cons (pd_var 3) (pda_cons (pd_mt (N := N_Net) T.cl_Net (ok_Net_times T) (by decide +kernel) (hr.mono (by decide)) (pd_var 2) (pda_cons (pd_var 9) (pda_cons (pd_lc (own := [("number", 12)]) rfl sc_LayerReader_read.nd (pdi_seq (pd_mt (N := N_Net) T.cl_Net (ok_Net_times T) (by decide +kernel) (hr.mono (by decide)) (pd_var 2) (pda_cons (pd_var 8) (pda_cons (pd_var 3) pda_nil)))) (blkOk_by (N := N_LayerReader_read_) (sc := defScope s_LayerReader_read) (by decide +kernel)) (fun _ _ _ _ _ => (pdg_name (i := 12) sc_LayerReader_read.nd rfl (by first | exact Or.inl rfl | exact Or.inr rfl) (by decide))) (fun _ _ _ _ _ => pdts_nil) (fun _ _ _ _ _ => (pd_op opd_mul (pd_var 12) (pd_var 12)))) pda_nil))) pda_nil))))
  (pss_consD (pds_drop (pd_lm PySem.F.slot_list_append PySem.F.type_list_append md_append (pd_fld (N := N_LayerReader) (i := 3) T.cl_LayerReader T.na_LayerReader_pairs rfl (pd_var 0)) (pda_cons (pd_var 10) pda_nil)))
  (pss_oneD (pds_drop (pd_lm PySem.F.slot_list_append PySem.F.type_list_append md_append (pd_fld (N := N_LayerReader) (i := 4) T.cl_LayerReader T.na_LayerReader_matrices rfl (pd_var 0)) (pda_cons (pd_var 11) pda_nil))))))))))
  (pss_oneD (pds_ret (pd_callTy cd_tuple T.b_tuple (by decide +kernel) (pda_cons (pd_lc (own := [("vector", 13)]) rfl sc_LayerReader_read.nd (pdi_seq (pd_fld (N := N_Net) (i := 4) T.cl_Net T.na_Net_out rfl (pd_var 2))) (blkOk_by (N := N_LayerReader_read_) (sc := defScope s_LayerReader_read) (by decide +kernel)) (fun _ _ _ _ _ => (pdg_name (i := 13) sc_LayerReader_read.nd rfl (by first | exact Or.inl rfl | exact Or.inr rfl) (by decide))) (fun _ _ _ _ _ => pdts_nil) (fun _ _ _ _ _ => (pd_op opd_add pd_int (pd_mt (N := N_Net) T.cl_Net (ok_Net_rest T) (by decide +kernel) (hr.mono (by decide)) (pd_var 2) (pda_cons (pd_fn (ok_product_sum T) (hr.mono (by decide)) (pda_cons (pd_var 13) (pda_cons (pd_var 3) pda_nil))) pda_nil))))) pda_nil)))))))) (rd_LayerReader_read c)
theorem ok_Sums_init (T : Txt mg c) : MkC P w c.K mg base c.Sums 2 ["self", "net"] (sp_Sums_init c) :=
  MkC.mk T.i_Sums_init sc_Sums_init (by decide) (len_Sums_init c) (fun f cdv A outer s H E hr => (pss_consD (pds_setF (N := N_Sums) (i := 0) T.cl_Sums T.na_Sums_net rfl (pd_var 0) (pd_var 1))
  (pss_consD (pds_setF (N := N_Sums) (i := 1) T.cl_Sums T.na_Sums_count rfl (pd_var 0) pd_int)
  (pss_oneD (pds_setF (N := N_Sums) (i := 2) T.cl_Sums T.na_Sums_matrices rfl (pd_var 0) (pd_callTy cd_tuple T.b_tuple (by decide +kernel) (pda_cons (pd_lc (own := [("_", 2)]) rfl sc_Sums_init.nd (pdi_seq (pd_fld (N := N_Net) (i := 3) T.cl_Net T.na_Net_layers rfl (pd_var 1))) (blkOk_by (N := N_Sums_init_) (sc := defScope s_Sums_init) (by decide +kernel)) (fun _ _ _ _ _ => (pdg_name (i := 2) sc_Sums_init.nd rfl (by first | exact Or.inl rfl | exact Or.inr rfl) (by decide))) (fun _ _ _ _ _ => pdts_nil) (fun _ _ _ _ _ => (pd_fn (ok_no_matrix T) (hr.mono (by decide)) (pda_cons (pd_callB cd_len T.b_len (by decide +kernel) (pda_cons (pd_fld (N := N_Net) (i := 2) T.cl_Net T.na_Net_shift rfl (pd_var 1)) pda_nil)) pda_nil)))) pda_nil))))))) (rd_Sums_init c)
theorem ok_Sums_read (T : Txt mg c) : MtC P w c.K mg base c.Sums 4 "read" ["self", "letter"] (sp_Sums_read c) :=
  MtC.mk T.m_Sums_read sc_Sums_read (by decide) (len_Sums_read c) (fun f cdv A outer s H E hr => (pss_consD (pds_if (pdt_not (pdt_val (pd_mt (N := N_Net) T.cl_Net (ok_Net_is_letter T) (by decide +kernel) (hr.mono (by decide)) (pd_fld (N := N_Sums) (i := 0) T.cl_Sums T.na_Sums_net rfl (pd_var 0)) (pda_cons (pd_var 1) pda_nil)))) (pss_oneD (pds_raise rfl (pdx_mk (xc_InvalidLetter T) (hr.mono (by decide)) (pd_var 1)))) pss_nilD)
  (pss_consD (pds_set (i := 2) sc_Sums_read.nd rfl (by first | exact Or.inl rfl | exact Or.inr rfl) (pd_mk (N := N_LayerReader) (ok_LayerReader_init T) T.mk_LayerReader (by decide +kernel) (by decide) (hr.mono (by decide)) (pda_cons (pd_fld (N := N_Sums) (i := 0) T.cl_Sums T.na_Sums_net rfl (pd_var 0)) (pda_cons (pd_fld (N := N_Sums) (i := 1) T.cl_Sums T.na_Sums_count rfl (pd_var 0)) (pda_cons (pd_fld (N := N_Sums) (i := 2) T.cl_Sums T.na_Sums_matrices rfl (pd_var 0)) pda_nil)))))
  (pss_consD (pds_set (i := 3) sc_Sums_read.nd rfl (by first | exact Or.inl rfl | exact Or.inr rfl) (pd_mt (N := N_LayerReader) T.cl_LayerReader (ok_LayerReader_read T) (by decide +kernel) (hr.mono (by decide)) (pd_var 2) (pda_cons (pd_var 1) pda_nil)))
  (pss_consD (pds_setF (N := N_Sums) (i := 2) T.cl_Sums T.na_Sums_matrices rfl (pd_var 0) (pd_callTy cd_tuple T.b_tuple (by decide +kernel) (pda_cons (pd_fld (N := N_LayerReader) (i := 4) T.cl_LayerReader T.na_LayerReader_matrices rfl (pd_var 2)) pda_nil)))
  (pss_consD (pds_augF (N := N_Sums) (i := 1) T.cl_Sums T.na_Sums_count rfl (pd_var 0) pd_int iopd_add)
  (pss_oneD (pds_ret (pd_var 3))))))))) (rd_Sums_read c)
theorem ok_Sums_twin (T : Txt mg c) : MtC P w c.K mg base c.Sums 4 "twin" ["self"] (sp_Sums_twin c) :=
  MtC.mk T.m_Sums_twin sc_Sums_twin (by decide) (len_Sums_twin c) (fun f cdv A outer s H E hr => (pss_consD (pds_set (i := 1) sc_Sums_twin.nd rfl (by first | exact Or.inl rfl | exact Or.inr rfl) (pd_mk (N := N_Sums) (ok_Sums_init T) T.mk_Sums (by decide +kernel) (by decide) (hr.mono (by decide)) (pda_cons (pd_fld (N := N_Sums) (i := 0) T.cl_Sums T.na_Sums_net rfl (pd_var 0)) pda_nil)))
  (pss_consD (pds_setF (N := N_Sums) (i := 1) T.cl_Sums T.na_Sums_count rfl (pd_var 1) (pd_fld (N := N_Sums) (i := 1) T.cl_Sums T.na_Sums_count rfl (pd_var 0)))
  (pss_consD (pds_setF (N := N_Sums) (i := 2) T.cl_Sums T.na_Sums_matrices rfl (pd_var 1) (pd_fld (N := N_Sums) (i := 2) T.cl_Sums T.na_Sums_matrices rfl (pd_var 0)))
  (pss_oneD (pds_ret (pd_var 1))))))) (rd_Sums_twin c)
theorem ok_Sums_state (T : Txt mg c) : MtC P w c.K mg base c.Sums 2 "state" ["self"] (sp_Sums_state c) :=
  MtC.mk T.m_Sums_state sc_Sums_state (by decide) (len_Sums_state c) (fun f cdv A outer s H E hr => (pss_oneD (pds_ret (pd_tup (pda_cons (pd_mt (N := N_Net) T.cl_Net (ok_Net_rest T) (by decide +kernel) (hr.mono (by decide)) (pd_fld (N := N_Sums) (i := 0) T.cl_Sums T.na_Sums_net rfl (pd_var 0)) (pda_cons (pd_fld (N := N_Sums) (i := 1) T.cl_Sums T.na_Sums_count rfl (pd_var 0)) pda_nil)) (pda_cons (pd_fld (N := N_Sums) (i := 2) T.cl_Sums T.na_Sums_matrices rfl (pd_var 0)) pda_nil)))))) (rd_Sums_state c)
theorem ok_Sums___eq__ (T : Txt mg c) : MtC P w c.K mg base c.Sums 3 "__eq__" ["self", "other"] (sp_Sums___eq__ c) :=
  MtC.mk T.m_Sums___eq__ sc_Sums___eq__ (by decide) (len_Sums___eq__ c) (fun f cdv A outer s H E hr => (pss_consD (pds_if (pdt_not (pdt_val (pd_isO (N := N_Sums) T.oc_Sums (by decide +kernel) (pd_var 1) (pe_cls T.mk_Sums) T.b_isinstance))) (pss_oneD (pds_ret pd_bl)) pss_nilD)
  (pss_oneD (pds_ret (pd_and (pd_cmp (opd_eq hr.units) (pd_fld (N := N_Sums) (i := 1) T.cl_Sums T.na_Sums_count rfl (pd_var 0)) (pd_fld (N := N_Sums) (i := 1) T.cl_Sums T.na_Sums_count rfl (pd_var 1)) (nomark _)) (pd_one (pd_cmp (opd_eq hr.units) (pd_mt0 (N := N_Sums) T.cl_Sums (ok_Sums_state T) (by decide +kernel) (hr.mono (by decide)) (pd_var 0)) (pd_mt0 (N := N_Sums) T.cl_Sums (ok_Sums_state T) (by decide +kernel) (hr.mono (by decide)) (pd_var 1)) (nomark _)))))))) (rd_Sums___eq__ c)
theorem ok_sums_behind (T : Txt mg c) : FnC P w c.K mg base 5 "sums_behind" ["net", "letters"] (sp_sums_behind c) :=
  FnC.mk T.d_sums_behind sc_sums_behind (by decide) (len_sums_behind c) (fun f cdv A outer s H E hr => (pss_consD (pds_for (vs := (List.range 4)) rfl (passes_of rfl) (pdi_seq (pd_var 1)) (pdg_name (i := 2) sc_sums_behind.nd rfl (by first | exact Or.inl rfl | exact Or.inr rfl) (by decide)) (pss_oneD (pds_if (pdt_not (pdt_val (pd_mt (N := N_Net) T.cl_Net (ok_Net_is_letter T) (by decide +kernel) (hr.mono (by decide)) (pd_var 0) (pda_cons (pd_var 2) pda_nil)))) (pss_oneD (pds_raise rfl (pdx_mk (xc_InvalidLetter T) (hr.mono (by decide)) (pd_var 2)))) pss_nilD)))
  (pss_consD (pds_set (i := 3) sc_sums_behind.nd rfl (by first | exact Or.inl rfl | exact Or.inr rfl) (pd_mk (N := N_Sums) (ok_Sums_init T) T.mk_Sums (by decide +kernel) (by decide) (hr.mono (by decide)) (pda_cons (pd_var 0) pda_nil)))
  (pss_consD (pds_for (vs := (List.range 4)) rfl (passes_of rfl) (pdi_seq (pd_var 1)) (pdg_name (i := 2) sc_sums_behind.nd rfl (by first | exact Or.inl rfl | exact Or.inr rfl) (by decide)) (pss_oneD (pds_drop (pd_mt (N := N_Sums) T.cl_Sums (ok_Sums_read T) (by decide +kernel) (hr.mono (by decide)) (pd_var 3) (pda_cons (pd_var 2) pda_nil)))))
  (pss_oneD (pds_ret (pd_var 3))))))) (rd_sums_behind c)
theorem ok__law_pool (T : Txt mg c) : FnC P w c.K mg base 1 "_law_pool" ["script"] (sp__law_pool c) :=
  FnC.mk T.d__law_pool sc__law_pool (by decide) (len__law_pool c) (fun f cdv A outer s H E hr => (pss_oneD (pds_ret (pd_lstM (pda_cons (pd_lc (own := [("cell", 1)]) rfl sc__law_pool.nd (pdi_seq (pd_var 0)) (blkOk_by (N := N__law_pool_) (sc := defScope s__law_pool) (by decide +kernel)) (fun _ _ _ _ _ => (pdg_name (i := 1) sc__law_pool.nd rfl (by first | exact Or.inl rfl | exact Or.inr rfl) (by decide))) (fun _ _ _ _ _ => pdts_nil) (fun _ _ _ _ _ => (pd_callTy cd_int T.b_int (by decide +kernel) (pda_cons (pd_var 1) pda_nil)))) (pda_cons pd_int (pda_cons pd_int (pda_cons pd_int pda_nil)))))))) (rd__law_pool c)
theorem ok__law_draw (T : Txt mg c) : FnC P w c.K mg base 1 "_law_draw" ["pool", "many"] (sp__law_draw c) :=
  FnC.mk T.d__law_draw sc__law_draw (by decide) (len__law_draw c) (fun f cdv A outer s H E hr => (pss_consD (pds_if (pdt_cmp opd_gt (pd_ix ixd (pd_var 0) pd_int) pd_int (nomark _)) (pss_consD (pds_set (i := 2) sc__law_draw.nd rfl (by first | exact Or.inl rfl | exact Or.inr rfl) (pd_op opd_mod (pd_callTy cd_int T.b_int (by decide +kernel) (pda_cons (pd_ix ixd (pd_var 0) pd_int) pda_nil)) (pd_var 1)))
  (pss_consD (pds_setI (pd_var 0) pd_int (pd_op opd_div (pd_ix ixd (pd_var 0) pd_int) (pd_var 1)))
  (pss_oneD (pds_ret (pd_var 2))))) pss_nilD)
  (pss_consD (pds_set (i := 3) sc__law_draw.nd rfl (by first | exact Or.inl rfl | exact Or.inr rfl) pd_int)
  (pss_consD (pds_if (pdt_cmp opd_lt (pd_ix ixd (pd_var 0) pd_int) (pd_callB cd_len T.b_len (by decide +kernel) (pda_cons (pd_ix ixd (pd_var 0) pd_int) pda_nil)) (nomark _)) (pss_consD (pds_set (i := 3) sc__law_draw.nd rfl (by first | exact Or.inl rfl | exact Or.inr rfl) (pd_ix ixd (pd_ix ixd (pd_var 0) pd_int) (pd_ix ixd (pd_var 0) pd_int)))
  (pss_consD (pds_setI (pd_var 0) pd_int (pd_op opd_add (pd_ix ixd (pd_var 0) pd_int) pd_int))
  (pss_oneD (pds_if (pdt_cmp opd_ge (pd_var 3) (pd_op opd_pow pd_int pd_int) (nomark _)) (pss_consD (pds_setI (pd_var 0) pd_int (pd_op opd_div (pd_var 3) (pd_var 1)))
  (pss_oneD (pds_ret (pd_op opd_mod (pd_callTy cd_int T.b_int (by decide +kernel) (pda_cons (pd_var 3) pda_nil)) (pd_var 1))))) pss_nilD)))) pss_nilD)
  (pss_consD (pds_set (i := 4) sc__law_draw.nd rfl (by first | exact Or.inl rfl | exact Or.inr rfl) (pd_op opd_mod (pd_callTy cd_int T.b_int (by decide +kernel) (pda_cons (pd_op opd_add (pd_op opd_add (pd_op opd_mul (pd_ix ixd (pd_var 0) pd_int) (pd_ix ixd (pd_var 0) pd_int)) (pd_op opd_mulS pd_int (pd_var 3))) pd_int) pda_nil)) pd_int))
  (pss_consD (pds_setI (pd_var 0) pd_int (pd_op opd_mod (pd_callTy cd_int T.b_int (by decide +kernel) (pda_cons (pd_op opd_add (pd_op opd_mul (pd_var 4) (pd_var 4)) pd_int) pda_nil)) pd_int))
  (pss_oneD (pds_ret (pd_op opd_mod (pd_op opd_div (pd_ix ixd (pd_var 0) pd_int) pd_int) (pd_var 1)))))))))) (rd__law_draw c)
theorem ok__law_number (T : Txt mg c) : FnC P w c.K mg base 2 "_law_number" ["pool", "prime"] (sp__law_number c) :=
  FnC.mk T.d__law_number sc__law_number (by decide) (len__law_number c) (fun f cdv A outer s H E hr => (pss_consD (pds_set (i := 2) sc__law_number.nd rfl (by first | exact Or.inl rfl | exact Or.inr rfl) (pd_fn (ok__law_draw T) (hr.mono (by decide)) (pda_cons (pd_var 0) (pda_cons pd_int pda_nil))))
  (pss_consD (pds_if (pdt_cmp opd_lt (pd_var 2) pd_int (nomark _)) (pss_oneD (pds_ret (pd_var 2))) pss_nilD)
  (pss_consD (pds_if (pdt_cmp (opd_eq hr.units) (pd_var 2) pd_int (nomark _)) (pss_oneD (pds_ret (pd_op opd_sub (pd_var 1) pd_int))) pss_nilD)
  (pss_oneD (pds_ret (pd_fn (ok__law_draw T) (hr.mono (by decide)) (pda_cons (pd_var 0) (pda_cons (pd_var 1) pda_nil))))))))) (rd__law_number c)
theorem ok__law_matrix (T : Txt mg c) : FnC P w c.K mg base 3 "_law_matrix" ["pool", "prime", "width"] (sp__law_matrix c) :=
  FnC.mk T.d__law_matrix sc__law_matrix (by decide) (len__law_matrix c) (fun f cdv A outer s H E hr => (pss_consD (pds_set (i := 3) sc__law_matrix.nd rfl (by first | exact Or.inl rfl | exact Or.inr rfl) (pd_fn (ok__law_draw T) (hr.mono (by decide)) (pda_cons (pd_var 0) (pda_cons pd_int pda_nil))))
  (pss_consD (pds_if (pdt_cmp opd_lt (pd_var 3) pd_int (nomark _)) (pss_oneD (pds_ret (pd_lc (own := [("i", 4)]) rfl sc__law_matrix.nd (pdi_rg1 T.b_range (pd_var 2)) (blkOk_by (N := N__law_matrix_) (sc := defScope s__law_matrix) (by decide +kernel)) (fun _ _ _ _ _ => (pdg_name (i := 4) sc__law_matrix.nd rfl (by first | exact Or.inl rfl | exact Or.inr rfl) (by decide))) (fun _ _ _ _ _ => pdts_nil) (fun _ _ _ _ _ => (pd_lc (own := [("k", 5)]) rfl sc__law_matrix.nd (pdi_rg1 T.b_range (pd_var 2)) (blkOk_by (N := N__law_matrix_) (sc := relS _ (defScope s__law_matrix)) (by decide +kernel)) (fun _ _ _ _ _ => (pdg_name (i := 5) sc__law_matrix.nd rfl (by first | exact Or.inl rfl | exact Or.inr rfl) (by decide))) (fun _ _ _ _ _ => pdts_nil) (fun _ _ _ _ _ => (pd_op opd_mul (pd_var 3) (pd_callTy cd_int T.b_int (by decide +kernel) (pda_cons (pd_cmp (opd_eq hr.units) (pd_var 4) (pd_var 5) (nomark _)) pda_nil))))))))) pss_nilD)
  (pss_oneD (pds_ret (pd_lc (own := [("i", 4)]) rfl sc__law_matrix.nd (pdi_rg1 T.b_range (pd_var 2)) (blkOk_by (N := N__law_matrix_) (sc := defScope s__law_matrix) (by decide +kernel)) (fun _ _ _ _ _ => (pdg_name (i := 4) sc__law_matrix.nd rfl (by first | exact Or.inl rfl | exact Or.inr rfl) (by decide))) (fun _ _ _ _ _ => pdts_nil) (fun _ _ _ _ _ => (pd_lc (own := [("k", 5)]) rfl sc__law_matrix.nd (pdi_rg1 T.b_range (pd_var 2)) (blkOk_by (N := N__law_matrix_) (sc := relS _ (defScope s__law_matrix)) (by decide +kernel)) (fun _ _ _ _ _ => (pdg_name (i := 5) sc__law_matrix.nd rfl (by first | exact Or.inl rfl | exact Or.inr rfl) (by decide))) (fun _ _ _ _ _ => pdts_nil) (fun _ _ _ _ _ => (pd_fn (ok__law_number T) (hr.mono (by decide)) (pda_cons (pd_var 0) (pda_cons (pd_var 1) pda_nil)))))))))))) (rd__law_matrix c)
theorem ok__law_net (T : Txt mg c) : FnC P w c.K mg base 4 "_law_net" ["pool", "prime", "letters", "width", "many"] (sp__law_net c) :=
  FnC.mk T.d__law_net sc__law_net (by decide) (len__law_net c) (fun f cdv A outer s H E hr => (pss_consD (by first | exact pds_setLc (i := 5) rfl sc__law_net.nd rfl rfl (sw_true rfl rfl rfl (by decide +kernel)) (own := [("a", 10)]) (pdi_rg1 T.b_range (pd_var 2)) (blkOk_by (N := N__law_net_) (sc := defScope s__law_net) (by decide +kernel)) (fun _ _ _ _ _ => (pdg_name (i := 10) sc__law_net.nd rfl (by first | exact Or.inl rfl | exact Or.inr rfl) (by decide))) (fun _ _ _ _ _ => pdts_nil) (fun _ _ _ _ _ => (pd_lc (own := [("k", 11)]) rfl sc__law_net.nd (pdi_rg1 T.b_range (pd_var 3)) (blkOk_by (N := N__law_net_) (sc := relS _ (defScope s__law_net)) (by decide +kernel)) (fun _ _ _ _ _ => (pdg_name (i := 11) sc__law_net.nd rfl (by first | exact Or.inl rfl | exact Or.inr rfl) (by decide))) (fun _ _ _ _ _ => pdts_nil) (fun _ _ _ _ _ => (pd_fn (ok__law_number T) (hr.mono (by decide)) (pda_cons (pd_var 0) (pda_cons (pd_var 1) pda_nil)))))) | exact pds_set (i := 5) sc__law_net.nd rfl (by first | exact Or.inl rfl | exact Or.inr rfl) (pd_lc (own := [("a", 10)]) rfl sc__law_net.nd (pdi_rg1 T.b_range (pd_var 2)) (blkOk_by (N := N__law_net_) (sc := defScope s__law_net) (by decide +kernel)) (fun _ _ _ _ _ => (pdg_name (i := 10) sc__law_net.nd rfl (by first | exact Or.inl rfl | exact Or.inr rfl) (by decide))) (fun _ _ _ _ _ => pdts_nil) (fun _ _ _ _ _ => (pd_lc (own := [("k", 11)]) rfl sc__law_net.nd (pdi_rg1 T.b_range (pd_var 3)) (blkOk_by (N := N__law_net_) (sc := relS _ (defScope s__law_net)) (by decide +kernel)) (fun _ _ _ _ _ => (pdg_name (i := 11) sc__law_net.nd rfl (by first | exact Or.inl rfl | exact Or.inr rfl) (by decide))) (fun _ _ _ _ _ => pdts_nil) (fun _ _ _ _ _ => (pd_fn (ok__law_number T) (hr.mono (by decide)) (pda_cons (pd_var 0) (pda_cons (pd_var 1) pda_nil))))))))
  (pss_consD (by first | exact pds_setLc (i := 6) rfl sc__law_net.nd rfl rfl (sw_true rfl rfl rfl (by decide +kernel)) (own := [("k", 11)]) (pdi_rg1 T.b_range (pd_var 3)) (blkOk_by (N := N__law_net_) (sc := defScope s__law_net) (by decide +kernel)) (fun _ _ _ _ _ => (pdg_name (i := 11) sc__law_net.nd rfl (by first | exact Or.inl rfl | exact Or.inr rfl) (by decide))) (fun _ _ _ _ _ => pdts_nil) (fun _ _ _ _ _ => (pd_fn (ok__law_number T) (hr.mono (by decide)) (pda_cons (pd_var 0) (pda_cons (pd_var 1) pda_nil)))) | exact pds_set (i := 6) sc__law_net.nd rfl (by first | exact Or.inl rfl | exact Or.inr rfl) (pd_lc (own := [("k", 11)]) rfl sc__law_net.nd (pdi_rg1 T.b_range (pd_var 3)) (blkOk_by (N := N__law_net_) (sc := defScope s__law_net) (by decide +kernel)) (fun _ _ _ _ _ => (pdg_name (i := 11) sc__law_net.nd rfl (by first | exact Or.inl rfl | exact Or.inr rfl) (by decide))) (fun _ _ _ _ _ => pdts_nil) (fun _ _ _ _ _ => (pd_fn (ok__law_number T) (hr.mono (by decide)) (pda_cons (pd_var 0) (pda_cons (pd_var 1) pda_nil))))))
  (pss_consD (by first | exact pds_setLc (i := 7) rfl sc__law_net.nd rfl rfl (sw_true rfl rfl rfl (by decide +kernel)) (own := [("at", 12)]) (pdi_rg1 T.b_range (pd_var 4)) (blkOk_by (N := N__law_net_) (sc := defScope s__law_net) (by decide +kernel)) (fun _ _ _ _ _ => (pdg_name (i := 12) sc__law_net.nd rfl (by first | exact Or.inl rfl | exact Or.inr rfl) (by decide))) (fun _ _ _ _ _ => pdts_nil) (fun _ _ _ _ _ => (pd_callTy cd_tuple T.b_tuple (by decide +kernel) (pda_cons (pd_lc (own := [("m", 13)]) rfl sc__law_net.nd (pdi_rg1 T.b_range pd_int) (blkOk_by (N := N__law_net_) (sc := relS _ (defScope s__law_net)) (by decide +kernel)) (fun _ _ _ _ _ => (pdg_name (i := 13) sc__law_net.nd rfl (by first | exact Or.inl rfl | exact Or.inr rfl) (by decide))) (fun _ _ _ _ _ => pdts_nil) (fun _ _ _ _ _ => (pd_fn (ok__law_matrix T) (hr.mono (by decide)) (pda_cons (pd_var 0) (pda_cons (pd_var 1) (pda_cons (pd_var 3) pda_nil)))))) pda_nil))) | exact pds_set (i := 7) sc__law_net.nd rfl (by first | exact Or.inl rfl | exact Or.inr rfl) (pd_lc (own := [("at", 12)]) rfl sc__law_net.nd (pdi_rg1 T.b_range (pd_var 4)) (blkOk_by (N := N__law_net_) (sc := defScope s__law_net) (by decide +kernel)) (fun _ _ _ _ _ => (pdg_name (i := 12) sc__law_net.nd rfl (by first | exact Or.inl rfl | exact Or.inr rfl) (by decide))) (fun _ _ _ _ _ => pdts_nil) (fun _ _ _ _ _ => (pd_callTy cd_tuple T.b_tuple (by decide +kernel) (pda_cons (pd_lc (own := [("m", 13)]) rfl sc__law_net.nd (pdi_rg1 T.b_range pd_int) (blkOk_by (N := N__law_net_) (sc := relS _ (defScope s__law_net)) (by decide +kernel)) (fun _ _ _ _ _ => (pdg_name (i := 13) sc__law_net.nd rfl (by first | exact Or.inl rfl | exact Or.inr rfl) (by decide))) (fun _ _ _ _ _ => pdts_nil) (fun _ _ _ _ _ => (pd_fn (ok__law_matrix T) (hr.mono (by decide)) (pda_cons (pd_var 0) (pda_cons (pd_var 1) (pda_cons (pd_var 3) pda_nil)))))) pda_nil)))))
  (pss_consD (by first | exact pds_setLc (i := 8) rfl sc__law_net.nd rfl rfl (sw_true rfl rfl rfl (by decide +kernel)) (own := [("a", 10)]) (pdi_rg1 T.b_range (pd_var 2)) (blkOk_by (N := N__law_net_) (sc := defScope s__law_net) (by decide +kernel)) (fun _ _ _ _ _ => (pdg_name (i := 10) sc__law_net.nd rfl (by first | exact Or.inl rfl | exact Or.inr rfl) (by decide))) (fun _ _ _ _ _ => pdts_nil) (fun _ _ _ _ _ => (pd_lc (own := [("k", 11)]) rfl sc__law_net.nd (pdi_rg1 T.b_range (pd_var 3)) (blkOk_by (N := N__law_net_) (sc := relS _ (defScope s__law_net)) (by decide +kernel)) (fun _ _ _ _ _ => (pdg_name (i := 11) sc__law_net.nd rfl (by first | exact Or.inl rfl | exact Or.inr rfl) (by decide))) (fun _ _ _ _ _ => pdts_nil) (fun _ _ _ _ _ => (pd_fn (ok__law_number T) (hr.mono (by decide)) (pda_cons (pd_var 0) (pda_cons (pd_var 1) pda_nil)))))) | exact pds_set (i := 8) sc__law_net.nd rfl (by first | exact Or.inl rfl | exact Or.inr rfl) (pd_lc (own := [("a", 10)]) rfl sc__law_net.nd (pdi_rg1 T.b_range (pd_var 2)) (blkOk_by (N := N__law_net_) (sc := defScope s__law_net) (by decide +kernel)) (fun _ _ _ _ _ => (pdg_name (i := 10) sc__law_net.nd rfl (by first | exact Or.inl rfl | exact Or.inr rfl) (by decide))) (fun _ _ _ _ _ => pdts_nil) (fun _ _ _ _ _ => (pd_lc (own := [("k", 11)]) rfl sc__law_net.nd (pdi_rg1 T.b_range (pd_var 3)) (blkOk_by (N := N__law_net_) (sc := relS _ (defScope s__law_net)) (by decide +kernel)) (fun _ _ _ _ _ => (pdg_name (i := 11) sc__law_net.nd rfl (by first | exact Or.inl rfl | exact Or.inr rfl) (by decide))) (fun _ _ _ _ _ => pdts_nil) (fun _ _ _ _ _ => (pd_fn (ok__law_number T) (hr.mono (by decide)) (pda_cons (pd_var 0) (pda_cons (pd_var 1) pda_nil))))))))
  (pss_consD (pds_set (i := 9) sc__law_net.nd rfl (by first | exact Or.inl rfl | exact Or.inr rfl) pd_non)
  (pss_consD (pds_if (pdt_cmp (opd_eq hr.units) (pd_fn (ok__law_draw T) (hr.mono (by decide)) (pda_cons (pd_var 0) (pda_cons pd_int pda_nil))) pd_int (nomark _)) (pss_oneD (pds_set (i := 9) sc__law_net.nd rfl (by first | exact Or.inl rfl | exact Or.inr rfl) (pd_fn (ok__law_draw T) (hr.mono (by decide)) (pda_cons (pd_var 0) (pda_cons (pd_var 2) pda_nil))))) pss_nilD)
  (pss_oneD (pds_ret (pd_lst (pda_cons (pd_var 1) (pda_cons (pd_var 5) (pda_cons (pd_var 6) (pda_cons (pd_var 7) (pda_cons (pd_var 8) (pda_cons (pd_var 9) pda_nil)))))))))))))))) (rd__law_net c)
theorem ok__law_wide_net (T : Txt mg c) : FnC P w c.K mg base 5 "_law_wide_net" ["pool"] (sp__law_wide_net c) :=
  FnC.mk T.d__law_wide_net sc__law_wide_net (by decide) (len__law_wide_net c) (fun f cdv A outer s H E hr => (pss_consD (pds_set (i := 1) sc__law_wide_net.nd rfl (by first | exact Or.inl rfl | exact Or.inr rfl) (pd_lst (pda_cons pd_int (pda_cons pd_int (pda_cons pd_int (pda_cons pd_int (pda_cons pd_int (pda_cons pd_int (pda_cons pd_int (pda_cons pd_int (pda_cons pd_int (pda_cons pd_int (pda_cons pd_int (pda_cons pd_int (pda_cons pd_int (pda_cons pd_int (pda_cons pd_int (pda_cons pd_int (pda_cons pd_int (pda_cons pd_int (pda_cons pd_int (pda_cons pd_int (pda_cons pd_int (pda_cons pd_int (pda_cons pd_int (pda_cons pd_int (pda_cons pd_int pda_nil)))))))))))))))))))))))))))
  (pss_consD (pds_set (i := 2) sc__law_wide_net.nd rfl (by first | exact Or.inl rfl | exact Or.inr rfl) (pd_ix ixd (pd_var 1) (pd_fn (ok__law_draw T) (hr.mono (by decide)) (pda_cons (pd_var 0) (pda_cons pd_int pda_nil)))))
  (pss_consD (pds_set (i := 3) sc__law_wide_net.nd rfl (by first | exact Or.inl rfl | exact Or.inr rfl) (pd_op opd_add pd_int (pd_fn (ok__law_draw T) (hr.mono (by decide)) (pda_cons (pd_var 0) (pda_cons pd_int pda_nil)))))
  (pss_consD (pds_if (pdt_cmp (opd_eq hr.units) (pd_fn (ok__law_draw T) (hr.mono (by decide)) (pda_cons (pd_var 0) (pda_cons pd_int pda_nil))) pd_int (nomark _)) (pss_oneD (pds_set (i := 3) sc__law_wide_net.nd rfl (by first | exact Or.inl rfl | exact Or.inr rfl) (pd_op opd_add pd_int (pd_fn (ok__law_draw T) (hr.mono (by decide)) (pda_cons (pd_var 0) (pda_cons pd_int pda_nil)))))) pss_nilD)
  (pss_oneD (pds_ret (pd_fn (ok__law_net T) (hr.mono (by decide)) (pda_cons (pd_var 0) (pda_cons (pd_var 2) (pda_cons (pd_var 3) (pda_cons (pd_op opd_add pd_int (pd_fn (ok__law_draw T) (hr.mono (by decide)) (pda_cons (pd_var 0) (pda_cons pd_int pda_nil)))) (pda_cons (pd_fn (ok__law_draw T) (hr.mono (by decide)) (pda_cons (pd_var 0) (pda_cons pd_int pda_nil))) pda_nil))))))))))))) (rd__law_wide_net c)
theorem ok__law_copy (T : Txt mg c) : FnC P w c.K mg base 1 "_law_copy" ["plan"] (sp__law_copy c) :=
  FnC.mk T.d__law_copy sc__law_copy (by decide) (len__law_copy c) (fun f cdv A outer s H E hr => (pss_consD (by first | exact pds_setLcM (i := 1) rfl sc__law_copy.nd rfl rfl (sw_true rfl rfl rfl (by decide +kernel)) (own := [("layer", 2)]) (pdi_seq (pd_ix ixd (pd_var 0) pd_int)) (blkOk_by (N := N__law_copy_) (sc := defScope s__law_copy) (by decide +kernel)) (fun _ _ _ _ _ => (pdg_name (i := 2) sc__law_copy.nd rfl (by first | exact Or.inl rfl | exact Or.inr rfl) (by decide))) (fun _ _ _ _ _ => pdts_nil) (fun _ _ _ _ _ => (pd_callTy cd_tuple T.b_tuple (by decide +kernel) (pda_cons (pd_lc (own := [("grid", 3)]) rfl sc__law_copy.nd (pdi_seq (pd_var 2)) (blkOk_by (N := N__law_copy_) (sc := relS _ (defScope s__law_copy)) (by decide +kernel)) (fun _ _ _ _ _ => (pdg_name (i := 3) sc__law_copy.nd rfl (by first | exact Or.inl rfl | exact Or.inr rfl) (by decide))) (fun _ _ _ _ _ => pdts_nil) (fun _ _ _ _ _ => (pd_lcM (own := [("row", 4)]) rfl sc__law_copy.nd (pdi_seq (pd_var 3)) (blkOk_by (N := N__law_copy_) (sc := relS _ (defScope s__law_copy)) (by decide +kernel)) (fun _ _ _ _ _ => (pdg_name (i := 4) sc__law_copy.nd rfl (by first | exact Or.inl rfl | exact Or.inr rfl) (by decide))) (fun _ _ _ _ _ => pdts_nil) (fun _ _ _ _ _ => (pd_callTy cd_list T.b_list (by decide +kernel) (pda_cons (pd_var 4) pda_nil)))))) pda_nil))) | exact pds_set (i := 1) sc__law_copy.nd rfl (by first | exact Or.inl rfl | exact Or.inr rfl) (pd_lcM (own := [("layer", 2)]) rfl sc__law_copy.nd (pdi_seq (pd_ix ixd (pd_var 0) pd_int)) (blkOk_by (N := N__law_copy_) (sc := defScope s__law_copy) (by decide +kernel)) (fun _ _ _ _ _ => (pdg_name (i := 2) sc__law_copy.nd rfl (by first | exact Or.inl rfl | exact Or.inr rfl) (by decide))) (fun _ _ _ _ _ => pdts_nil) (fun _ _ _ _ _ => (pd_callTy cd_tuple T.b_tuple (by decide +kernel) (pda_cons (pd_lc (own := [("grid", 3)]) rfl sc__law_copy.nd (pdi_seq (pd_var 2)) (blkOk_by (N := N__law_copy_) (sc := relS _ (defScope s__law_copy)) (by decide +kernel)) (fun _ _ _ _ _ => (pdg_name (i := 3) sc__law_copy.nd rfl (by first | exact Or.inl rfl | exact Or.inr rfl) (by decide))) (fun _ _ _ _ _ => pdts_nil) (fun _ _ _ _ _ => (pd_lcM (own := [("row", 4)]) rfl sc__law_copy.nd (pdi_seq (pd_var 3)) (blkOk_by (N := N__law_copy_) (sc := relS _ (defScope s__law_copy)) (by decide +kernel)) (fun _ _ _ _ _ => (pdg_name (i := 4) sc__law_copy.nd rfl (by first | exact Or.inl rfl | exact Or.inr rfl) (by decide))) (fun _ _ _ _ _ => pdts_nil) (fun _ _ _ _ _ => (pd_callTy cd_list T.b_list (by decide +kernel) (pda_cons (pd_var 4) pda_nil)))))) pda_nil)))))
  (pss_oneD (pds_ret (pd_lst (pda_cons (pd_ix ixd (pd_var 0) pd_int) (pda_cons (pd_lcM (own := [("v", 5)]) rfl sc__law_copy.nd (pdi_seq (pd_ix ixd (pd_var 0) pd_int)) (blkOk_by (N := N__law_copy_) (sc := defScope s__law_copy) (by decide +kernel)) (fun _ _ _ _ _ => (pdg_name (i := 5) sc__law_copy.nd rfl (by first | exact Or.inl rfl | exact Or.inr rfl) (by decide))) (fun _ _ _ _ _ => pdts_nil) (fun _ _ _ _ _ => (pd_callTy cd_listM T.b_list (by decide +kernel) (pda_cons (pd_var 5) pda_nil)))) (pda_cons (pd_callTy cd_listM T.b_list (by decide +kernel) (pda_cons (pd_ix ixd (pd_var 0) pd_int) pda_nil)) (pda_cons (pd_var 1) (pda_cons (pd_lcM (own := [("v", 5)]) rfl sc__law_copy.nd (pdi_seq (pd_ix ixd (pd_var 0) pd_int)) (blkOk_by (N := N__law_copy_) (sc := defScope s__law_copy) (by decide +kernel)) (fun _ _ _ _ _ => (pdg_name (i := 5) sc__law_copy.nd rfl (by first | exact Or.inl rfl | exact Or.inr rfl) (by decide))) (fun _ _ _ _ _ => pdts_nil) (fun _ _ _ _ _ => (pd_callTy cd_listM T.b_list (by decide +kernel) (pda_cons (pd_var 5) pda_nil)))) (pda_cons (pd_ix ixd (pd_var 0) pd_int) pda_nil))))))))))) (rd__law_copy c)
theorem ok__law_made (T : Txt mg c) : FnC P w c.K mg base 5 "_law_made" ["plan", "loose"] (sp__law_made c) :=
  FnC.mk T.d__law_made sc__law_made (by decide) (len__law_made c) (fun f cdv A outer s H E hr => (pss_consD (pds_set (i := 2) sc__law_made.nd rfl (by first | exact Or.inl rfl | exact Or.inr rfl) (pd_fn (ok__law_copy T) (hr.mono (by decide)) (pda_cons (pd_var 0) pda_nil)))
  (pss_consD (pds_if (pdt_not (pdt_val (pd_var 1))) (pss_consD (by first | exact pds_setLc (i := 3) rfl sc__law_made.nd rfl rfl (sw_true rfl rfl rfl (by decide +kernel)) (own := [("layer", 9)]) (pdi_seq (pd_ix ixd (pd_var 2) pd_int)) (blkOk_by (N := N__law_made_) (sc := defScope s__law_made) (by decide +kernel)) (fun _ _ _ _ _ => (pdg_name (i := 9) sc__law_made.nd rfl (by first | exact Or.inl rfl | exact Or.inr rfl) (by decide))) (fun _ _ _ _ _ => pdts_nil) (fun _ _ _ _ _ => (pd_callTy cd_tuple T.b_tuple (by decide +kernel) (pda_cons (pd_lc (own := [("grid", 8)]) rfl sc__law_made.nd (pdi_seq (pd_var 9)) (blkOk_by (N := N__law_made_) (sc := relS _ (defScope s__law_made)) (by decide +kernel)) (fun _ _ _ _ _ => (pdg_name (i := 8) sc__law_made.nd rfl (by first | exact Or.inl rfl | exact Or.inr rfl) (by decide))) (fun _ _ _ _ _ => pdts_nil) (fun _ _ _ _ _ => (pd_callTy cd_tuple T.b_tuple (by decide +kernel) (pda_cons (pd_lc (own := [("row", 10)]) rfl sc__law_made.nd (pdi_seq (pd_var 8)) (blkOk_by (N := N__law_made_) (sc := relS _ (defScope s__law_made)) (by decide +kernel)) (fun _ _ _ _ _ => (pdg_name (i := 10) sc__law_made.nd rfl (by first | exact Or.inl rfl | exact Or.inr rfl) (by decide))) (fun _ _ _ _ _ => pdts_nil) (fun _ _ _ _ _ => (pd_callTy cd_tuple T.b_tuple (by decide +kernel) (pda_cons (pd_var 10) pda_nil)))) pda_nil)))) pda_nil))) | exact pds_set (i := 3) sc__law_made.nd rfl (by first | exact Or.inl rfl | exact Or.inr rfl) (pd_lc (own := [("layer", 9)]) rfl sc__law_made.nd (pdi_seq (pd_ix ixd (pd_var 2) pd_int)) (blkOk_by (N := N__law_made_) (sc := defScope s__law_made) (by decide +kernel)) (fun _ _ _ _ _ => (pdg_name (i := 9) sc__law_made.nd rfl (by first | exact Or.inl rfl | exact Or.inr rfl) (by decide))) (fun _ _ _ _ _ => pdts_nil) (fun _ _ _ _ _ => (pd_callTy cd_tuple T.b_tuple (by decide +kernel) (pda_cons (pd_lc (own := [("grid", 8)]) rfl sc__law_made.nd (pdi_seq (pd_var 9)) (blkOk_by (N := N__law_made_) (sc := relS _ (defScope s__law_made)) (by decide +kernel)) (fun _ _ _ _ _ => (pdg_name (i := 8) sc__law_made.nd rfl (by first | exact Or.inl rfl | exact Or.inr rfl) (by decide))) (fun _ _ _ _ _ => pdts_nil) (fun _ _ _ _ _ => (pd_callTy cd_tuple T.b_tuple (by decide +kernel) (pda_cons (pd_lc (own := [("row", 10)]) rfl sc__law_made.nd (pdi_seq (pd_var 8)) (blkOk_by (N := N__law_made_) (sc := relS _ (defScope s__law_made)) (by decide +kernel)) (fun _ _ _ _ _ => (pdg_name (i := 10) sc__law_made.nd rfl (by first | exact Or.inl rfl | exact Or.inr rfl) (by decide))) (fun _ _ _ _ _ => pdts_nil) (fun _ _ _ _ _ => (pd_callTy cd_tuple T.b_tuple (by decide +kernel) (pda_cons (pd_var 10) pda_nil)))) pda_nil)))) pda_nil)))))
  (pss_consD (pds_set (i := 4) sc__law_made.nd rfl (by first | exact Or.inl rfl | exact Or.inr rfl) (pd_callTy cd_tuple T.b_tuple (by decide +kernel) (pda_cons (pd_lc (own := [("v", 6)]) rfl sc__law_made.nd (pdi_seq (pd_ix ixd (pd_var 2) pd_int)) (blkOk_by (N := N__law_made_) (sc := defScope s__law_made) (by decide +kernel)) (fun _ _ _ _ _ => (pdg_name (i := 6) sc__law_made.nd rfl (by first | exact Or.inl rfl | exact Or.inr rfl) (by decide))) (fun _ _ _ _ _ => pdts_nil) (fun _ _ _ _ _ => (pd_callTy cd_tuple T.b_tuple (by decide +kernel) (pda_cons (pd_var 6) pda_nil)))) pda_nil)))
  (pss_oneD (pds_ret (pd_frz (pd_mk (N := N_Net) (ok_Net_init T) T.mk_Net (by decide +kernel) (by decide) (hr.mono (by decide)) (pda_cons (pd_ix ixd (pd_var 2) pd_int) (pda_cons (pd_var 4) (pda_cons (pd_callTy cd_tuple T.b_tuple (by decide +kernel) (pda_cons (pd_ix ixd (pd_var 2) pd_int) pda_nil)) (pda_cons (pd_callTy cd_tuple T.b_tuple (by decide +kernel) (pda_cons (pd_var 3) pda_nil)) (pda_cons (pd_callTy cd_tuple T.b_tuple (by decide +kernel) (pda_cons (pd_lc (own := [("v", 6)]) rfl sc__law_made.nd (pdi_seq (pd_ix ixd (pd_var 2) pd_int)) (blkOk_by (N := N__law_made_) (sc := defScope s__law_made) (by decide +kernel)) (fun _ _ _ _ _ => (pdg_name (i := 6) sc__law_made.nd rfl (by first | exact Or.inl rfl | exact Or.inr rfl) (by decide))) (fun _ _ _ _ _ => pdts_nil) (fun _ _ _ _ _ => (pd_callTy cd_tuple T.b_tuple (by decide +kernel) (pda_cons (pd_var 6) pda_nil)))) pda_nil)) (pda_cons (pd_ix ixd (pd_var 2) pd_int) pda_nil)))))))))))) pss_nilD)
  (pss_consD (pds_set (i := 5) sc__law_made.nd rfl (by first | exact Or.inl rfl | exact Or.inr rfl) (pd_frz (pd_mk (N := N_Net) (ok_Net_init T) T.mk_Net (by decide +kernel) (by decide) (hr.mono (by decide)) (pda_cons (pd_ix ixd (pd_var 2) pd_int) (pda_cons (pd_ix ixd (pd_var 2) pd_int) (pda_cons (pd_ix ixd (pd_var 2) pd_int) (pda_cons (pd_ix ixd (pd_var 2) pd_int) (pda_cons (pd_ix ixd (pd_var 2) pd_int) (pda_cons (pd_ix ixd (pd_var 2) pd_int) pda_nil)))))))))
  (pss_consD (pds_for (vs := (List.range 12)) rfl (passes_of rfl) (pdi_seq (pd_op opd_add (pd_ix ixd (pd_var 2) pd_int) (pd_ix ixd (pd_var 2) pd_int))) (pdg_name (i := 6) sc__law_made.nd rfl (by first | exact Or.inl rfl | exact Or.inr rfl) (by decide)) (pss_oneD (pds_setI (pd_var 6) pd_int (pd_op opd_add (pd_ix ixd (pd_var 6) pd_int) pd_int))))
  (pss_consD (pds_setI (pd_ix ixd (pd_var 2) pd_int) pd_int (pd_op opd_add (pd_ix ixd (pd_ix ixd (pd_var 2) pd_int) pd_int) pd_int))
  (pss_consD (pds_for (vs := (List.range 12)) rfl (passes_of rfl) (pdi_rg1 T.b_range (pd_callB cd_len T.b_len (by decide +kernel) (pda_cons (pd_ix ixd (pd_var 2) pd_int) pda_nil))) (pdg_name (i := 7) sc__law_made.nd rfl (by first | exact Or.inl rfl | exact Or.inr rfl) (by decide)) (pss_consD (pds_set (i := 8) sc__law_made.nd rfl (by first | exact Or.inl rfl | exact Or.inr rfl) (pd_ix ixd (pd_ix ixd (pd_ix ixd (pd_var 2) pd_int) (pd_var 7)) (pd_var 7)))
  (pss_oneD (pds_setI (pd_var 8) pd_int (pd_lc (own := [("k", 11)]) rfl sc__law_made.nd (pdi_seq (pd_ix ixd (pd_var 8) pd_int)) (blkOk_by (N := N__law_made_) (sc := defScope s__law_made) (by decide +kernel)) (fun _ _ _ _ _ => (pdg_name (i := 11) sc__law_made.nd rfl (by first | exact Or.inl rfl | exact Or.inr rfl) (by decide))) (fun _ _ _ _ _ => pdts_nil) (fun _ _ _ _ _ => (pd_op opd_add (pd_var 11) pd_int)))))))
  (pss_consD (pds_drop (pd_lm0 PySem.F.slot_list_reverse PySem.F.type_list_reverse md_reverse (pd_ix ixd (pd_var 2) pd_int)))
  (pss_consD (pds_drop (pd_lm PySem.F.slot_list_append PySem.F.type_list_append md_append (pd_ix ixd (pd_var 2) pd_int) (pda_cons (pd_tup pda_nil) pda_nil)))
  (pss_consD (pds_drop (pd_lm PySem.F.slot_list_append PySem.F.type_list_append md_append (pd_ix ixd (pd_var 2) pd_int) (pda_cons (pd_lst (pda_cons pd_int pda_nil)) pda_nil)))
  (pss_oneD (pds_ret (pd_var 5))))))))))))) (rd__law_made c)
theorem ok__law_times (T : Txt mg c) : FnC P w c.K mg base 1 "_law_times" ["grid", "x", "prime"] (sp__law_times c) :=
  FnC.mk T.d__law_times sc__law_times (by decide) (len__law_times c) (fun f cdv A outer s H E hr => (pss_oneD (pds_ret (pd_lc (own := [("row", 3)]) rfl sc__law_times.nd (pdi_seq (pd_var 0)) (blkOk_by (N := N__law_times_) (sc := defScope s__law_times) (by decide +kernel)) (fun _ _ _ _ _ => (pdg_name (i := 3) sc__law_times.nd rfl (by first | exact Or.inl rfl | exact Or.inr rfl) (by decide))) (fun _ _ _ _ _ => pdts_nil) (fun _ _ _ _ _ => (pd_op opd_mod (pd_callB (cd_sum rfl) T.b_sum (by decide +kernel) (pda_cons (pd_lc (own := [("k", 4)]) rfl sc__law_times.nd (pdi_rg1 T.b_range (pd_callB cd_len T.b_len (by decide +kernel) (pda_cons (pd_var 1) pda_nil))) (blkOk_by (N := N__law_times_) (sc := relS _ (defScope s__law_times)) (by decide +kernel)) (fun _ _ _ _ _ => (pdg_name (i := 4) sc__law_times.nd rfl (by first | exact Or.inl rfl | exact Or.inr rfl) (by decide))) (fun _ _ _ _ _ => pdts_nil) (fun _ _ _ _ _ => (pd_op opd_mul (pd_ix ixd (pd_var 3) (pd_var 4)) (pd_ix ixd (pd_var 1) (pd_var 4))))) pda_nil)) (pd_var 2))))))) (rd__law_times c)
theorem ok__law_row (T : Txt mg c) : FnC P w c.K mg base 2 "_law_row" ["plan", "before", "letter", "begin"] (sp__law_row c) :=
  FnC.mk T.d__law_row sc__law_row (by decide) (len__law_row c) (fun f cdv A outer s H E hr => (pss_consD (pds_set (i := 4) sc__law_row.nd rfl (by first | exact Or.inl rfl | exact Or.inr rfl) (pd_ix ixd (pd_var 0) pd_int))
  (pss_consD (pds_set (i := 5) sc__law_row.nd rfl (by first | exact Or.inl rfl | exact Or.inr rfl) (pd_listRg rfl T.b_list T.b_range (pd_callB cd_len T.b_len (by decide +kernel) (pda_cons (pd_ix ixd (pd_var 0) pd_int) pda_nil))))
  (pss_consD (by first | exact pds_setLc (i := 6) rfl sc__law_row.nd rfl rfl (sw_true rfl rfl rfl (by decide +kernel)) (own := [("k", 20)]) (pdi_seq (pd_var 5)) (blkOk_by (N := N__law_row_) (sc := defScope s__law_row) (by decide +kernel)) (fun _ _ _ _ _ => (pdg_name (i := 20) sc__law_row.nd rfl (by first | exact Or.inl rfl | exact Or.inr rfl) (by decide))) (fun _ _ _ _ _ => pdts_nil) (fun _ _ _ _ _ => (pd_op opd_mod (pd_callTy cd_int T.b_int (by decide +kernel) (pda_cons (pd_op opd_add (pd_ix ixd (pd_ix ixd (pd_ix ixd (pd_var 0) pd_int) (pd_var 2)) (pd_var 20)) (pd_op opd_mul (pd_callB cd_len T.b_len (by decide +kernel) (pda_cons (pd_var 1) pda_nil)) (pd_ix ixd (pd_ix ixd (pd_var 0) pd_int) (pd_var 20)))) pda_nil)) (pd_var 4))) | exact pds_set (i := 6) sc__law_row.nd rfl (by first | exact Or.inl rfl | exact Or.inr rfl) (pd_lc (own := [("k", 20)]) rfl sc__law_row.nd (pdi_seq (pd_var 5)) (blkOk_by (N := N__law_row_) (sc := defScope s__law_row) (by decide +kernel)) (fun _ _ _ _ _ => (pdg_name (i := 20) sc__law_row.nd rfl (by first | exact Or.inl rfl | exact Or.inr rfl) (by decide))) (fun _ _ _ _ _ => pdts_nil) (fun _ _ _ _ _ => (pd_op opd_mod (pd_callTy cd_int T.b_int (by decide +kernel) (pda_cons (pd_op opd_add (pd_ix ixd (pd_ix ixd (pd_ix ixd (pd_var 0) pd_int) (pd_var 2)) (pd_var 20)) (pd_op opd_mul (pd_callB cd_len T.b_len (by decide +kernel) (pda_cons (pd_var 1) pda_nil)) (pd_ix ixd (pd_ix ixd (pd_var 0) pd_int) (pd_var 20)))) pda_nil)) (pd_var 4)))))
  (pss_consD (pds_set (i := 7) sc__law_row.nd rfl (by first | exact Or.inl rfl | exact Or.inr rfl) (pd_lstM pda_nil))
  (pss_consD (pds_for (vs := (List.range 24)) rfl (passes_of rfl) (pdi_rg1 T.b_range (pd_callB cd_len T.b_len (by decide +kernel) (pda_cons (pd_ix ixd (pd_var 0) pd_int) pda_nil))) (pdg_name (i := 8) sc__law_row.nd rfl (by first | exact Or.inl rfl | exact Or.inr rfl) (by decide)) (pss_consD (pds_asgG (vs := (List.range 24)) (pd_ix ixd (pd_ix ixd (pd_var 0) pd_int) (pd_var 8)) (pdg_tup rfl (pdgs_cons (pdg_name (i := 9) sc__law_row.nd rfl (by first | exact Or.inl rfl | exact Or.inr rfl) (by decide)) (pdgs_cons (pdg_name (i := 10) sc__law_row.nd rfl (by first | exact Or.inl rfl | exact Or.inr rfl) (by decide)) (pdgs_cons (pdg_name (i := 11) sc__law_row.nd rfl (by first | exact Or.inl rfl | exact Or.inr rfl) (by decide)) (pdgs_cons (pdg_name (i := 12) sc__law_row.nd rfl (by first | exact Or.inl rfl | exact Or.inr rfl) (by decide)) (pdgs_cons (pdg_name (i := 13) sc__law_row.nd rfl (by first | exact Or.inl rfl | exact Or.inr rfl) (by decide)) pdgs_nil)))))))
  (pss_consD (pds_set (i := 14) sc__law_row.nd rfl (by first | exact Or.inl rfl | exact Or.inr rfl) (pd_fn (ok__law_times T) (hr.mono (by decide)) (pda_cons (pd_var 9) (pda_cons (pd_var 6) (pda_cons (pd_var 4) pda_nil)))))
  (pss_consD (pds_set (i := 15) sc__law_row.nd rfl (by first | exact Or.inl rfl | exact Or.inr rfl) (pd_tup (pda_cons (pd_callTy cd_tuple T.b_tuple (by decide +kernel) (pda_cons (pd_fn (ok__law_times T) (hr.mono (by decide)) (pda_cons (pd_var 10) (pda_cons (pd_var 6) (pda_cons (pd_var 4) pda_nil)))) pda_nil)) (pda_cons (pd_callTy cd_tuple T.b_tuple (by decide +kernel) (pda_cons (pd_fn (ok__law_times T) (hr.mono (by decide)) (pda_cons (pd_var 11) (pda_cons (pd_var 6) (pda_cons (pd_var 4) pda_nil)))) pda_nil)) pda_nil))))
  (pss_consD (by first | exact pds_setLc (i := 16) rfl sc__law_row.nd rfl rfl (sw_true rfl rfl rfl (by decide +kernel)) (own := [("k", 20)]) (pdi_seq (pd_var 5)) (blkOk_by (N := N__law_row_) (sc := defScope s__law_row) (by decide +kernel)) (fun _ _ _ _ _ => (pdg_name (i := 20) sc__law_row.nd rfl (by first | exact Or.inl rfl | exact Or.inr rfl) (by decide))) (fun _ _ _ _ _ => pdts_nil) (fun _ _ _ _ _ => pd_int) | exact pds_set (i := 16) sc__law_row.nd rfl (by first | exact Or.inl rfl | exact Or.inr rfl) (pd_lc (own := [("k", 20)]) rfl sc__law_row.nd (pdi_seq (pd_var 5)) (blkOk_by (N := N__law_row_) (sc := defScope s__law_row) (by decide +kernel)) (fun _ _ _ _ _ => (pdg_name (i := 20) sc__law_row.nd rfl (by first | exact Or.inl rfl | exact Or.inr rfl) (by decide))) (fun _ _ _ _ _ => pdts_nil) (fun _ _ _ _ _ => pd_int)))
  (pss_consD (pds_for (vs := (List.range 24)) rfl (passes_of rfl) (pdi_seq (pd_op opd_add (pd_lc (own := [("row", 21)]) rfl sc__law_row.nd (pdi_seq (pd_slice (pd_var 1) (pdo_some (pd_var 3)) pdo_none)) (blkOk_by (N := N__law_row_) (sc := defScope s__law_row) (by decide +kernel)) (fun _ _ _ _ _ => (pdg_name (i := 21) sc__law_row.nd rfl (by first | exact Or.inl rfl | exact Or.inr rfl) (by decide))) (fun _ _ _ _ _ => pdts_nil) (fun _ _ _ _ _ => (pd_ix ixd (pd_ix ixd (pd_var 21) pd_int) (pd_var 8)))) (pd_lst (pda_cons (pd_var 15) pda_nil)))) (pdg_tup rfl (pdgs_cons (pdg_name (i := 17) sc__law_row.nd rfl (by first | exact Or.inl rfl | exact Or.inr rfl) (by decide)) (pdgs_cons (pdg_name (i := 18) sc__law_row.nd rfl (by first | exact Or.inl rfl | exact Or.inr rfl) (by decide)) pdgs_nil))) (pss_consD (pds_set (i := 19) sc__law_row.nd rfl (by first | exact Or.inl rfl | exact Or.inr rfl) (pd_callB (cd_sum rfl) T.b_sum (by decide +kernel) (pda_cons (pd_lc (own := [("k", 20)]) rfl sc__law_row.nd (pdi_seq (pd_var 5)) (blkOk_by (N := N__law_row_) (sc := defScope s__law_row) (by decide +kernel)) (fun _ _ _ _ _ => (pdg_name (i := 20) sc__law_row.nd rfl (by first | exact Or.inl rfl | exact Or.inr rfl) (by decide))) (fun _ _ _ _ _ => pdts_nil) (fun _ _ _ _ _ => (pd_op opd_mul (pd_ix ixd (pd_var 14) (pd_var 20)) (pd_ix ixd (pd_var 17) (pd_var 20))))) pda_nil)))
  (pss_oneD (by first | exact pds_setLc (i := 16) rfl sc__law_row.nd rfl rfl (sw_true rfl rfl rfl (by decide +kernel)) (own := [("k", 20)]) (pdi_seq (pd_var 5)) (blkOk_by (N := N__law_row_) (sc := defScope s__law_row) (by decide +kernel)) (fun _ _ _ _ _ => (pdg_name (i := 20) sc__law_row.nd rfl (by first | exact Or.inl rfl | exact Or.inr rfl) (by decide))) (fun _ _ _ _ _ => pdts_nil) (fun _ _ _ _ _ => (pd_op opd_add (pd_ix ixd (pd_var 16) (pd_var 20)) (pd_op opd_mul (pd_var 19) (pd_ix ixd (pd_var 18) (pd_var 20))))) | exact pds_set (i := 16) sc__law_row.nd rfl (by first | exact Or.inl rfl | exact Or.inr rfl) (pd_lc (own := [("k", 20)]) rfl sc__law_row.nd (pdi_seq (pd_var 5)) (blkOk_by (N := N__law_row_) (sc := defScope s__law_row) (by decide +kernel)) (fun _ _ _ _ _ => (pdg_name (i := 20) sc__law_row.nd rfl (by first | exact Or.inl rfl | exact Or.inr rfl) (by decide))) (fun _ _ _ _ _ => pdts_nil) (fun _ _ _ _ _ => (pd_op opd_add (pd_ix ixd (pd_var 16) (pd_var 20)) (pd_op opd_mul (pd_var 19) (pd_ix ixd (pd_var 18) (pd_var 20))))))))))
  (pss_consD (by first | exact pds_setLc (i := 6) rfl sc__law_row.nd rfl rfl (sw_true rfl rfl rfl (by decide +kernel)) (own := [("k", 20)]) (pdi_seq (pd_var 5)) (blkOk_by (N := N__law_row_) (sc := defScope s__law_row) (by decide +kernel)) (fun _ _ _ _ _ => (pdg_name (i := 20) sc__law_row.nd rfl (by first | exact Or.inl rfl | exact Or.inr rfl) (by decide))) (fun _ _ _ _ _ => pdts_nil) (fun _ _ _ _ _ => (pd_op opd_mod (pd_callTy cd_int T.b_int (by decide +kernel) (pda_cons (pd_op opd_add (pd_ix ixd (pd_var 6) (pd_var 20)) (pd_ix ixd (pd_var 16) (pd_var 20))) pda_nil)) (pd_var 4))) | exact pds_set (i := 6) sc__law_row.nd rfl (by first | exact Or.inl rfl | exact Or.inr rfl) (pd_lc (own := [("k", 20)]) rfl sc__law_row.nd (pdi_seq (pd_var 5)) (blkOk_by (N := N__law_row_) (sc := defScope s__law_row) (by decide +kernel)) (fun _ _ _ _ _ => (pdg_name (i := 20) sc__law_row.nd rfl (by first | exact Or.inl rfl | exact Or.inr rfl) (by decide))) (fun _ _ _ _ _ => pdts_nil) (fun _ _ _ _ _ => (pd_op opd_mod (pd_callTy cd_int T.b_int (by decide +kernel) (pda_cons (pd_op opd_add (pd_ix ixd (pd_var 6) (pd_var 20)) (pd_ix ixd (pd_var 16) (pd_var 20))) pda_nil)) (pd_var 4)))))
  (pss_consD (pds_set (i := 16) sc__law_row.nd rfl (by first | exact Or.inl rfl | exact Or.inr rfl) (pd_fn (ok__law_times T) (hr.mono (by decide)) (pda_cons (pd_var 13) (pda_cons (pd_lc (own := [("y", 22)]) rfl sc__law_row.nd (pdi_seq (pd_fn (ok__law_times T) (hr.mono (by decide)) (pda_cons (pd_var 12) (pda_cons (pd_var 6) (pda_cons (pd_var 4) pda_nil))))) (blkOk_by (N := N__law_row_) (sc := defScope s__law_row) (by decide +kernel)) (fun _ _ _ _ _ => (pdg_name (i := 22) sc__law_row.nd rfl (by first | exact Or.inl rfl | exact Or.inr rfl) (by decide))) (fun _ _ _ _ _ => pdts_nil) (fun _ _ _ _ _ => (pd_op opd_mul (pd_var 22) (pd_var 22)))) (pda_cons (pd_var 4) pda_nil)))))
  (pss_consD (by first | exact pds_setLc (i := 6) rfl sc__law_row.nd rfl rfl (sw_true rfl rfl rfl (by decide +kernel)) (own := [("k", 20)]) (pdi_seq (pd_var 5)) (blkOk_by (N := N__law_row_) (sc := defScope s__law_row) (by decide +kernel)) (fun _ _ _ _ _ => (pdg_name (i := 20) sc__law_row.nd rfl (by first | exact Or.inl rfl | exact Or.inr rfl) (by decide))) (fun _ _ _ _ _ => pdts_nil) (fun _ _ _ _ _ => (pd_op opd_mod (pd_callTy cd_int T.b_int (by decide +kernel) (pda_cons (pd_op opd_add (pd_ix ixd (pd_var 6) (pd_var 20)) (pd_ix ixd (pd_var 16) (pd_var 20))) pda_nil)) (pd_var 4))) | exact pds_set (i := 6) sc__law_row.nd rfl (by first | exact Or.inl rfl | exact Or.inr rfl) (pd_lc (own := [("k", 20)]) rfl sc__law_row.nd (pdi_seq (pd_var 5)) (blkOk_by (N := N__law_row_) (sc := defScope s__law_row) (by decide +kernel)) (fun _ _ _ _ _ => (pdg_name (i := 20) sc__law_row.nd rfl (by first | exact Or.inl rfl | exact Or.inr rfl) (by decide))) (fun _ _ _ _ _ => pdts_nil) (fun _ _ _ _ _ => (pd_op opd_mod (pd_callTy cd_int T.b_int (by decide +kernel) (pda_cons (pd_op opd_add (pd_ix ixd (pd_var 6) (pd_var 20)) (pd_ix ixd (pd_var 16) (pd_var 20))) pda_nil)) (pd_var 4)))))
  (pss_oneD (pds_drop (pd_lm PySem.F.slot_list_append PySem.F.type_list_append md_append (pd_var 7) (pda_cons (pd_var 15) pda_nil)))))))))))))
  (pss_oneD (pds_ret (pd_tup (pda_cons (pd_callTy cd_tuple T.b_tuple (by decide +kernel) (pda_cons (pd_var 7) pda_nil)) (pda_cons (pd_callTy cd_tuple T.b_tuple (by decide +kernel) (pda_cons (pd_lc (own := [("one", 23)]) rfl sc__law_row.nd (pdi_seq (pd_fn (ok__law_times T) (hr.mono (by decide)) (pda_cons (pd_ix ixd (pd_var 0) pd_int) (pda_cons (pd_var 6) (pda_cons (pd_var 4) pda_nil))))) (blkOk_by (N := N__law_row_) (sc := defScope s__law_row) (by decide +kernel)) (fun _ _ _ _ _ => (pdg_name (i := 23) sc__law_row.nd rfl (by first | exact Or.inl rfl | exact Or.inr rfl) (by decide))) (fun _ _ _ _ _ => pdts_nil) (fun _ _ _ _ _ => (pd_op opd_add pd_int (pd_var 23)))) pda_nil)) pda_nil))))))))))) (rd__law_row c)
theorem ok__law_same_n (T : Txt mg c) : ∀ n : Nat, FnC P w c.K mg base (n + 1) "_law_same" ["told", "due"] (sp__law_same_n c n)
  | 0 => FnC.zero T.d__law_same
  | n + 1 => by
    have ih := ok__law_same_n T n
    exact FnC.mk T.d__law_same (k := n + 1) sc__law_same (by decide) (len__law_same_n c (n + 1)) (fun f cdv A outer s H E hr => (pss_consD (pds_if (pdt_cmp opd_isN (pd_var 1) pd_non (nomark _)) (pss_oneD (pds_ret (pd_cmp opd_isN (pd_var 0) pd_non (nomark _)))) pss_nilD)
  (pss_consD (pds_if (PDw.pt (pdw_or (pdt_val (pd_isi (T := "bool") (pd_var 1) (pe_bltn rfl T.b_bool (by decide +kernel) rfl) T.b_isinstance)) (pdw_or1 (pdt_val (pd_isi (T := "bool") (pd_var 0) (pe_bltn rfl T.b_bool (by decide +kernel) rfl) T.b_isinstance))))) (pss_oneD (pds_ret (pd_and (pd_isi (T := "bool") (pd_var 1) (pe_bltn rfl T.b_bool (by decide +kernel) rfl) T.b_isinstance) (pd_and (pd_isi (T := "bool") (pd_var 0) (pe_bltn rfl T.b_bool (by decide +kernel) rfl) T.b_isinstance) (pd_one (pd_cmp (opd_eq hr.units) (pd_var 0) (pd_var 1) (nomark _))))))) pss_nilD)
  (pss_consD (pds_if (pdt_val (pd_isiT (Ts := ["tuple", "list"]) (pd_var 1) (pa_tys (T := "tuple") (pe_bltn rfl T.b_tuple (by decide +kernel) rfl) (pa_tys (T := "list") (pe_bltn rfl T.b_list (by decide +kernel) rfl) pa_tys0)) T.b_isinstance)) (pss_consD (pds_if (PDw.pt (pdw_or (pdt_not (pdt_val (pd_isiT (Ts := ["tuple", "list"]) (pd_var 0) (pa_tys (T := "tuple") (pe_bltn rfl T.b_tuple (by decide +kernel) rfl) (pa_tys (T := "list") (pe_bltn rfl T.b_list (by decide +kernel) rfl) pa_tys0)) T.b_isinstance))) (pdw_or1 (pdt_cmp (opd_ne hr.units) (pd_isi (T := "list") (pd_var 0) (pe_bltn rfl T.b_list (by decide +kernel) rfl) T.b_isinstance) (pd_isi (T := "list") (pd_var 1) (pe_bltn rfl T.b_list (by decide +kernel) rfl) T.b_isinstance) (nomark _))))) (pss_oneD (pds_ret pd_bl)) pss_nilD)
  (pss_consD (pds_if (pdt_cmp (opd_ne hr.units) (pd_callB cd_len T.b_len (by decide +kernel) (pda_cons (pd_var 0) pda_nil)) (pd_callB cd_len T.b_len (by decide +kernel) (pda_cons (pd_var 1) pda_nil)) (nomark _)) (pss_oneD (pds_ret pd_bl)) pss_nilD)
  (pss_consD (pds_for (vs := (List.range 3)) rfl (passes_of rfl) (pdi_rg1 T.b_range (pd_callB cd_len T.b_len (by decide +kernel) (pda_cons (pd_var 1) pda_nil))) (pdg_name (i := 2) sc__law_same.nd rfl (by first | exact Or.inl rfl | exact Or.inr rfl) (by decide)) (pss_oneD (pds_if (pdt_not (pdt_val (pd_fn ih (hr.mono (by omega)) (pda_cons (pd_ix ixd (pd_var 0) (pd_var 2)) (pda_cons (pd_ix ixd (pd_var 1) (pd_var 2)) pda_nil))))) (pss_oneD (pds_ret pd_bl)) pss_nilD)))
  (pss_oneD (pds_ret pd_bl))))) pss_nilD)
  (pss_consD (pds_if (pdt_val (pd_isi (T := "str") (pd_var 1) (pe_bltn rfl T.b_str (by decide +kernel) rfl) T.b_isinstance)) (pss_oneD (pds_ret (pd_and (pd_isi (T := "str") (pd_var 0) (pe_bltn rfl T.b_str (by decide +kernel) rfl) T.b_isinstance) (pd_one (pd_cmp (opd_eq hr.units) (pd_var 0) (pd_var 1) (nomark _)))))) pss_nilD)
  (pss_oneD (pds_ret (pd_and (pd_isi (T := "int") (pd_var 0) (pe_bltn rfl T.b_int (by decide +kernel) rfl) T.b_isinstance) (pd_one (pd_cmp (opd_eq hr.units) (pd_var 0) (pd_var 1) (nomark _))))))))))) (rd__law_same c n)
theorem ok__law_same (T : Txt mg c) : FnC P w c.K mg base 9 "_law_same" ["told", "due"] (sp__law_same c) := FnC.mono (FnC.imp (ok__law_same_n T 8) (imp__law_same c)) (by decide)
theorem ok__law_no_letter (T : Txt mg c) : FnC P w c.K mg base 2 "_law_no_letter" ["pool", "letters"] (sp__law_no_letter c) :=
  FnC.mk T.d__law_no_letter sc__law_no_letter (by decide) (len__law_no_letter c) (fun f cdv A outer s H E hr => (pss_consD (pds_set (i := 2) sc__law_no_letter.nd rfl (by first | exact Or.inl rfl | exact Or.inr rfl) (pd_fn (ok__law_draw T) (hr.mono (by decide)) (pda_cons (pd_var 0) (pda_cons pd_int pda_nil))))
  (pss_consD (pds_if (pdt_cmp (opd_eq hr.units) (pd_var 2) pd_int (nomark _)) (pss_oneD (pds_ret (pd_var 1))) pss_nilD)
  (pss_consD (pds_if (pdt_cmp (opd_eq hr.units) (pd_var 2) pd_int (nomark _)) (pss_oneD (pds_ret (pd_op opd_sub (pd_un und_neg pd_int) (pd_fn (ok__law_draw T) (hr.mono (by decide)) (pda_cons (pd_var 0) (pda_cons (pd_var 1) pda_nil)))))) pss_nilD)
  (pss_consD (pds_if (pdt_cmp (opd_eq hr.units) (pd_var 2) pd_int (nomark _)) (pss_oneD (pds_ret pd_bl)) pss_nilD)
  (pss_consD (pds_if (pdt_cmp (opd_eq hr.units) (pd_var 2) pd_int (nomark _)) (pss_oneD (pds_ret pd_bl)) pss_nilD)
  (pss_consD (pds_if (pdt_cmp (opd_eq hr.units) (pd_var 2) pd_int (nomark _)) (pss_oneD (pds_ret pd_non)) pss_nilD)
  (pss_consD (pds_if (pdt_cmp (opd_eq hr.units) (pd_var 2) pd_int (nomark _)) (pss_oneD (pds_ret pd_str)) pss_nilD)
  (pss_consD (pds_if (pdt_cmp (opd_eq hr.units) (pd_var 2) pd_int (nomark _)) (pss_oneD (pds_ret (pd_tup (pda_cons pd_int pda_nil)))) pss_nilD)
  (pss_consD (pds_if (pdt_cmp (opd_eq hr.units) (pd_var 2) pd_int (nomark _)) (pss_oneD (pds_ret (pd_lst (pda_cons pd_int (pda_cons pd_non pda_nil))))) pss_nilD)
  (pss_oneD (pds_ret (pd_op opd_add (pd_op opd_add (pd_var 1) pd_int) (pd_fn (ok__law_draw T) (hr.mono (by decide)) (pda_cons (pd_var 0) (pda_cons (pd_op opd_pow pd_int pd_int) pda_nil)))))))))))))))) (rd__law_no_letter c)
theorem ok__law_read (T : Txt mg c) : FnC P w c.K mg base 5 "_law_read" ["sums", "letter"] (sp__law_read c) :=
  FnC.mk T.d__law_read sc__law_read (by decide) (len__law_read c) (fun f cdv A outer s H E hr => (pss_oneD (pds_tryM (zs := [⟨c.InvalidLetter, some 2, fun a dd C => (wSeq (wIf (wOr (wTest (wIsET c.K a dd C [c.InvalidNumber, c.InvalidRow, c.TooMany, c.Undefined] (wVar 2))) (wNot (wTest (wIsE c.K a dd C c.ServeError (wVar 2))))) (wRet (wTup (wCons (wC (.str "other")) (wCons (wC (.str "")) wNil)))) wNext)
  (wRet (wTup (wCons (wC (.str "letter")) (wCons (wExF c.K a dd C "letter" (wVar 2)) wNil)))))⟩, ⟨c.ServeError, none, fun a dd C => (wRet (wTup (wCons (wC (.str "other")) (wCons (wC (.str "")) wNil))))⟩]) (by rfl) (by rfl) sc__law_read.nd (fun pn xe pass => (pss_oneD (pds_ret (pd_tup (pda_cons pd_str (pda_cons (pd_mt (N := N_Sums) T.cl_Sums (ok_Sums_read T) (by decide +kernel) (hr.mono (by decide)) (pd_var 0) (pda_cons (pd_var 1) pda_nil)) pda_nil)))))) (.cons (.named T.g_InvalidLetter (by rfl) (by decide) (by rfl) (by rfl) (fun a dd C oe pn hz hf => (pss_consD (pds_if (PDw.pt (pdw_or (pdt_val (pd_isET (Ts := [c.InvalidNumber, c.InvalidRow, c.TooMany, c.Undefined]) hz hf (pd_var 2) (pa_refs (pe_cls T.g_InvalidNumber) (pa_refs (pe_cls T.g_InvalidRow) (pa_refs (pe_cls T.g_TooMany) (pa_refs (pe_cls T.g_Undefined) pa_refs0)))) T.b_isinstance (by show 4 ≤ sizeLine; decide))) (pdw_or1 (pdt_not (pdt_val (pd_isE (T := c.ServeError) hz hf (pd_var 2) (pe_cls T.g_ServeError) T.b_isinstance)))))) (pss_oneD (pds_ret (pd_tup (pda_cons pd_str (pda_cons pd_str pda_nil))))) pss_nilD)
  (pss_oneD (pds_ret (pd_tup (pda_cons pd_str (pda_cons (pd_exf (f := "letter") hz hf (pd_var 2)) pda_nil)))))))) (.cons (.bare T.g_ServeError (by rfl) (by decide) (fun a dd C oe pn hz hf => (pss_oneD (pds_ret (pd_tup (pda_cons pd_str (pda_cons pd_str pda_nil))))))) .nil))))) (rd__law_read c)
theorem ok__law_grids (T : Txt mg c) : FnC P w c.K mg base 1 "_law_grids" ["plan", "rows"] (sp__law_grids c) :=
  FnC.mk T.d__law_grids sc__law_grids (by decide) (len__law_grids c) (fun f cdv A outer s H E hr => (pss_consD (pds_set (i := 2) sc__law_grids.nd rfl (by first | exact Or.inl rfl | exact Or.inr rfl) (pd_listRg rfl T.b_list T.b_range (pd_callB cd_len T.b_len (by decide +kernel) (pda_cons (pd_ix ixd (pd_var 0) pd_int) pda_nil))))
  (pss_consD (pds_set (i := 3) sc__law_grids.nd rfl (by first | exact Or.inl rfl | exact Or.inr rfl) (pd_lstM pda_nil))
  (pss_consD (pds_for (vs := (List.range 13)) rfl (passes_of rfl) (pdi_rg1 T.b_range (pd_callB cd_len T.b_len (by decide +kernel) (pda_cons (pd_ix ixd (pd_var 0) pd_int) pda_nil))) (pdg_name (i := 4) sc__law_grids.nd rfl (by first | exact Or.inl rfl | exact Or.inr rfl) (by decide)) (pss_consD (by first | exact pds_setLc (i := 5) rfl sc__law_grids.nd rfl rfl (sw_true rfl rfl rfl (by decide +kernel)) (own := [("i", 10)]) (pdi_seq (pd_var 2)) (blkOk_by (N := N__law_grids_) (sc := defScope s__law_grids) (by decide +kernel)) (fun _ _ _ _ _ => (pdg_name (i := 10) sc__law_grids.nd rfl (by first | exact Or.inl rfl | exact Or.inr rfl) (by decide))) (fun _ _ _ _ _ => pdts_nil) (fun _ _ _ _ _ => (pd_lc (own := [("k", 11)]) rfl sc__law_grids.nd (pdi_seq (pd_var 2)) (blkOk_by (N := N__law_grids_) (sc := relS _ (defScope s__law_grids)) (by decide +kernel)) (fun _ _ _ _ _ => (pdg_name (i := 11) sc__law_grids.nd rfl (by first | exact Or.inl rfl | exact Or.inr rfl) (by decide))) (fun _ _ _ _ _ => pdts_nil) (fun _ _ _ _ _ => pd_int))) | exact pds_set (i := 5) sc__law_grids.nd rfl (by first | exact Or.inl rfl | exact Or.inr rfl) (pd_lc (own := [("i", 10)]) rfl sc__law_grids.nd (pdi_seq (pd_var 2)) (blkOk_by (N := N__law_grids_) (sc := defScope s__law_grids) (by decide +kernel)) (fun _ _ _ _ _ => (pdg_name (i := 10) sc__law_grids.nd rfl (by first | exact Or.inl rfl | exact Or.inr rfl) (by decide))) (fun _ _ _ _ _ => pdts_nil) (fun _ _ _ _ _ => (pd_lc (own := [("k", 11)]) rfl sc__law_grids.nd (pdi_seq (pd_var 2)) (blkOk_by (N := N__law_grids_) (sc := relS _ (defScope s__law_grids)) (by decide +kernel)) (fun _ _ _ _ _ => (pdg_name (i := 11) sc__law_grids.nd rfl (by first | exact Or.inl rfl | exact Or.inr rfl) (by decide))) (fun _ _ _ _ _ => pdts_nil) (fun _ _ _ _ _ => pd_int)))))
  (pss_consD (pds_for (vs := (List.range 13)) rfl (passes_of rfl) (pdi_seq (pd_var 1)) (pdg_tup rfl (pdgs_cons (pdg_name (i := 6) sc__law_grids.nd rfl (by first | exact Or.inl rfl | exact Or.inr rfl) (by decide)) (pdgs_cons (pdg_name (i := 7) sc__law_grids.nd rfl (by first | exact Or.inl rfl | exact Or.inr rfl) (by decide)) pdgs_nil))) (pss_consD (pds_asgG (vs := (List.range 13)) (pd_ix ixd (pd_var 6) (pd_var 4)) (pdg_tup rfl (pdgs_cons (pdg_name (i := 8) sc__law_grids.nd rfl (by first | exact Or.inl rfl | exact Or.inr rfl) (by decide)) (pdgs_cons (pdg_name (i := 9) sc__law_grids.nd rfl (by first | exact Or.inl rfl | exact Or.inr rfl) (by decide)) pdgs_nil))))
  (pss_oneD (by first | exact pds_setLc (i := 5) rfl sc__law_grids.nd rfl rfl (sw_true rfl rfl rfl (by decide +kernel)) (own := [("i", 10)]) (pdi_seq (pd_var 2)) (blkOk_by (N := N__law_grids_) (sc := defScope s__law_grids) (by decide +kernel)) (fun _ _ _ _ _ => (pdg_name (i := 10) sc__law_grids.nd rfl (by first | exact Or.inl rfl | exact Or.inr rfl) (by decide))) (fun _ _ _ _ _ => pdts_nil) (fun _ _ _ _ _ => (pd_lc (own := [("k", 11)]) rfl sc__law_grids.nd (pdi_seq (pd_var 2)) (blkOk_by (N := N__law_grids_) (sc := relS _ (defScope s__law_grids)) (by decide +kernel)) (fun _ _ _ _ _ => (pdg_name (i := 11) sc__law_grids.nd rfl (by first | exact Or.inl rfl | exact Or.inr rfl) (by decide))) (fun _ _ _ _ _ => pdts_nil) (fun _ _ _ _ _ => (pd_op opd_mod (pd_callTy cd_int T.b_int (by decide +kernel) (pda_cons (pd_op opd_add (pd_ix ixd (pd_ix ixd (pd_var 5) (pd_var 10)) (pd_var 11)) (pd_op opd_mul (pd_ix ixd (pd_var 9) (pd_var 10)) (pd_ix ixd (pd_var 8) (pd_var 11)))) pda_nil)) (pd_ix ixd (pd_var 0) pd_int))))) | exact pds_set (i := 5) sc__law_grids.nd rfl (by first | exact Or.inl rfl | exact Or.inr rfl) (pd_lc (own := [("i", 10)]) rfl sc__law_grids.nd (pdi_seq (pd_var 2)) (blkOk_by (N := N__law_grids_) (sc := defScope s__law_grids) (by decide +kernel)) (fun _ _ _ _ _ => (pdg_name (i := 10) sc__law_grids.nd rfl (by first | exact Or.inl rfl | exact Or.inr rfl) (by decide))) (fun _ _ _ _ _ => pdts_nil) (fun _ _ _ _ _ => (pd_lc (own := [("k", 11)]) rfl sc__law_grids.nd (pdi_seq (pd_var 2)) (blkOk_by (N := N__law_grids_) (sc := relS _ (defScope s__law_grids)) (by decide +kernel)) (fun _ _ _ _ _ => (pdg_name (i := 11) sc__law_grids.nd rfl (by first | exact Or.inl rfl | exact Or.inr rfl) (by decide))) (fun _ _ _ _ _ => pdts_nil) (fun _ _ _ _ _ => (pd_op opd_mod (pd_callTy cd_int T.b_int (by decide +kernel) (pda_cons (pd_op opd_add (pd_ix ixd (pd_ix ixd (pd_var 5) (pd_var 10)) (pd_var 11)) (pd_op opd_mul (pd_ix ixd (pd_var 9) (pd_var 10)) (pd_ix ixd (pd_var 8) (pd_var 11)))) pda_nil)) (pd_ix ixd (pd_var 0) pd_int))))))))))
  (pss_oneD (pds_drop (pd_lm PySem.F.slot_list_append PySem.F.type_list_append md_append (pd_var 3) (pda_cons (pd_callTy cd_tuple T.b_tuple (by decide +kernel) (pda_cons (pd_lc (own := [("line", 12)]) rfl sc__law_grids.nd (pdi_seq (pd_var 5)) (blkOk_by (N := N__law_grids_) (sc := defScope s__law_grids) (by decide +kernel)) (fun _ _ _ _ _ => (pdg_name (i := 12) sc__law_grids.nd rfl (by first | exact Or.inl rfl | exact Or.inr rfl) (by decide))) (fun _ _ _ _ _ => pdts_nil) (fun _ _ _ _ _ => (pd_callTy cd_tuple T.b_tuple (by decide +kernel) (pda_cons (pd_var 12) pda_nil)))) pda_nil)) pda_nil)))))))
  (pss_oneD (pds_ret (pd_callTy cd_tuple T.b_tuple (by decide +kernel) (pda_cons (pd_var 3) pda_nil)))))))) (rd__law_grids c)
theorem ok__law_own (T : Txt mg c) : FnC P w c.K mg base 2 "_law_own" ["plans", "one"] (sp__law_own c) :=
  FnC.mk T.d__law_own sc__law_own (by decide) (len__law_own c) (fun f cdv A outer s H E hr => (pss_consD (pds_set (i := 2) sc__law_own.nd rfl (by first | exact Or.inl rfl | exact Or.inr rfl) (pd_ix ixd (pd_var 0) (pd_ix ixd (pd_var 1) pd_int)))
  (pss_oneD (pds_ret (pd_tup (pda_cons (pd_op opd_mod (pd_callTy cd_int T.b_int (by decide +kernel) (pda_cons (pd_callB cd_len T.b_len (by decide +kernel) (pda_cons (pd_ix ixd (pd_var 1) pd_int) pda_nil)) pda_nil)) (pd_ix ixd (pd_var 2) pd_int)) (pda_cons (pd_fn (ok__law_grids T) (hr.mono (by decide)) (pda_cons (pd_var 2) (pda_cons (pd_ix ixd (pd_var 1) pd_int) pda_nil))) pda_nil))))))) (rd__law_own c)
theorem ok__law_is_so (T : Txt mg c) : FnC P w c.K mg base 10 "_law_is_so" ["plans", "one"] (sp__law_is_so c) :=
  FnC.mk T.d__law_is_so sc__law_is_so (by decide) (len__law_is_so c) (fun f cdv A outer s H E hr => (pss_consD (pds_set (i := 2) sc__law_is_so.nd rfl (by first | exact Or.inl rfl | exact Or.inr rfl) (pd_fn (ok__law_own T) (hr.mono (by decide)) (pda_cons (pd_var 0) (pda_cons (pd_var 1) pda_nil))))
  (pss_consD (pds_if (PDw.pt (pdw_or (pdt_not (pdt_val (pd_fn (ok__law_same T) (hr.mono (by decide)) (pda_cons (pd_fld (N := N_Sums) (i := 1) T.cl_Sums T.na_Sums_count rfl (pd_ix ixd (pd_var 1) pd_int)) (pda_cons (pd_callB cd_len T.b_len (by decide +kernel) (pda_cons (pd_ix ixd (pd_var 1) pd_int) pda_nil)) pda_nil))))) (pdw_or1 (pdt_not (pdt_val (pd_fn (ok__law_same T) (hr.mono (by decide)) (pda_cons (pd_fld (N := N_Sums) (i := 2) T.cl_Sums T.na_Sums_matrices rfl (pd_ix ixd (pd_var 1) pd_int)) (pda_cons (pd_ix ixd (pd_var 2) pd_int) pda_nil)))))))) (pss_oneD (pds_ret pd_bl)) pss_nilD)
  (pss_oneD (pds_ret (pd_fn (ok__law_same T) (hr.mono (by decide)) (pda_cons (pd_mt0 (N := N_Sums) T.cl_Sums (ok_Sums_state T) (by decide +kernel) (hr.mono (by decide)) (pd_ix ixd (pd_var 1) pd_int)) (pda_cons (pd_var 2) pda_nil)))))))) (rd__law_is_so c)
theorem ok__law_reads (T : Txt mg c) : FnC P w c.K mg base 10 "_law_reads" ["pool", "plans", "one"] (sp__law_reads c) :=
  FnC.mk T.d__law_reads sc__law_reads (by decide) (len__law_reads c) (fun f cdv A outer s H E hr => (pss_consD (pds_set (i := 3) sc__law_reads.nd rfl (by first | exact Or.inl rfl | exact Or.inr rfl) (pd_ix ixd (pd_var 1) (pd_ix ixd (pd_var 2) pd_int)))
  (pss_consD (pds_set (i := 4) sc__law_reads.nd rfl (by first | exact Or.inl rfl | exact Or.inr rfl) (pd_fn (ok__law_draw T) (hr.mono (by decide)) (pda_cons (pd_var 0) (pda_cons (pd_callB cd_len T.b_len (by decide +kernel) (pda_cons (pd_ix ixd (pd_var 3) pd_int) pda_nil)) pda_nil))))
  (pss_consD (pds_set (i := 5) sc__law_reads.nd rfl (by first | exact Or.inl rfl | exact Or.inr rfl) (pd_fn (ok__law_row T) (hr.mono (by decide)) (pda_cons (pd_var 3) (pda_cons (pd_ix ixd (pd_var 2) pd_int) (pda_cons (pd_var 4) (pda_cons pd_int pda_nil))))))
  (pss_consD (pds_if (pdt_not (pdt_val (pd_fn (ok__law_same T) (hr.mono (by decide)) (pda_cons (pd_fn (ok__law_read T) (hr.mono (by decide)) (pda_cons (pd_ix ixd (pd_var 2) pd_int) (pda_cons (pd_var 4) pda_nil))) (pda_cons (pd_tup (pda_cons pd_str (pda_cons (pd_ix ixd (pd_var 5) pd_int) pda_nil))) pda_nil))))) (pss_oneD (pds_ret pd_bl)) pss_nilD)
  (pss_consD (pds_drop (pd_lm PySem.F.slot_list_append PySem.F.type_list_append md_append (pd_ix ixd (pd_var 2) pd_int) (pda_cons (pd_var 4) pda_nil)))
  (pss_consD (pds_drop (pd_lm PySem.F.slot_list_append PySem.F.type_list_append md_append (pd_ix ixd (pd_var 2) pd_int) (pda_cons (pd_var 5) pda_nil)))
  (pss_oneD (pds_ret pd_bl))))))))) (rd__law_reads c)
theorem ok__law_refuses (T : Txt mg c) : FnC P w c.K mg base 11 "_law_refuses" ["pool", "plans", "one"] (sp__law_refuses c) :=
  FnC.mk T.d__law_refuses sc__law_refuses (by decide) (len__law_refuses c) (fun f cdv A outer s H E hr => (pss_consD (pds_set (i := 3) sc__law_refuses.nd rfl (by first | exact Or.inl rfl | exact Or.inr rfl) (pd_fn (ok__law_no_letter T) (hr.mono (by decide)) (pda_cons (pd_var 0) (pda_cons (pd_callB cd_len T.b_len (by decide +kernel) (pda_cons (pd_ix ixd (pd_ix ixd (pd_var 1) (pd_ix ixd (pd_var 2) pd_int)) pd_int) pda_nil)) pda_nil))))
  (pss_oneD (pds_ret (pd_and (pd_fn (ok__law_same T) (hr.mono (by decide)) (pda_cons (pd_fn (ok__law_read T) (hr.mono (by decide)) (pda_cons (pd_ix ixd (pd_var 2) pd_int) (pda_cons (pd_var 3) pda_nil))) (pda_cons (pd_tup (pda_cons pd_str (pda_cons (pd_var 3) pda_nil))) pda_nil))) (pd_one (pd_fn (ok__law_is_so T) (hr.mono (by decide)) (pda_cons (pd_var 1) (pda_cons (pd_var 2) pda_nil))))))))) (rd__law_refuses c)
theorem ok__law_twin (T : Txt mg c) : FnC P w c.K mg base 11 "_law_twin" ["pool", "plans", "nets", "all_sums", "one"] (sp__law_twin c) :=
  FnC.mk T.d__law_twin sc__law_twin (by decide) (len__law_twin c) (fun f cdv A outer s H E hr => (pss_consD (pds_if (pdt_cmp (opd_eq hr.units) (pd_fn (ok__law_draw T) (hr.mono (by decide)) (pda_cons (pd_var 0) (pda_cons pd_int pda_nil))) pd_int (nomark _)) (pss_oneD (pds_set (i := 5) sc__law_twin.nd rfl (by first | exact Or.inl rfl | exact Or.inr rfl) (pd_mt0 (N := N_Sums) T.cl_Sums (ok_Sums_twin T) (by decide +kernel) (hr.mono (by decide)) (pd_ix ixd (pd_var 4) pd_int)))) (pss_consD (pds_set (i := 6) sc__law_twin.nd rfl (by first | exact Or.inl rfl | exact Or.inr rfl) (pd_callTy cd_listM T.b_list (by decide +kernel) (pda_cons (pd_ix ixd (pd_var 4) pd_int) pda_nil)))
  (pss_consD (pds_set (i := 5) sc__law_twin.nd rfl (by first | exact Or.inl rfl | exact Or.inr rfl) (pd_fn (ok_sums_behind T) (hr.mono (by decide)) (pda_cons (pd_ix ixd (pd_var 2) (pd_ix ixd (pd_var 4) pd_int)) (pda_cons (pd_var 6) pda_nil))))
  (pss_consD (pds_if (pdt_cmp (opd_ne hr.units) (pd_var 6) (pd_ix ixd (pd_var 4) pd_int) (nomark _)) (pss_oneD (pds_ret pd_bl)) pss_nilD)
  (pss_oneD (pds_drop (pd_lm PySem.F.slot_list_append PySem.F.type_list_append md_append (pd_var 6) (pda_cons pd_int pda_nil))))))))
  (pss_consD (pds_if (pdt_cmp opd_lt (pd_callB cd_len T.b_len (by decide +kernel) (pda_cons (pd_var 3) pda_nil)) pd_int (nomark _)) (pss_oneD (pds_drop (pd_lm PySem.F.slot_list_append PySem.F.type_list_append md_append (pd_var 3) (pda_cons (pd_lst (pda_cons (pd_var 5) (pda_cons (pd_ix ixd (pd_var 4) pd_int) (pda_cons (pd_callTy cd_listM T.b_list (by decide +kernel) (pda_cons (pd_ix ixd (pd_var 4) pd_int) pda_nil)) (pda_cons (pd_callTy cd_listM T.b_list (by decide +kernel) (pda_cons (pd_ix ixd (pd_var 4) pd_int) pda_nil)) pda_nil))))) pda_nil)))) pss_nilD)
  (pss_oneD (pds_ret (pd_fn (ok__law_is_so T) (hr.mono (by decide)) (pda_cons (pd_var 1) (pda_cons (pd_lst (pda_cons (pd_var 5) (pda_cons (pd_ix ixd (pd_var 4) pd_int) (pda_cons (pd_ix ixd (pd_var 4) pd_int) (pda_cons (pd_ix ixd (pd_var 4) pd_int) pda_nil))))) pda_nil)))))))) (rd__law_twin c)
theorem ok__law_compared (T : Txt mg c) : FnC P w c.K mg base 10 "_law_compared" ["pool", "plans", "one", "other"] (sp__law_compared c) :=
  FnC.mk T.d__law_compared sc__law_compared (by decide) (len__law_compared c) (fun f cdv A outer s H E hr => (pss_consD (pds_set (i := 4) sc__law_compared.nd rfl (by first | exact Or.inl rfl | exact Or.inr rfl) (pd_and (pd_cmp (opd_eq hr.units) (pd_callB cd_len T.b_len (by decide +kernel) (pda_cons (pd_ix ixd (pd_var 2) pd_int) pda_nil)) (pd_callB cd_len T.b_len (by decide +kernel) (pda_cons (pd_ix ixd (pd_var 3) pd_int) pda_nil)) (nomark _)) (pd_one (pd_cmp (opd_eq hr.units) (pd_fn (ok__law_own T) (hr.mono (by decide)) (pda_cons (pd_var 1) (pda_cons (pd_var 2) pda_nil))) (pd_fn (ok__law_own T) (hr.mono (by decide)) (pda_cons (pd_var 1) (pda_cons (pd_var 3) pda_nil))) (nomark _)))))
  (pss_consD (pds_if (PDw.pt (pdw_or (pdt_not (pdt_val (pd_fn (ok__law_same T) (hr.mono (by decide)) (pda_cons (pd_cmp (opd_eqO (N := N_Sums) (ok_Sums___eq__ T) (by decide +kernel) (hr.mono (by decide))) (pd_ix ixd (pd_var 2) pd_int) (pd_ix ixd (pd_var 3) pd_int) (nomark _)) (pda_cons (pd_var 4) pda_nil))))) (pdw_or1 (pdt_not (pdt_val (pd_fn (ok__law_same T) (hr.mono (by decide)) (pda_cons (pd_cmp (opd_neO (N := N_Sums) (ok_Sums___eq__ T) (by decide +kernel) (hr.mono (by decide)) T.ne_Sums T.oc_Sums.mo) (pd_ix ixd (pd_var 2) pd_int) (pd_ix ixd (pd_var 3) pd_int) (nomark _)) (pda_cons (pd_not (pd_var 4)) pda_nil)))))))) (pss_oneD (pds_ret pd_bl)) pss_nilD)
  (pss_consD (pds_set (i := 5) sc__law_compared.nd rfl (by first | exact Or.inl rfl | exact Or.inr rfl) (pd_ix ixd (pd_lst (pda_cons pd_non (pda_cons (pd_callB cd_len T.b_len (by decide +kernel) (pda_cons (pd_ix ixd (pd_var 2) pd_int) pda_nil)) (pda_cons (pd_fn (ok__law_own T) (hr.mono (by decide)) (pda_cons (pd_var 1) (pda_cons (pd_var 2) pda_nil))) (pda_cons pd_str (pda_cons (pd_tup pda_nil) pda_nil)))))) (pd_fn (ok__law_draw T) (hr.mono (by decide)) (pda_cons (pd_var 0) (pda_cons pd_int pda_nil)))))
  (pss_oneD (pds_ret (pd_and (pd_fn (ok__law_same T) (hr.mono (by decide)) (pda_cons (pd_cmp (opd_eqO (N := N_Sums) (ok_Sums___eq__ T) (by decide +kernel) (hr.mono (by decide))) (pd_ix ixd (pd_var 2) pd_int) (pd_var 5) (nomark _)) (pda_cons pd_bl pda_nil))) (pd_one (pd_fn (ok__law_same T) (hr.mono (by decide)) (pda_cons (pd_cmp (opd_neO (N := N_Sums) (ok_Sums___eq__ T) (by decide +kernel) (hr.mono (by decide)) T.ne_Sums T.oc_Sums.mo) (pd_ix ixd (pd_var 2) pd_int) (pd_var 5) (nomark _)) (pda_cons pd_bl pda_nil))))))))))) (rd__law_compared c)
theorem ok__law_plans (T : Txt mg c) : FnC P w c.K mg base 6 "_law_plans" ["pool"] (sp__law_plans c) :=
  FnC.mk T.d__law_plans sc__law_plans (by decide) (len__law_plans c) (fun f cdv A outer s H E hr => (pss_consD (pds_if (pdt_cmp (opd_eq hr.units) (pd_fn (ok__law_draw T) (hr.mono (by decide)) (pda_cons (pd_var 0) (pda_cons pd_int pda_nil))) pd_int (nomark _)) (pss_oneD (pds_ret (pd_lst (pda_cons (pd_fn (ok__law_wide_net T) (hr.mono (by decide)) (pda_cons (pd_var 0) pda_nil)) (pda_cons (pd_fn (ok__law_wide_net T) (hr.mono (by decide)) (pda_cons (pd_var 0) pda_nil)) pda_nil))))) pss_nilD)
  (pss_consD (pds_set (i := 1) sc__law_plans.nd rfl (by first | exact Or.inl rfl | exact Or.inr rfl) (pd_ix ixd (pd_lst (pda_cons pd_int (pda_cons pd_int (pda_cons pd_int pda_nil)))) (pd_fn (ok__law_draw T) (hr.mono (by decide)) (pda_cons (pd_var 0) (pda_cons pd_int pda_nil)))))
  (pss_consD (pds_set (i := 2) sc__law_plans.nd rfl (by first | exact Or.inl rfl | exact Or.inr rfl) (pd_fn (ok__law_draw T) (hr.mono (by decide)) (pda_cons (pd_var 0) (pda_cons pd_int pda_nil))))
  (pss_oneD (pds_ret (pd_lc (own := [("turn", 3)]) rfl sc__law_plans.nd (pdi_rg1 T.b_range pd_int) (blkOk_by (N := N__law_plans_) (sc := defScope s__law_plans) (by decide +kernel)) (fun _ _ _ _ _ => (pdg_name (i := 3) sc__law_plans.nd rfl (by first | exact Or.inl rfl | exact Or.inr rfl) (by decide))) (fun _ _ _ _ _ => pdts_nil) (fun _ _ _ _ _ => (pd_fn (ok__law_net T) (hr.mono (by decide)) (pda_cons (pd_var 0) (pda_cons (pd_var 1) (pda_cons (pd_op opd_add pd_int (pd_fn (ok__law_draw T) (hr.mono (by decide)) (pda_cons (pd_var 0) (pda_cons pd_int pda_nil)))) (pda_cons pd_int (pda_cons (pd_var 2) pda_nil)))))))))))))) (rd__law_plans c)
theorem ok__law_turn (T : Txt mg c) : FnC P w c.K mg base 12 "_law_turn" ["pool", "plans", "nets", "all_sums", "at"] (sp__law_turn c) :=
  FnC.mk T.d__law_turn sc__law_turn (by decide) (len__law_turn c) (fun f cdv A outer s H E hr => (pss_consD (pds_set (i := 5) sc__law_turn.nd rfl (by first | exact Or.inl rfl | exact Or.inr rfl) (pd_fn (ok__law_draw T) (hr.mono (by decide)) (pda_cons (pd_var 0) (pda_cons pd_int pda_nil))))
  (pss_consD (pds_set (i := 6) sc__law_turn.nd rfl (by first | exact Or.inl rfl | exact Or.inr rfl) (pd_ix ixd (pd_var 3) (pd_var 4)))
  (pss_consD (pds_if (pdt_cmp opd_lt (pd_var 5) pd_int (nomark _)) (pss_oneD (pds_ret (pd_fn (ok__law_reads T) (hr.mono (by decide)) (pda_cons (pd_var 0) (pda_cons (pd_var 1) (pda_cons (pd_var 6) pda_nil)))))) pss_nilD)
  (pss_consD (pds_if (pdt_cmp (opd_eq hr.units) (pd_var 5) pd_int (nomark _)) (pss_oneD (pds_ret (pd_fn (ok__law_refuses T) (hr.mono (by decide)) (pda_cons (pd_var 0) (pda_cons (pd_var 1) (pda_cons (pd_var 6) pda_nil)))))) pss_nilD)
  (pss_consD (pds_if (pdt_cmp (opd_eq hr.units) (pd_var 5) pd_int (nomark _)) (pss_oneD (pds_ret (pd_fn (ok__law_twin T) (hr.mono (by decide)) (pda_cons (pd_var 0) (pda_cons (pd_var 1) (pda_cons (pd_var 2) (pda_cons (pd_var 3) (pda_cons (pd_var 6) pda_nil)))))))) pss_nilD)
  (pss_consD (pds_if (pdt_cmp (opd_eq hr.units) (pd_var 5) pd_int (nomark _)) (pss_oneD (pds_ret (pd_fn (ok__law_is_so T) (hr.mono (by decide)) (pda_cons (pd_var 1) (pda_cons (pd_var 6) pda_nil))))) pss_nilD)
  (pss_oneD (pds_ret (pd_fn (ok__law_compared T) (hr.mono (by decide)) (pda_cons (pd_var 0) (pda_cons (pd_var 1) (pda_cons (pd_var 6) (pda_cons (pd_ix ixd (pd_var 3) (pd_fn (ok__law_draw T) (hr.mono (by decide)) (pda_cons (pd_var 0) (pda_cons (pd_callB cd_len T.b_len (by decide +kernel) (pda_cons (pd_var 3) pda_nil)) pda_nil)))) pda_nil)))))))))))))) (rd__law_turn c)
theorem okF_law (T : Txt mg c) {f : Addr} {fd : FuncData} (F : Fun c.K "law" "law" s_law f fd) : FnD P w c.K mg base 13 f fd ["script"] (sp_law c) :=
  fnd_mk F sc_law (by decide) (len_law c) (fun f cdv A outer s H E hr => (pss_consD (pds_set (i := 1) sc_law.nd rfl (by first | exact Or.inl rfl | exact Or.inr rfl) (pd_fn (ok__law_pool T) (hr.mono (by decide)) (pda_cons (pd_var 0) pda_nil)))
  (pss_consD (pds_set (i := 2) sc_law.nd rfl (by first | exact Or.inl rfl | exact Or.inr rfl) (pd_fn (ok__law_plans T) (hr.mono (by decide)) (pda_cons (pd_var 1) pda_nil)))
  (pss_consD (by first | exact pds_setLc (i := 3) rfl sc_law.nd rfl rfl (sw_true rfl rfl rfl (by decide +kernel)) (own := [("one", 8)]) (pdi_seq (pd_var 2)) (blkOk_by (N := N_law_) (sc := defScope s_law) (by decide +kernel)) (fun _ _ _ _ _ => (pdg_name (i := 8) sc_law.nd rfl (by first | exact Or.inl rfl | exact Or.inr rfl) (by decide))) (fun _ _ _ _ _ => pdts_nil) (fun _ _ _ _ _ => (pd_fn (ok__law_made T) (hr.mono (by decide)) (pda_cons (pd_var 8) (pda_cons (pd_cmp (opd_eq hr.units) (pd_fn (ok__law_draw T) (hr.mono (by decide)) (pda_cons (pd_var 1) (pda_cons pd_int pda_nil))) pd_int (nomark _)) pda_nil)))) | exact pds_set (i := 3) sc_law.nd rfl (by first | exact Or.inl rfl | exact Or.inr rfl) (pd_lc (own := [("one", 8)]) rfl sc_law.nd (pdi_seq (pd_var 2)) (blkOk_by (N := N_law_) (sc := defScope s_law) (by decide +kernel)) (fun _ _ _ _ _ => (pdg_name (i := 8) sc_law.nd rfl (by first | exact Or.inl rfl | exact Or.inr rfl) (by decide))) (fun _ _ _ _ _ => pdts_nil) (fun _ _ _ _ _ => (pd_fn (ok__law_made T) (hr.mono (by decide)) (pda_cons (pd_var 8) (pda_cons (pd_cmp (opd_eq hr.units) (pd_fn (ok__law_draw T) (hr.mono (by decide)) (pda_cons (pd_var 1) (pda_cons pd_int pda_nil))) pd_int (nomark _)) pda_nil))))))
  (pss_consD (pds_set (i := 4) sc_law.nd rfl (by first | exact Or.inl rfl | exact Or.inr rfl) (pd_lstM (pda_cons (pd_lst (pda_cons (pd_mk (N := N_Sums) (ok_Sums_init T) T.mk_Sums (by decide +kernel) (by decide) (hr.mono (by decide)) (pda_cons (pd_ix ixd (pd_var 3) pd_int) pda_nil)) (pda_cons pd_int (pda_cons (pd_lstM pda_nil) (pda_cons (pd_lstM pda_nil) pda_nil))))) (pda_cons (pd_lst (pda_cons (pd_mk (N := N_Sums) (ok_Sums_init T) T.mk_Sums (by decide +kernel) (by decide) (hr.mono (by decide)) (pda_cons (pd_ix ixd (pd_var 3) pd_int) pda_nil)) (pda_cons pd_int (pda_cons (pd_lstM pda_nil) (pda_cons (pd_lstM pda_nil) pda_nil))))) pda_nil))))
  (pss_consD (pds_if (pdt_cmp (opd_eq hr.units) (pd_fn (ok__law_draw T) (hr.mono (by decide)) (pda_cons (pd_var 1) (pda_cons pd_int pda_nil))) pd_int (nomark _)) (pss_oneD (pds_drop (pd_lm PySem.F.slot_list_append PySem.F.type_list_append md_append (pd_var 4) (pda_cons (pd_lst (pda_cons (pd_mk (N := N_Sums) (ok_Sums_init T) T.mk_Sums (by decide +kernel) (by decide) (hr.mono (by decide)) (pda_cons (pd_ix ixd (pd_var 3) pd_int) pda_nil)) (pda_cons pd_int (pda_cons (pd_lstM pda_nil) (pda_cons (pd_lstM pda_nil) pda_nil))))) pda_nil)))) pss_nilD)
  (pss_consD (pds_if (PDw.pt (pdw_or (pdt_not (pdt_val (pd_fn (ok__law_compared T) (hr.mono (by decide)) (pda_cons (pd_var 1) (pda_cons (pd_var 2) (pda_cons (pd_ix ixd (pd_var 4) pd_int) (pda_cons (pd_ix ixd (pd_var 4) pd_int) pda_nil))))))) (pdw_or1 (pdt_not (pdt_val (pd_fn (ok__law_is_so T) (hr.mono (by decide)) (pda_cons (pd_var 2) (pda_cons (pd_ix ixd (pd_var 4) pd_int) pda_nil)))))))) (pss_oneD (pds_ret pd_bl)) pss_nilD)
  (pss_consD (pds_set (i := 5) sc_law.nd rfl (by first | exact Or.inl rfl | exact Or.inr rfl) (pd_op opd_add pd_int (pd_fn (ok__law_draw T) (hr.mono (by decide)) (pda_cons (pd_var 1) (pda_cons pd_int pda_nil)))))
  (pss_consD (pds_if (pdt_cmp (opd_eq hr.units) (pd_fn (ok__law_draw T) (hr.mono (by decide)) (pda_cons (pd_var 1) (pda_cons pd_int pda_nil))) pd_int (nomark _)) (pss_oneD (pds_set (i := 5) sc_law.nd rfl (by first | exact Or.inl rfl | exact Or.inr rfl) pd_int)) pss_nilD)
  (pss_consD (pds_set (i := 6) sc_law.nd rfl (by first | exact Or.inl rfl | exact Or.inr rfl) pd_int)
  (pss_consD (pds_for (vs := (List.range 9)) rfl (passes_of rfl) (pdi_rg1 T.b_range (pd_var 5)) (pdg_name (i := 7) sc_law.nd rfl (by first | exact Or.inl rfl | exact Or.inr rfl) (by decide)) (pss_consD (pds_if (pdt_cmp (opd_eq hr.units) (pd_fn (ok__law_draw T) (hr.mono (by decide)) (pda_cons (pd_var 1) (pda_cons pd_int pda_nil))) pd_int (nomark _)) (pss_oneD (pds_set (i := 6) sc_law.nd rfl (by first | exact Or.inl rfl | exact Or.inr rfl) (pd_fn (ok__law_draw T) (hr.mono (by decide)) (pda_cons (pd_var 1) (pda_cons (pd_callB cd_len T.b_len (by decide +kernel) (pda_cons (pd_var 4) pda_nil)) pda_nil))))) pss_nilD)
  (pss_oneD (pds_if (pdt_not (pdt_val (pd_fn (ok__law_turn T) (hr.mono (by decide)) (pda_cons (pd_var 1) (pda_cons (pd_var 2) (pda_cons (pd_var 3) (pda_cons (pd_var 4) (pda_cons (pd_var 6) pda_nil)))))))) (pss_oneD (pds_ret pd_bl)) pss_nilD))))
  (pss_consD (pds_if (PDw.pt (pdw_or (pdt_not (pdt_val (pd_fn (ok__law_twin T) (hr.mono (by decide)) (pda_cons (pd_var 1) (pda_cons (pd_var 2) (pda_cons (pd_var 3) (pda_cons (pd_var 4) (pda_cons (pd_ix ixd (pd_var 4) (pd_var 6)) pda_nil)))))))) (pdw_or1 (pdt_not (pdt_val (pd_fn (ok__law_refuses T) (hr.mono (by decide)) (pda_cons (pd_var 1) (pda_cons (pd_var 2) (pda_cons (pd_ix ixd (pd_var 4) pd_int) pda_nil))))))))) (pss_oneD (pds_ret pd_bl)) pss_nilD)
  (pss_consD (pds_for (vs := (List.range 9)) rfl (passes_of rfl) (pdi_seq (pd_var 4)) (pdg_name (i := 8) sc_law.nd rfl (by first | exact Or.inl rfl | exact Or.inr rfl) (by decide)) (pss_oneD (pds_if (PDw.pt (pdw_or (pdt_not (pdt_val (pd_fn (ok__law_is_so T) (hr.mono (by decide)) (pda_cons (pd_var 2) (pda_cons (pd_var 8) pda_nil))))) (pdw_or1 (pdt_not (pdt_val (pd_fn (ok__law_compared T) (hr.mono (by decide)) (pda_cons (pd_var 1) (pda_cons (pd_var 2) (pda_cons (pd_var 8) (pda_cons (pd_ix ixd (pd_var 4) (pd_var 6)) pda_nil)))))))))) (pss_oneD (pds_ret pd_bl)) pss_nilD)))
  (pss_oneD (pds_ret (pd_and (pd_fn (ok__law_reads T) (hr.mono (by decide)) (pda_cons (pd_var 1) (pda_cons (pd_var 2) (pda_cons (pd_ix ixd (pd_var 4) (pd_op opd_sub (pd_callB cd_len T.b_len (by decide +kernel) (pda_cons (pd_var 4) pda_nil)) pd_int)) pda_nil)))) (pd_one (pd_fn (ok__law_is_so T) (hr.mono (by decide)) (pda_cons (pd_var 2) (pda_cons (pd_ix ixd (pd_var 4) (pd_var 6)) pda_nil)))))))))))))))))))) (rd_law c)
end
end K09
set_option Elab.async false
set_option linter.all false
set_option maxRecDepth 100000
set_option maxHeartbeats 4000000
namespace K09
open PySem PySem.Spec PyProof.Rows L2 DL
abbrev spEnd : Ctr := DL.spScript
theorem spEnd_at {K : PySem.W.Frag} {H : Hp} {a : Addr} {ns : List Int} {E : XK} (hl : ns.length ≤ 63) (hS : SqL K H a (ns.map V.int)) : lSp K spEnd [.ref a] H (fun v _ => v = .bl true) E := spScript_at hl hS
theorem all_mk {l : PySem.W.OpenLaw} {w : World} {K : PySem.W.Frag} {h : Heap} {mg : Str → Option Value} {fa : Addr} (X : K.In h) (G : h.Ns mainGlobals mg) (hfa : mg "law" = some (.ref fa))
    {C0 : Addr}
    {C1 : Addr}
    {C2 : Addr}
    {X_ServeError : Addr}
    {X_InvalidNumber : Addr}
    {X_InvalidLetter : Addr}
    {X_InvalidRow : Addr}
    {X_TooMany : Addr}
    {X_Undefined : Addr}
    {f1 : Addr} {oc1 kV1 dc1 pm1 cd1 ct1 : Value} {od1 an1 : Option Addr} {sl1 : Array (Option Value)}
    {nm1 q1 : Str} {N1 : Addr} {bs1 : List Value} {sn1 : List Str} {sub1 : List Value} {ab1 : Bool} {col1 : Option Bool} {dd1 : Option Addr} {m01 m11 m21 m31 m51 : Option Value}
    {f2 : Addr} {oc2 kV2 dc2 pm2 cd2 ct2 : Value} {od2 an2 : Option Addr} {sl2 : Array (Option Value)}
    {nm2 q2 : Str} {N2 : Addr} {bs2 : List Value} {sn2 : List Str} {sub2 : List Value} {ab2 : Bool} {col2 : Option Bool} {dd2 : Option Addr} {m02 m12 m22 m32 m52 : Option Value}
    {T_PRIMES : Addr} {oT_PRIMES : Obj}
    {f3 : Addr} {oc3 kV3 dc3 pm3 cd3 ct3 : Value} {od3 an3 : Option Addr} {sl3 : Array (Option Value)}
    {f4 : Addr} {oc4 kV4 dc4 pm4 cd4 ct4 : Value} {od4 an4 : Option Addr} {sl4 : Array (Option Value)}
    {f5 : Addr} {oc5 kV5 dc5 pm5 cd5 ct5 : Value} {od5 an5 : Option Addr} {sl5 : Array (Option Value)}
    {f6 : Addr} {oc6 kV6 dc6 pm6 cd6 ct6 : Value} {od6 an6 : Option Addr} {sl6 : Array (Option Value)}
    {f7 : Addr} {oc7 kV7 dc7 pm7 cd7 ct7 : Value} {od7 an7 : Option Addr} {sl7 : Array (Option Value)}
    {f8 : Addr} {oc8 kV8 dc8 pm8 cd8 ct8 : Value} {od8 an8 : Option Addr} {sl8 : Array (Option Value)}
    {f9 : Addr} {oc9 kV9 dc9 pm9 cd9 ct9 : Value} {od9 an9 : Option Addr} {sl9 : Array (Option Value)}
    {f10 : Addr} {oc10 kV10 dc10 pm10 cd10 ct10 : Value} {od10 an10 : Option Addr} {sl10 : Array (Option Value)}
    {f11 : Addr} {oc11 kV11 dc11 pm11 cd11 ct11 : Value} {od11 an11 : Option Addr} {sl11 : Array (Option Value)}
    {f12 : Addr} {oc12 kV12 dc12 pm12 cd12 ct12 : Value} {od12 an12 : Option Addr} {sl12 : Array (Option Value)}
    {f13 : Addr} {oc13 kV13 dc13 pm13 cd13 ct13 : Value} {od13 an13 : Option Addr} {sl13 : Array (Option Value)}
    {f14 : Addr} {oc14 kV14 dc14 pm14 cd14 ct14 : Value} {od14 an14 : Option Addr} {sl14 : Array (Option Value)}
    {f15 : Addr} {oc15 kV15 dc15 pm15 cd15 ct15 : Value} {od15 an15 : Option Addr} {sl15 : Array (Option Value)}
    {f16 : Addr} {oc16 kV16 dc16 pm16 cd16 ct16 : Value} {od16 an16 : Option Addr} {sl16 : Array (Option Value)}
    {f17 : Addr} {oc17 kV17 dc17 pm17 cd17 ct17 : Value} {od17 an17 : Option Addr} {sl17 : Array (Option Value)}
    {f18 : Addr} {oc18 kV18 dc18 pm18 cd18 ct18 : Value} {od18 an18 : Option Addr} {sl18 : Array (Option Value)}
    {f19 : Addr} {oc19 kV19 dc19 pm19 cd19 ct19 : Value} {od19 an19 : Option Addr} {sl19 : Array (Option Value)}
    {f20 : Addr} {oc20 kV20 dc20 pm20 cd20 ct20 : Value} {od20 an20 : Option Addr} {sl20 : Array (Option Value)}
    {f21 : Addr} {oc21 kV21 dc21 pm21 cd21 ct21 : Value} {od21 an21 : Option Addr} {sl21 : Array (Option Value)}
    {f22 : Addr} {oc22 kV22 dc22 pm22 cd22 ct22 : Value} {od22 an22 : Option Addr} {sl22 : Array (Option Value)}
    {f23 : Addr} {oc23 kV23 dc23 pm23 cd23 ct23 : Value} {od23 an23 : Option Addr} {sl23 : Array (Option Value)}
    {f24 : Addr} {oc24 kV24 dc24 pm24 cd24 ct24 : Value} {od24 an24 : Option Addr} {sl24 : Array (Option Value)}
    {f25 : Addr} {oc25 kV25 dc25 pm25 cd25 ct25 : Value} {od25 an25 : Option Addr} {sl25 : Array (Option Value)}
    {f26 : Addr} {oc26 kV26 dc26 pm26 cd26 ct26 : Value} {od26 an26 : Option Addr} {sl26 : Array (Option Value)}
    {f27 : Addr} {oc27 kV27 dc27 pm27 cd27 ct27 : Value} {od27 an27 : Option Addr} {sl27 : Array (Option Value)}
    {f28 : Addr} {oc28 kV28 dc28 pm28 cd28 ct28 : Value} {od28 an28 : Option Addr} {sl28 : Array (Option Value)}
    {f29 : Addr} {oc29 kV29 dc29 pm29 cd29 ct29 : Value} {od29 an29 : Option Addr} {sl29 : Array (Option Value)}
    {f30 : Addr} {oc30 kV30 dc30 pm30 cd30 ct30 : Value} {od30 an30 : Option Addr} {sl30 : Array (Option Value)}
    {f31 : Addr} {oc31 kV31 dc31 pm31 cd31 ct31 : Value} {od31 an31 : Option Addr} {sl31 : Array (Option Value)}
    {f32 : Addr} {oc32 kV32 dc32 pm32 cd32 ct32 : Value} {od32 an32 : Option Addr} {sl32 : Array (Option Value)}
    {f33 : Addr} {oc33 kV33 dc33 pm33 cd33 ct33 : Value} {od33 an33 : Option Addr} {sl33 : Array (Option Value)}
    {f34 : Addr} {oc34 kV34 dc34 pm34 cd34 ct34 : Value} {od34 an34 : Option Addr} {sl34 : Array (Option Value)}
    {f35 : Addr} {oc35 kV35 dc35 pm35 cd35 ct35 : Value} {od35 an35 : Option Addr} {sl35 : Array (Option Value)}
    {f36 : Addr} {oc36 kV36 dc36 pm36 cd36 ct36 : Value} {od36 an36 : Option Addr} {sl36 : Array (Option Value)}
    {f37 : Addr} {oc37 kV37 dc37 pm37 cd37 ct37 : Value} {od37 an37 : Option Addr} {sl37 : Array (Option Value)}
    {f38 : Addr} {oc38 kV38 dc38 pm38 cd38 ct38 : Value} {od38 an38 : Option Addr} {sl38 : Array (Option Value)}
    {f39 : Addr} {oc39 kV39 dc39 pm39 cd39 ct39 : Value} {od39 an39 : Option Addr} {sl39 : Array (Option Value)}
    {f40 : Addr} {oc40 kV40 dc40 pm40 cd40 ct40 : Value} {od40 an40 : Option Addr} {sl40 : Array (Option Value)}
    {f41 : Addr} {oc41 kV41 dc41 pm41 cd41 ct41 : Value} {od41 an41 : Option Addr} {sl41 : Array (Option Value)}
    {f42 : Addr} {oc42 kV42 dc42 pm42 cd42 ct42 : Value} {od42 an42 : Option Addr} {sl42 : Array (Option Value)}
    {f43 : Addr} {oc43 kV43 dc43 pm43 cd43 ct43 : Value} {od43 an43 : Option Addr} {sl43 : Array (Option Value)}
    {f44 : Addr} {oc44 kV44 dc44 pm44 cd44 ct44 : Value} {od44 an44 : Option Addr} {sl44 : Array (Option Value)}
    (aC0 : PySem.W.nsIn K mainGlobals "Net" = some (some (.ref C0)))
    (aC1 : PySem.W.nsIn K mainGlobals "LayerReader" = some (some (.ref C1)))
    (aC2 : PySem.W.nsIn K mainGlobals "Sums" = some (some (.ref C2)))
    (aX_ServeError : PySem.W.nsIn K mainGlobals "ServeError" = some (some (.ref X_ServeError)))
    (aX_InvalidNumber : PySem.W.nsIn K mainGlobals "InvalidNumber" = some (some (.ref X_InvalidNumber)))
    (aX_InvalidLetter : PySem.W.nsIn K mainGlobals "InvalidLetter" = some (some (.ref X_InvalidLetter)))
    (aX_InvalidRow : PySem.W.nsIn K mainGlobals "InvalidRow" = some (some (.ref X_InvalidRow)))
    (aX_TooMany : PySem.W.nsIn K mainGlobals "TooMany" = some (some (.ref X_TooMany)))
    (aX_Undefined : PySem.W.nsIn K mainGlobals "Undefined" = some (some (.ref X_Undefined)))
    (xL1 : K.lookup X_InvalidLetter = some (excClassObj nm1 q1 X_InvalidLetter N1 bs1 [.ref X_ServeError, .type "ValueError", .type "Exception", .type "BaseException", .type "object"] true sn1 sub1 ab1 col1 dd1 m01 m11 m21 m31 m51 "ValueError.__new__"))
    (saX_InvalidLetter : PySem.W.findIn K (.ref X_InvalidLetter) "__setattr__" = some (some (.builtin "object.__setattr__")))
    (kcX_InvalidLetter : PySem.W.keepIn K (.ref X_InvalidLetter) = true)
    (iX_InvalidLetter : PySem.W.findIn K (.ref X_InvalidLetter) "__init__" = some (some (.ref f1)))
    (tfX_InvalidLetter : PySem.W.typeIn K (.ref f1) = some (.type "function"))
    (l1 : K.lookup f1 = some ⟨oc1, od1, .func (PySem.W.fnOf "__init__" "InvalidLetter.__init__" (defArgs (inClass (topS 3) 0)) (defBody (inClass (topS 3) 0)) (defScope (inClass (topS 3) 0)) .none kV1 dc1 pm1 an1 cd1 ct1), sl1⟩)
    (c1 : PySem.W.codeIn K cd1 "InvalidLetter.__init__" = true)
    (k1 : PySem.W.keepIn K (.ref f1) = true)
    (eX_InvalidLetter : PySem.W.subIn K (.ref X_InvalidLetter) (.type "BaseException") = some true)
    (tX_InvalidLetter : PySem.W.typeIn K (.ref X_InvalidLetter) = some (.type "type"))
    (nfX_InvalidLetter_letter : PySem.W.findIn K (.ref X_InvalidLetter) "letter" = some none)
    (xL2 : K.lookup X_InvalidNumber = some (excClassObj nm2 q2 X_InvalidNumber N2 bs2 [.ref X_ServeError, .type "ValueError", .type "Exception", .type "BaseException", .type "object"] true sn2 sub2 ab2 col2 dd2 m02 m12 m22 m32 m52 "ValueError.__new__"))
    (saX_InvalidNumber : PySem.W.findIn K (.ref X_InvalidNumber) "__setattr__" = some (some (.builtin "object.__setattr__")))
    (kcX_InvalidNumber : PySem.W.keepIn K (.ref X_InvalidNumber) = true)
    (iX_InvalidNumber : PySem.W.findIn K (.ref X_InvalidNumber) "__init__" = some (some (.ref f2)))
    (tfX_InvalidNumber : PySem.W.typeIn K (.ref f2) = some (.type "function"))
    (l2 : K.lookup f2 = some ⟨oc2, od2, .func (PySem.W.fnOf "__init__" "InvalidNumber.__init__" (defArgs (inClass (topS 2) 0)) (defBody (inClass (topS 2) 0)) (defScope (inClass (topS 2) 0)) .none kV2 dc2 pm2 an2 cd2 ct2), sl2⟩)
    (c2 : PySem.W.codeIn K cd2 "InvalidNumber.__init__" = true)
    (k2 : PySem.W.keepIn K (.ref f2) = true)
    (eX_InvalidNumber : PySem.W.subIn K (.ref X_InvalidNumber) (.type "BaseException") = some true)
    (tX_InvalidNumber : PySem.W.typeIn K (.ref X_InvalidNumber) = some (.type "type"))
    (nfX_InvalidNumber_number : PySem.W.findIn K (.ref X_InvalidNumber) "number" = some none)
    (cn_PRIMES : PySem.W.nsIn K mainGlobals "PRIMES" = some (some (.ref T_PRIMES)))
    (cl_PRIMES : K.lookup T_PRIMES = some oT_PRIMES)
    (ct_PRIMES : tupIs oT_PRIMES K_PRIMES = true)
    (icX_InvalidLetter : PySem.W.isClsIn K X_InvalidLetter = true)
    (sub_InvalidLetter_InvalidLetter : PySem.W.subIn K (.ref X_InvalidLetter) (.ref X_InvalidLetter) = some true)
    (ne_InvalidLetter_Undefined : X_InvalidLetter ≠ X_Undefined)
    (icX_Undefined : PySem.W.isClsIn K X_Undefined = true)
    (tX_Undefined : PySem.W.typeIn K (.ref X_Undefined) = some (.type "type"))
    (sub_InvalidLetter_Undefined : PySem.W.subIn K (.ref X_InvalidLetter) (.ref X_Undefined) = some false)
    (ne_InvalidLetter_TooMany : X_InvalidLetter ≠ X_TooMany)
    (icX_TooMany : PySem.W.isClsIn K X_TooMany = true)
    (tX_TooMany : PySem.W.typeIn K (.ref X_TooMany) = some (.type "type"))
    (sub_InvalidLetter_TooMany : PySem.W.subIn K (.ref X_InvalidLetter) (.ref X_TooMany) = some false)
    (ne_InvalidLetter_InvalidRow : X_InvalidLetter ≠ X_InvalidRow)
    (icX_InvalidRow : PySem.W.isClsIn K X_InvalidRow = true)
    (tX_InvalidRow : PySem.W.typeIn K (.ref X_InvalidRow) = some (.type "type"))
    (sub_InvalidLetter_InvalidRow : PySem.W.subIn K (.ref X_InvalidLetter) (.ref X_InvalidRow) = some false)
    (ne_InvalidLetter_InvalidNumber : X_InvalidLetter ≠ X_InvalidNumber)
    (icX_InvalidNumber : PySem.W.isClsIn K X_InvalidNumber = true)
    (sub_InvalidLetter_InvalidNumber : PySem.W.subIn K (.ref X_InvalidLetter) (.ref X_InvalidNumber) = some false)
    (ne_InvalidLetter_ServeError : X_InvalidLetter ≠ X_ServeError)
    (icX_ServeError : PySem.W.isClsIn K X_ServeError = true)
    (tX_ServeError : PySem.W.typeIn K (.ref X_ServeError) = some (.type "type"))
    (sub_InvalidLetter_ServeError : PySem.W.subIn K (.ref X_InvalidLetter) (.ref X_ServeError) = some true)
    (caX_InvalidLetter : PySem.W.findIn K (.ref X_InvalidLetter) "__class__" = some (some (.builtin "object.__class__")))
    (cgX : PySem.W.specialIn K (.builtin "object.__class__") "__get__" = some (some (.builtin "getset_descriptor.__get__")))
    (ctX : PySem.W.takesIn K (.builtin "object.__class__") = some true)
    (moX_InvalidLetter : PySem.W.mroIn K X_InvalidLetter (.type "object") = some true)
    (gaX_InvalidLetter : PySem.W.findIn K (.ref X_InvalidLetter) "__getattribute__" = some (some (.builtin "BaseException.__getattribute__")))
    (ggX_InvalidLetter : PySem.W.findIn K (.ref X_InvalidLetter) "__getattr__" = some none)
    (hdX_InvalidLetter : PySem.W.hasDictIn K X_InvalidLetter = true)
    (a3 : PySem.W.nsIn K mainGlobals "is_between" = some (some (.ref f3)))
    (l3 : K.lookup f3 = some ⟨oc3, od3, .func (PySem.W.fnOf "is_between" "is_between" (defArgs s_is_between) (defBody s_is_between) (defScope s_is_between) .none kV3 dc3 pm3 an3 cd3 ct3), sl3⟩)
    (c3 : PySem.W.codeIn K cd3 "is_between" = true)
    (k3 : PySem.W.keepIn K (.ref f3) = true)
    (a4 : PySem.W.nsIn K mainGlobals "vector_of" = some (some (.ref f4)))
    (l4 : K.lookup f4 = some ⟨oc4, od4, .func (PySem.W.fnOf "vector_of" "vector_of" (defArgs s_vector_of) (defBody s_vector_of) (defScope s_vector_of) .none kV4 dc4 pm4 an4 cd4 ct4), sl4⟩)
    (c4 : PySem.W.codeIn K cd4 "vector_of" = true)
    (k4 : PySem.W.keepIn K (.ref f4) = true)
    (a5 : PySem.W.nsIn K mainGlobals "matrix_of" = some (some (.ref f5)))
    (l5 : K.lookup f5 = some ⟨oc5, od5, .func (PySem.W.fnOf "matrix_of" "matrix_of" (defArgs s_matrix_of) (defBody s_matrix_of) (defScope s_matrix_of) .none kV5 dc5 pm5 an5 cd5 ct5), sl5⟩)
    (c5 : PySem.W.codeIn K cd5 "matrix_of" = true)
    (k5 : PySem.W.keepIn K (.ref f5) = true)
    (a6 : PySem.W.nsIn K mainGlobals "product_sum" = some (some (.ref f6)))
    (l6 : K.lookup f6 = some ⟨oc6, od6, .func (PySem.W.fnOf "product_sum" "product_sum" (defArgs s_product_sum) (defBody s_product_sum) (defScope s_product_sum) .none kV6 dc6 pm6 an6 cd6 ct6), sl6⟩)
    (c6 : PySem.W.codeIn K cd6 "product_sum" = true)
    (k6 : PySem.W.keepIn K (.ref f6) = true)
    (a7 : PySem.W.findIn K (.ref C0) "__init__" = some (some (.ref f7)))
    (i7 : PySem.W.isFn K (.ref f7) = true)
    (l7 : K.lookup f7 = some ⟨oc7, od7, .func (PySem.W.fnOf "__init__" "Net.__init__" (defArgs s_Net_init) (defBody s_Net_init) (defScope s_Net_init) .none kV7 dc7 pm7 an7 cd7 ct7), sl7⟩)
    (c7 : PySem.W.codeIn K cd7 "Net.__init__" = true)
    (k7 : PySem.W.keepIn K (.ref f7) = true)
    (a8 : PySem.W.findIn K (.ref C0) "is_letter" = some (some (.ref f8)))
    (i8 : PySem.W.isFn K (.ref f8) = true)
    (l8 : K.lookup f8 = some ⟨oc8, od8, .func (PySem.W.fnOf "is_letter" "Net.is_letter" (defArgs s_Net_is_letter) (defBody s_Net_is_letter) (defScope s_Net_is_letter) .none kV8 dc8 pm8 an8 cd8 ct8), sl8⟩)
    (c8 : PySem.W.codeIn K cd8 "Net.is_letter" = true)
    (k8 : PySem.W.keepIn K (.ref f8) = true)
    (a9 : PySem.W.findIn K (.ref C0) "rest" = some (some (.ref f9)))
    (i9 : PySem.W.isFn K (.ref f9) = true)
    (l9 : K.lookup f9 = some ⟨oc9, od9, .func (PySem.W.fnOf "rest" "Net.rest" (defArgs s_Net_rest) (defBody s_Net_rest) (defScope s_Net_rest) .none kV9 dc9 pm9 an9 cd9 ct9), sl9⟩)
    (c9 : PySem.W.codeIn K cd9 "Net.rest" = true)
    (k9 : PySem.W.keepIn K (.ref f9) = true)
    (a10 : PySem.W.findIn K (.ref C0) "times" = some (some (.ref f10)))
    (i10 : PySem.W.isFn K (.ref f10) = true)
    (l10 : K.lookup f10 = some ⟨oc10, od10, .func (PySem.W.fnOf "times" "Net.times" (defArgs s_Net_times) (defBody s_Net_times) (defScope s_Net_times) .none kV10 dc10 pm10 an10 cd10 ct10), sl10⟩)
    (c10 : PySem.W.codeIn K cd10 "Net.times" = true)
    (k10 : PySem.W.keepIn K (.ref f10) = true)
    (a11 : PySem.W.findIn K (.ref C0) "plus" = some (some (.ref f11)))
    (i11 : PySem.W.isFn K (.ref f11) = true)
    (l11 : K.lookup f11 = some ⟨oc11, od11, .func (PySem.W.fnOf "plus" "Net.plus" (defArgs s_Net_plus) (defBody s_Net_plus) (defScope s_Net_plus) .none kV11 dc11 pm11 an11 cd11 ct11), sl11⟩)
    (c11 : PySem.W.codeIn K cd11 "Net.plus" = true)
    (k11 : PySem.W.keepIn K (.ref f11) = true)
    (a12 : PySem.W.nsIn K mainGlobals "no_matrix" = some (some (.ref f12)))
    (l12 : K.lookup f12 = some ⟨oc12, od12, .func (PySem.W.fnOf "no_matrix" "no_matrix" (defArgs s_no_matrix) (defBody s_no_matrix) (defScope s_no_matrix) .none kV12 dc12 pm12 an12 cd12 ct12), sl12⟩)
    (c12 : PySem.W.codeIn K cd12 "no_matrix" = true)
    (k12 : PySem.W.keepIn K (.ref f12) = true)
    (a13 : PySem.W.nsIn K mainGlobals "with_pair" = some (some (.ref f13)))
    (l13 : K.lookup f13 = some ⟨oc13, od13, .func (PySem.W.fnOf "with_pair" "with_pair" (defArgs s_with_pair) (defBody s_with_pair) (defScope s_with_pair) .none kV13 dc13 pm13 an13 cd13 ct13), sl13⟩)
    (c13 : PySem.W.codeIn K cd13 "with_pair" = true)
    (k13 : PySem.W.keepIn K (.ref f13) = true)
    (a14 : PySem.W.findIn K (.ref C1) "__init__" = some (some (.ref f14)))
    (i14 : PySem.W.isFn K (.ref f14) = true)
    (l14 : K.lookup f14 = some ⟨oc14, od14, .func (PySem.W.fnOf "__init__" "LayerReader.__init__" (defArgs s_LayerReader_init) (defBody s_LayerReader_init) (defScope s_LayerReader_init) .none kV14 dc14 pm14 an14 cd14 ct14), sl14⟩)
    (c14 : PySem.W.codeIn K cd14 "LayerReader.__init__" = true)
    (k14 : PySem.W.keepIn K (.ref f14) = true)
    (a15 : PySem.W.findIn K (.ref C1) "read" = some (some (.ref f15)))
    (i15 : PySem.W.isFn K (.ref f15) = true)
    (l15 : K.lookup f15 = some ⟨oc15, od15, .func (PySem.W.fnOf "read" "LayerReader.read" (defArgs s_LayerReader_read) (defBody s_LayerReader_read) (defScope s_LayerReader_read) .none kV15 dc15 pm15 an15 cd15 ct15), sl15⟩)
    (c15 : PySem.W.codeIn K cd15 "LayerReader.read" = true)
    (k15 : PySem.W.keepIn K (.ref f15) = true)
    (a16 : PySem.W.findIn K (.ref C2) "__init__" = some (some (.ref f16)))
    (i16 : PySem.W.isFn K (.ref f16) = true)
    (l16 : K.lookup f16 = some ⟨oc16, od16, .func (PySem.W.fnOf "__init__" "Sums.__init__" (defArgs s_Sums_init) (defBody s_Sums_init) (defScope s_Sums_init) .none kV16 dc16 pm16 an16 cd16 ct16), sl16⟩)
    (c16 : PySem.W.codeIn K cd16 "Sums.__init__" = true)
    (k16 : PySem.W.keepIn K (.ref f16) = true)
    (a17 : PySem.W.findIn K (.ref C2) "read" = some (some (.ref f17)))
    (i17 : PySem.W.isFn K (.ref f17) = true)
    (l17 : K.lookup f17 = some ⟨oc17, od17, .func (PySem.W.fnOf "read" "Sums.read" (defArgs s_Sums_read) (defBody s_Sums_read) (defScope s_Sums_read) .none kV17 dc17 pm17 an17 cd17 ct17), sl17⟩)
    (c17 : PySem.W.codeIn K cd17 "Sums.read" = true)
    (k17 : PySem.W.keepIn K (.ref f17) = true)
    (a18 : PySem.W.findIn K (.ref C2) "twin" = some (some (.ref f18)))
    (i18 : PySem.W.isFn K (.ref f18) = true)
    (l18 : K.lookup f18 = some ⟨oc18, od18, .func (PySem.W.fnOf "twin" "Sums.twin" (defArgs s_Sums_twin) (defBody s_Sums_twin) (defScope s_Sums_twin) .none kV18 dc18 pm18 an18 cd18 ct18), sl18⟩)
    (c18 : PySem.W.codeIn K cd18 "Sums.twin" = true)
    (k18 : PySem.W.keepIn K (.ref f18) = true)
    (a19 : PySem.W.findIn K (.ref C2) "state" = some (some (.ref f19)))
    (i19 : PySem.W.isFn K (.ref f19) = true)
    (l19 : K.lookup f19 = some ⟨oc19, od19, .func (PySem.W.fnOf "state" "Sums.state" (defArgs s_Sums_state) (defBody s_Sums_state) (defScope s_Sums_state) .none kV19 dc19 pm19 an19 cd19 ct19), sl19⟩)
    (c19 : PySem.W.codeIn K cd19 "Sums.state" = true)
    (k19 : PySem.W.keepIn K (.ref f19) = true)
    (a20 : PySem.W.findIn K (.ref C2) "__eq__" = some (some (.ref f20)))
    (i20 : PySem.W.isFn K (.ref f20) = true)
    (l20 : K.lookup f20 = some ⟨oc20, od20, .func (PySem.W.fnOf "__eq__" "Sums.__eq__" (defArgs s_Sums___eq__) (defBody s_Sums___eq__) (defScope s_Sums___eq__) .none kV20 dc20 pm20 an20 cd20 ct20), sl20⟩)
    (c20 : PySem.W.codeIn K cd20 "Sums.__eq__" = true)
    (k20 : PySem.W.keepIn K (.ref f20) = true)
    (a21 : PySem.W.nsIn K mainGlobals "sums_behind" = some (some (.ref f21)))
    (l21 : K.lookup f21 = some ⟨oc21, od21, .func (PySem.W.fnOf "sums_behind" "sums_behind" (defArgs s_sums_behind) (defBody s_sums_behind) (defScope s_sums_behind) .none kV21 dc21 pm21 an21 cd21 ct21), sl21⟩)
    (c21 : PySem.W.codeIn K cd21 "sums_behind" = true)
    (k21 : PySem.W.keepIn K (.ref f21) = true)
    (a22 : PySem.W.nsIn K mainGlobals "_law_pool" = some (some (.ref f22)))
    (l22 : K.lookup f22 = some ⟨oc22, od22, .func (PySem.W.fnOf "_law_pool" "_law_pool" (defArgs s__law_pool) (defBody s__law_pool) (defScope s__law_pool) .none kV22 dc22 pm22 an22 cd22 ct22), sl22⟩)
    (c22 : PySem.W.codeIn K cd22 "_law_pool" = true)
    (k22 : PySem.W.keepIn K (.ref f22) = true)
    (a23 : PySem.W.nsIn K mainGlobals "_law_draw" = some (some (.ref f23)))
    (l23 : K.lookup f23 = some ⟨oc23, od23, .func (PySem.W.fnOf "_law_draw" "_law_draw" (defArgs s__law_draw) (defBody s__law_draw) (defScope s__law_draw) .none kV23 dc23 pm23 an23 cd23 ct23), sl23⟩)
    (c23 : PySem.W.codeIn K cd23 "_law_draw" = true)
    (k23 : PySem.W.keepIn K (.ref f23) = true)
    (a24 : PySem.W.nsIn K mainGlobals "_law_number" = some (some (.ref f24)))
    (l24 : K.lookup f24 = some ⟨oc24, od24, .func (PySem.W.fnOf "_law_number" "_law_number" (defArgs s__law_number) (defBody s__law_number) (defScope s__law_number) .none kV24 dc24 pm24 an24 cd24 ct24), sl24⟩)
    (c24 : PySem.W.codeIn K cd24 "_law_number" = true)
    (k24 : PySem.W.keepIn K (.ref f24) = true)
    (a25 : PySem.W.nsIn K mainGlobals "_law_matrix" = some (some (.ref f25)))
    (l25 : K.lookup f25 = some ⟨oc25, od25, .func (PySem.W.fnOf "_law_matrix" "_law_matrix" (defArgs s__law_matrix) (defBody s__law_matrix) (defScope s__law_matrix) .none kV25 dc25 pm25 an25 cd25 ct25), sl25⟩)
    (c25 : PySem.W.codeIn K cd25 "_law_matrix" = true)
    (k25 : PySem.W.keepIn K (.ref f25) = true)
    (a26 : PySem.W.nsIn K mainGlobals "_law_net" = some (some (.ref f26)))
    (l26 : K.lookup f26 = some ⟨oc26, od26, .func (PySem.W.fnOf "_law_net" "_law_net" (defArgs s__law_net) (defBody s__law_net) (defScope s__law_net) .none kV26 dc26 pm26 an26 cd26 ct26), sl26⟩)
    (c26 : PySem.W.codeIn K cd26 "_law_net" = true)
    (k26 : PySem.W.keepIn K (.ref f26) = true)
    (a27 : PySem.W.nsIn K mainGlobals "_law_wide_net" = some (some (.ref f27)))
    (l27 : K.lookup f27 = some ⟨oc27, od27, .func (PySem.W.fnOf "_law_wide_net" "_law_wide_net" (defArgs s__law_wide_net) (defBody s__law_wide_net) (defScope s__law_wide_net) .none kV27 dc27 pm27 an27 cd27 ct27), sl27⟩)
    (c27 : PySem.W.codeIn K cd27 "_law_wide_net" = true)
    (k27 : PySem.W.keepIn K (.ref f27) = true)
    (a28 : PySem.W.nsIn K mainGlobals "_law_copy" = some (some (.ref f28)))
    (l28 : K.lookup f28 = some ⟨oc28, od28, .func (PySem.W.fnOf "_law_copy" "_law_copy" (defArgs s__law_copy) (defBody s__law_copy) (defScope s__law_copy) .none kV28 dc28 pm28 an28 cd28 ct28), sl28⟩)
    (c28 : PySem.W.codeIn K cd28 "_law_copy" = true)
    (k28 : PySem.W.keepIn K (.ref f28) = true)
    (a29 : PySem.W.nsIn K mainGlobals "_law_made" = some (some (.ref f29)))
    (l29 : K.lookup f29 = some ⟨oc29, od29, .func (PySem.W.fnOf "_law_made" "_law_made" (defArgs s__law_made) (defBody s__law_made) (defScope s__law_made) .none kV29 dc29 pm29 an29 cd29 ct29), sl29⟩)
    (c29 : PySem.W.codeIn K cd29 "_law_made" = true)
    (k29 : PySem.W.keepIn K (.ref f29) = true)
    (a30 : PySem.W.nsIn K mainGlobals "_law_times" = some (some (.ref f30)))
    (l30 : K.lookup f30 = some ⟨oc30, od30, .func (PySem.W.fnOf "_law_times" "_law_times" (defArgs s__law_times) (defBody s__law_times) (defScope s__law_times) .none kV30 dc30 pm30 an30 cd30 ct30), sl30⟩)
    (c30 : PySem.W.codeIn K cd30 "_law_times" = true)
    (k30 : PySem.W.keepIn K (.ref f30) = true)
    (a31 : PySem.W.nsIn K mainGlobals "_law_row" = some (some (.ref f31)))
    (l31 : K.lookup f31 = some ⟨oc31, od31, .func (PySem.W.fnOf "_law_row" "_law_row" (defArgs s__law_row) (defBody s__law_row) (defScope s__law_row) .none kV31 dc31 pm31 an31 cd31 ct31), sl31⟩)
    (c31 : PySem.W.codeIn K cd31 "_law_row" = true)
    (k31 : PySem.W.keepIn K (.ref f31) = true)
    (a32 : PySem.W.nsIn K mainGlobals "_law_same" = some (some (.ref f32)))
    (l32 : K.lookup f32 = some ⟨oc32, od32, .func (PySem.W.fnOf "_law_same" "_law_same" (defArgs s__law_same) (defBody s__law_same) (defScope s__law_same) .none kV32 dc32 pm32 an32 cd32 ct32), sl32⟩)
    (c32 : PySem.W.codeIn K cd32 "_law_same" = true)
    (k32 : PySem.W.keepIn K (.ref f32) = true)
    (a33 : PySem.W.nsIn K mainGlobals "_law_no_letter" = some (some (.ref f33)))
    (l33 : K.lookup f33 = some ⟨oc33, od33, .func (PySem.W.fnOf "_law_no_letter" "_law_no_letter" (defArgs s__law_no_letter) (defBody s__law_no_letter) (defScope s__law_no_letter) .none kV33 dc33 pm33 an33 cd33 ct33), sl33⟩)
    (c33 : PySem.W.codeIn K cd33 "_law_no_letter" = true)
    (k33 : PySem.W.keepIn K (.ref f33) = true)
    (a34 : PySem.W.nsIn K mainGlobals "_law_read" = some (some (.ref f34)))
    (l34 : K.lookup f34 = some ⟨oc34, od34, .func (PySem.W.fnOf "_law_read" "_law_read" (defArgs s__law_read) (defBody s__law_read) (defScope s__law_read) .none kV34 dc34 pm34 an34 cd34 ct34), sl34⟩)
    (c34 : PySem.W.codeIn K cd34 "_law_read" = true)
    (k34 : PySem.W.keepIn K (.ref f34) = true)
    (a35 : PySem.W.nsIn K mainGlobals "_law_grids" = some (some (.ref f35)))
    (l35 : K.lookup f35 = some ⟨oc35, od35, .func (PySem.W.fnOf "_law_grids" "_law_grids" (defArgs s__law_grids) (defBody s__law_grids) (defScope s__law_grids) .none kV35 dc35 pm35 an35 cd35 ct35), sl35⟩)
    (c35 : PySem.W.codeIn K cd35 "_law_grids" = true)
    (k35 : PySem.W.keepIn K (.ref f35) = true)
    (a36 : PySem.W.nsIn K mainGlobals "_law_own" = some (some (.ref f36)))
    (l36 : K.lookup f36 = some ⟨oc36, od36, .func (PySem.W.fnOf "_law_own" "_law_own" (defArgs s__law_own) (defBody s__law_own) (defScope s__law_own) .none kV36 dc36 pm36 an36 cd36 ct36), sl36⟩)
    (c36 : PySem.W.codeIn K cd36 "_law_own" = true)
    (k36 : PySem.W.keepIn K (.ref f36) = true)
    (a37 : PySem.W.nsIn K mainGlobals "_law_is_so" = some (some (.ref f37)))
    (l37 : K.lookup f37 = some ⟨oc37, od37, .func (PySem.W.fnOf "_law_is_so" "_law_is_so" (defArgs s__law_is_so) (defBody s__law_is_so) (defScope s__law_is_so) .none kV37 dc37 pm37 an37 cd37 ct37), sl37⟩)
    (c37 : PySem.W.codeIn K cd37 "_law_is_so" = true)
    (k37 : PySem.W.keepIn K (.ref f37) = true)
    (a38 : PySem.W.nsIn K mainGlobals "_law_reads" = some (some (.ref f38)))
    (l38 : K.lookup f38 = some ⟨oc38, od38, .func (PySem.W.fnOf "_law_reads" "_law_reads" (defArgs s__law_reads) (defBody s__law_reads) (defScope s__law_reads) .none kV38 dc38 pm38 an38 cd38 ct38), sl38⟩)
    (c38 : PySem.W.codeIn K cd38 "_law_reads" = true)
    (k38 : PySem.W.keepIn K (.ref f38) = true)
    (a39 : PySem.W.nsIn K mainGlobals "_law_refuses" = some (some (.ref f39)))
    (l39 : K.lookup f39 = some ⟨oc39, od39, .func (PySem.W.fnOf "_law_refuses" "_law_refuses" (defArgs s__law_refuses) (defBody s__law_refuses) (defScope s__law_refuses) .none kV39 dc39 pm39 an39 cd39 ct39), sl39⟩)
    (c39 : PySem.W.codeIn K cd39 "_law_refuses" = true)
    (k39 : PySem.W.keepIn K (.ref f39) = true)
    (a40 : PySem.W.nsIn K mainGlobals "_law_twin" = some (some (.ref f40)))
    (l40 : K.lookup f40 = some ⟨oc40, od40, .func (PySem.W.fnOf "_law_twin" "_law_twin" (defArgs s__law_twin) (defBody s__law_twin) (defScope s__law_twin) .none kV40 dc40 pm40 an40 cd40 ct40), sl40⟩)
    (c40 : PySem.W.codeIn K cd40 "_law_twin" = true)
    (k40 : PySem.W.keepIn K (.ref f40) = true)
    (a41 : PySem.W.nsIn K mainGlobals "_law_compared" = some (some (.ref f41)))
    (l41 : K.lookup f41 = some ⟨oc41, od41, .func (PySem.W.fnOf "_law_compared" "_law_compared" (defArgs s__law_compared) (defBody s__law_compared) (defScope s__law_compared) .none kV41 dc41 pm41 an41 cd41 ct41), sl41⟩)
    (c41 : PySem.W.codeIn K cd41 "_law_compared" = true)
    (k41 : PySem.W.keepIn K (.ref f41) = true)
    (a42 : PySem.W.nsIn K mainGlobals "_law_plans" = some (some (.ref f42)))
    (l42 : K.lookup f42 = some ⟨oc42, od42, .func (PySem.W.fnOf "_law_plans" "_law_plans" (defArgs s__law_plans) (defBody s__law_plans) (defScope s__law_plans) .none kV42 dc42 pm42 an42 cd42 ct42), sl42⟩)
    (c42 : PySem.W.codeIn K cd42 "_law_plans" = true)
    (k42 : PySem.W.keepIn K (.ref f42) = true)
    (a43 : PySem.W.nsIn K mainGlobals "_law_turn" = some (some (.ref f43)))
    (l43 : K.lookup f43 = some ⟨oc43, od43, .func (PySem.W.fnOf "_law_turn" "_law_turn" (defArgs s__law_turn) (defBody s__law_turn) (defScope s__law_turn) .none kV43 dc43 pm43 an43 cd43 ct43), sl43⟩)
    (c43 : PySem.W.codeIn K cd43 "_law_turn" = true)
    (k43 : PySem.W.keepIn K (.ref f43) = true)
    (a44 : PySem.W.nsIn K mainGlobals "law" = some (some (.ref f44)))
    (l44 : K.lookup f44 = some ⟨oc44, od44, .func (PySem.W.fnOf "law" "law" (defArgs s_law) (defBody s_law) (defScope s_law) .none kV44 dc44 pm44 an44 cd44 ct44), sl44⟩)
    (c44 : PySem.W.codeIn K cd44 "law" = true)
    (k44 : PySem.W.keepIn K (.ref f44) = true)
    (pgC0 : PySem.W.plainGet K C0 Str.empty = true)
    (hdC0 : PySem.W.hasDictIn K C0 = true)
    (poC0 : PySem.W.plainOver K C0 = true)
    (saC0 : PySem.W.findIn K (.ref C0) "__setattr__" = some (some (.builtin "object.__setattr__")))
    (mkC0 : PySem.W.makesIn K C0 = true)
    (kcC0 : PySem.W.keepIn K (.ref C0) = true)
    (pgC1 : PySem.W.plainGet K C1 Str.empty = true)
    (hdC1 : PySem.W.hasDictIn K C1 = true)
    (poC1 : PySem.W.plainOver K C1 = true)
    (saC1 : PySem.W.findIn K (.ref C1) "__setattr__" = some (some (.builtin "object.__setattr__")))
    (mkC1 : PySem.W.makesIn K C1 = true)
    (kcC1 : PySem.W.keepIn K (.ref C1) = true)
    (pgC2 : PySem.W.plainGet K C2 Str.empty = true)
    (hdC2 : PySem.W.hasDictIn K C2 = true)
    (poC2 : PySem.W.plainOver K C2 = true)
    (saC2 : PySem.W.findIn K (.ref C2) "__setattr__" = some (some (.builtin "object.__setattr__")))
    (mkC2 : PySem.W.makesIn K C2 = true)
    (kcC2 : PySem.W.keepIn K (.ref C2) = true)
    (z_bool : PySem.W.nsIn K mainGlobals "bool" = some none)
    (z_enumerate : PySem.W.nsIn K mainGlobals "enumerate" = some none)
    (z_int : PySem.W.nsIn K mainGlobals "int" = some none)
    (z_isinstance : PySem.W.nsIn K mainGlobals "isinstance" = some none)
    (z_len : PySem.W.nsIn K mainGlobals "len" = some none)
    (z_list : PySem.W.nsIn K mainGlobals "list" = some none)
    (z_range : PySem.W.nsIn K mainGlobals "range" = some none)
    (z_str : PySem.W.nsIn K mainGlobals "str" = some none)
    (z_sum : PySem.W.nsIn K mainGlobals "sum" = some none)
    (z_tuple : PySem.W.nsIn K mainGlobals "tuple" = some none)
    (z_zip : PySem.W.nsIn K mainGlobals "zip" = some none)
    (na_Net_prime : PySem.W.findIn K (.ref C0) "prime" = some none)
    (na_Net_embed : PySem.W.findIn K (.ref C0) "embed" = some none)
    (na_Net_shift : PySem.W.findIn K (.ref C0) "shift" = some none)
    (na_Net_layers : PySem.W.findIn K (.ref C0) "layers" = some none)
    (na_Net_out : PySem.W.findIn K (.ref C0) "out" = some none)
    (na_Net_end : PySem.W.findIn K (.ref C0) "end" = some none)
    (na_LayerReader_net : PySem.W.findIn K (.ref C1) "net" = some none)
    (na_LayerReader_count : PySem.W.findIn K (.ref C1) "count" = some none)
    (na_LayerReader_ahead : PySem.W.findIn K (.ref C1) "ahead" = some none)
    (na_LayerReader_pairs : PySem.W.findIn K (.ref C1) "pairs" = some none)
    (na_LayerReader_matrices : PySem.W.findIn K (.ref C1) "matrices" = some none)
    (na_Sums_net : PySem.W.findIn K (.ref C2) "net" = some none)
    (na_Sums_count : PySem.W.findIn K (.ref C2) "count" = some none)
    (na_Sums_matrices : PySem.W.findIn K (.ref C2) "matrices" = some none)
    (caO_C2 : PySem.W.findIn K (.ref C2) "__class__" = some (some (.builtin "object.__class__")))
    (moO_C2 : PySem.W.mroIn K C2 (.type "object") = some true)
    (icO_C2 : PySem.W.isClsIn K C2 = true)
    (tyO_C2 : PySem.W.typeIn K (.ref C2) = some (.type "type"))
    (neO_C2 : PySem.W.findIn K (.ref C2) "__ne__" = some (some (.builtin "object.__ne__")))
    : ∃ fd : FuncData, (∀ (s : Shared) (v : Value), BindsTo s fd ⟨[v], []⟩ [("script", v)]) ∧ ∀ base : Heap, K.In base → base.Ns mainGlobals mg → FnOk l.prog w K mg base (L2.CX l.prog w) 13 fa fd ["script"] (lSp K spEnd) := by
  have e := hfa.symm.trans (PySem.W.mg_of X G a44)
  cases e
  have T : Txt mg ⟨K, C0, C1, C2, X_ServeError, X_InvalidNumber, X_InvalidLetter, X_InvalidRow, X_TooMany, X_Undefined, (exm_of eX_InvalidLetter icX_InvalidLetter tX_InvalidLetter sub_InvalidLetter_InvalidLetter), (kitn_cons (kit_of ne_InvalidLetter_InvalidNumber icX_InvalidNumber tX_InvalidNumber sub_InvalidLetter_InvalidNumber) (kitn_cons (kit_of ne_InvalidLetter_InvalidRow icX_InvalidRow tX_InvalidRow sub_InvalidLetter_InvalidRow) (kitn_cons (kit_of ne_InvalidLetter_TooMany icX_TooMany tX_TooMany sub_InvalidLetter_TooMany) (kitn_cons (kit_of ne_InvalidLetter_Undefined icX_Undefined tX_Undefined sub_InvalidLetter_Undefined) kitn_nil)))), (kit_of ne_InvalidLetter_ServeError icX_ServeError tX_ServeError sub_InvalidLetter_ServeError), ⟨icX_InvalidLetter, gaX_InvalidLetter, ggX_InvalidLetter, eX_InvalidLetter, caX_InvalidLetter, cgX, ctX, moX_InvalidLetter⟩, ⟨⟨gaX_InvalidLetter, ggX_InvalidLetter, eX_InvalidLetter, hdX_InvalidLetter⟩, nfX_InvalidLetter_letter⟩⟩ := ⟨PySem.W.mg_none_of X G z_bool,
    PySem.W.mg_none_of X G z_enumerate,
    PySem.W.mg_none_of X G z_int,
    PySem.W.mg_none_of X G z_isinstance,
    PySem.W.mg_none_of X G z_len,
    PySem.W.mg_none_of X G z_list,
    PySem.W.mg_none_of X G z_range,
    PySem.W.mg_none_of X G z_str,
    PySem.W.mg_none_of X G z_sum,
    PySem.W.mg_none_of X G z_tuple,
    PySem.W.mg_none_of X G z_zip,
    ⟨_, _, fun_mk l3 c3 k3, PySem.W.mg_of X G a3, ((fun_mk l3 c3 k3).binds (ps := ["value", "least", "most"]) fun _ _ _ _ _ _ us hl => match us, hl with | [_, _, _], _ => rfl)⟩,
    ⟨_, _, fun_mk l4 c4 k4, PySem.W.mg_of X G a4, ((fun_mk l4 c4 k4).binds (ps := ["numbers"]) fun _ _ _ _ _ _ us hl => match us, hl with | [_], _ => rfl)⟩,
    ⟨_, _, fun_mk l5 c5 k5, PySem.W.mg_of X G a5, ((fun_mk l5 c5 k5).binds (ps := ["rows"]) fun _ _ _ _ _ _ us hl => match us, hl with | [_], _ => rfl)⟩,
    ⟨_, _, fun_mk l6 c6 k6, PySem.W.mg_of X G a6, ((fun_mk l6 c6 k6).binds (ps := ["one", "two"]) fun _ _ _ _ _ _ us hl => match us, hl with | [_, _], _ => rfl)⟩,
    ⟨f7, _, fun_mk l7 c7 k7, ⟨mkC0, a7, i7, kcC0⟩, ((fun_mk l7 c7 k7).binds (ps := ["self", "prime", "embed", "shift", "layers", "out", "end"]) fun _ _ _ _ _ _ us hl => match us, hl with | [_, _, _, _, _, _, _], _ => rfl)⟩,
    ⟨f8, _, fun_mk l8 c8 k8, ⟨a8, i8, k8⟩, ((fun_mk l8 c8 k8).binds (ps := ["self", "value"]) fun _ _ _ _ _ _ us hl => match us, hl with | [_, _], _ => rfl)⟩,
    ⟨f9, _, fun_mk l9 c9 k9, ⟨a9, i9, k9⟩, ((fun_mk l9 c9 k9).binds (ps := ["self", "number"]) fun _ _ _ _ _ _ us hl => match us, hl with | [_, _], _ => rfl)⟩,
    ⟨f10, _, fun_mk l10 c10 k10, ⟨a10, i10, k10⟩, ((fun_mk l10 c10 k10).binds (ps := ["self", "matrix", "vector"]) fun _ _ _ _ _ _ us hl => match us, hl with | [_, _, _], _ => rfl)⟩,
    ⟨f11, _, fun_mk l11 c11 k11, ⟨a11, i11, k11⟩, ((fun_mk l11 c11 k11).binds (ps := ["self", "one", "two"]) fun _ _ _ _ _ _ us hl => match us, hl with | [_, _, _], _ => rfl)⟩,
    ⟨_, _, fun_mk l12 c12 k12, PySem.W.mg_of X G a12, ((fun_mk l12 c12 k12).binds (ps := ["width"]) fun _ _ _ _ _ _ us hl => match us, hl with | [_], _ => rfl)⟩,
    ⟨_, _, fun_mk l13 c13 k13, PySem.W.mg_of X G a13, ((fun_mk l13 c13 k13).binds (ps := ["net", "matrix", "pair", "times"]) fun _ _ _ _ _ _ us hl => match us, hl with | [_, _, _, _], _ => rfl)⟩,
    ⟨f14, _, fun_mk l14 c14 k14, ⟨mkC1, a14, i14, kcC1⟩, ((fun_mk l14 c14 k14).binds (ps := ["self", "net", "count", "ahead"]) fun _ _ _ _ _ _ us hl => match us, hl with | [_, _, _, _], _ => rfl)⟩,
    ⟨f15, _, fun_mk l15 c15 k15, ⟨a15, i15, k15⟩, ((fun_mk l15 c15 k15).binds (ps := ["self", "letter"]) fun _ _ _ _ _ _ us hl => match us, hl with | [_, _], _ => rfl)⟩,
    ⟨f16, _, fun_mk l16 c16 k16, ⟨mkC2, a16, i16, kcC2⟩, ((fun_mk l16 c16 k16).binds (ps := ["self", "net"]) fun _ _ _ _ _ _ us hl => match us, hl with | [_, _], _ => rfl)⟩,
    ⟨f17, _, fun_mk l17 c17 k17, ⟨a17, i17, k17⟩, ((fun_mk l17 c17 k17).binds (ps := ["self", "letter"]) fun _ _ _ _ _ _ us hl => match us, hl with | [_, _], _ => rfl)⟩,
    ⟨f18, _, fun_mk l18 c18 k18, ⟨a18, i18, k18⟩, ((fun_mk l18 c18 k18).binds (ps := ["self"]) fun _ _ _ _ _ _ us hl => match us, hl with | [_], _ => rfl)⟩,
    ⟨f19, _, fun_mk l19 c19 k19, ⟨a19, i19, k19⟩, ((fun_mk l19 c19 k19).binds (ps := ["self"]) fun _ _ _ _ _ _ us hl => match us, hl with | [_], _ => rfl)⟩,
    ⟨f20, _, fun_mk l20 c20 k20, ⟨a20, i20, k20⟩, ((fun_mk l20 c20 k20).binds (ps := ["self", "other"]) fun _ _ _ _ _ _ us hl => match us, hl with | [_, _], _ => rfl)⟩,
    ⟨_, _, fun_mk l21 c21 k21, PySem.W.mg_of X G a21, ((fun_mk l21 c21 k21).binds (ps := ["net", "letters"]) fun _ _ _ _ _ _ us hl => match us, hl with | [_, _], _ => rfl)⟩,
    ⟨_, _, fun_mk l22 c22 k22, PySem.W.mg_of X G a22, ((fun_mk l22 c22 k22).binds (ps := ["script"]) fun _ _ _ _ _ _ us hl => match us, hl with | [_], _ => rfl)⟩,
    ⟨_, _, fun_mk l23 c23 k23, PySem.W.mg_of X G a23, ((fun_mk l23 c23 k23).binds (ps := ["pool", "many"]) fun _ _ _ _ _ _ us hl => match us, hl with | [_, _], _ => rfl)⟩,
    ⟨_, _, fun_mk l24 c24 k24, PySem.W.mg_of X G a24, ((fun_mk l24 c24 k24).binds (ps := ["pool", "prime"]) fun _ _ _ _ _ _ us hl => match us, hl with | [_, _], _ => rfl)⟩,
    ⟨_, _, fun_mk l25 c25 k25, PySem.W.mg_of X G a25, ((fun_mk l25 c25 k25).binds (ps := ["pool", "prime", "width"]) fun _ _ _ _ _ _ us hl => match us, hl with | [_, _, _], _ => rfl)⟩,
    ⟨_, _, fun_mk l26 c26 k26, PySem.W.mg_of X G a26, ((fun_mk l26 c26 k26).binds (ps := ["pool", "prime", "letters", "width", "many"]) fun _ _ _ _ _ _ us hl => match us, hl with | [_, _, _, _, _], _ => rfl)⟩,
    ⟨_, _, fun_mk l27 c27 k27, PySem.W.mg_of X G a27, ((fun_mk l27 c27 k27).binds (ps := ["pool"]) fun _ _ _ _ _ _ us hl => match us, hl with | [_], _ => rfl)⟩,
    ⟨_, _, fun_mk l28 c28 k28, PySem.W.mg_of X G a28, ((fun_mk l28 c28 k28).binds (ps := ["plan"]) fun _ _ _ _ _ _ us hl => match us, hl with | [_], _ => rfl)⟩,
    ⟨_, _, fun_mk l29 c29 k29, PySem.W.mg_of X G a29, ((fun_mk l29 c29 k29).binds (ps := ["plan", "loose"]) fun _ _ _ _ _ _ us hl => match us, hl with | [_, _], _ => rfl)⟩,
    ⟨_, _, fun_mk l30 c30 k30, PySem.W.mg_of X G a30, ((fun_mk l30 c30 k30).binds (ps := ["grid", "x", "prime"]) fun _ _ _ _ _ _ us hl => match us, hl with | [_, _, _], _ => rfl)⟩,
    ⟨_, _, fun_mk l31 c31 k31, PySem.W.mg_of X G a31, ((fun_mk l31 c31 k31).binds (ps := ["plan", "before", "letter", "begin"]) fun _ _ _ _ _ _ us hl => match us, hl with | [_, _, _, _], _ => rfl)⟩,
    ⟨_, _, fun_mk l32 c32 k32, PySem.W.mg_of X G a32, ((fun_mk l32 c32 k32).binds (ps := ["told", "due"]) fun _ _ _ _ _ _ us hl => match us, hl with | [_, _], _ => rfl)⟩,
    ⟨_, _, fun_mk l33 c33 k33, PySem.W.mg_of X G a33, ((fun_mk l33 c33 k33).binds (ps := ["pool", "letters"]) fun _ _ _ _ _ _ us hl => match us, hl with | [_, _], _ => rfl)⟩,
    ⟨_, _, fun_mk l34 c34 k34, PySem.W.mg_of X G a34, ((fun_mk l34 c34 k34).binds (ps := ["sums", "letter"]) fun _ _ _ _ _ _ us hl => match us, hl with | [_, _], _ => rfl)⟩,
    ⟨_, _, fun_mk l35 c35 k35, PySem.W.mg_of X G a35, ((fun_mk l35 c35 k35).binds (ps := ["plan", "rows"]) fun _ _ _ _ _ _ us hl => match us, hl with | [_, _], _ => rfl)⟩,
    ⟨_, _, fun_mk l36 c36 k36, PySem.W.mg_of X G a36, ((fun_mk l36 c36 k36).binds (ps := ["plans", "one"]) fun _ _ _ _ _ _ us hl => match us, hl with | [_, _], _ => rfl)⟩,
    ⟨_, _, fun_mk l37 c37 k37, PySem.W.mg_of X G a37, ((fun_mk l37 c37 k37).binds (ps := ["plans", "one"]) fun _ _ _ _ _ _ us hl => match us, hl with | [_, _], _ => rfl)⟩,
    ⟨_, _, fun_mk l38 c38 k38, PySem.W.mg_of X G a38, ((fun_mk l38 c38 k38).binds (ps := ["pool", "plans", "one"]) fun _ _ _ _ _ _ us hl => match us, hl with | [_, _, _], _ => rfl)⟩,
    ⟨_, _, fun_mk l39 c39 k39, PySem.W.mg_of X G a39, ((fun_mk l39 c39 k39).binds (ps := ["pool", "plans", "one"]) fun _ _ _ _ _ _ us hl => match us, hl with | [_, _, _], _ => rfl)⟩,
    ⟨_, _, fun_mk l40 c40 k40, PySem.W.mg_of X G a40, ((fun_mk l40 c40 k40).binds (ps := ["pool", "plans", "nets", "all_sums", "one"]) fun _ _ _ _ _ _ us hl => match us, hl with | [_, _, _, _, _], _ => rfl)⟩,
    ⟨_, _, fun_mk l41 c41 k41, PySem.W.mg_of X G a41, ((fun_mk l41 c41 k41).binds (ps := ["pool", "plans", "one", "other"]) fun _ _ _ _ _ _ us hl => match us, hl with | [_, _, _, _], _ => rfl)⟩,
    ⟨_, _, fun_mk l42 c42 k42, PySem.W.mg_of X G a42, ((fun_mk l42 c42 k42).binds (ps := ["pool"]) fun _ _ _ _ _ _ us hl => match us, hl with | [_], _ => rfl)⟩,
    ⟨_, _, fun_mk l43 c43 k43, PySem.W.mg_of X G a43, ((fun_mk l43 c43 k43).binds (ps := ["pool", "plans", "nets", "all_sums", "at"]) fun _ _ _ _ _ _ us hl => match us, hl with | [_, _, _, _, _], _ => rfl)⟩,
    ⟨_, _, fun_mk l44 c44 k44, PySem.W.mg_of X G a44, ((fun_mk l44 c44 k44).binds (ps := ["script"]) fun _ _ _ _ _ _ us hl => match us, hl with | [_], _ => rfl)⟩,
    ⟨T_PRIMES, PySem.W.mg_of X G cn_PRIMES, fun H => tupIs_sq cl_PRIMES ct_PRIMES H⟩,
    PySem.W.mg_of X G aX_InvalidLetter,
    PySem.W.mg_of X G aX_InvalidNumber,
    PySem.W.mg_of X G aX_InvalidRow,
    PySem.W.mg_of X G aX_ServeError,
    PySem.W.mg_of X G aX_TooMany,
    PySem.W.mg_of X G aX_Undefined,
    ⟨⟨⟨nm1, q1, N1, bs1, _, sn1, sub1, ab1, col1, dd1, m01, m11, m21, m31, m51, xL1, by rfl⟩, saX_InvalidLetter, eX_InvalidLetter, tX_InvalidLetter, kcX_InvalidLetter⟩, nfX_InvalidLetter_letter, PySem.W.mg_of X G aX_InvalidLetter, f1, _, fun_mk l1 c1 k1, iX_InvalidLetter, tfX_InvalidLetter, ((fun_mk l1 c1 k1).binds (ps := ["self", "letter"]) fun _ _ _ _ _ _ us hl => match us, hl with | [_, _], _ => rfl)⟩,
    ⟨⟨⟨nm2, q2, N2, bs2, _, sn2, sub2, ab2, col2, dd2, m02, m12, m22, m32, m52, xL2, by rfl⟩, saX_InvalidNumber, eX_InvalidNumber, tX_InvalidNumber, kcX_InvalidNumber⟩, nfX_InvalidNumber_number, PySem.W.mg_of X G aX_InvalidNumber, f2, _, fun_mk l2 c2 k2, iX_InvalidNumber, tfX_InvalidNumber, ((fun_mk l2 c2 k2).binds (ps := ["self", "number"]) fun _ _ _ _ _ _ us hl => match us, hl with | [_, _], _ => rfl)⟩,
    ⟨pgC0, hdC0, poC0, saC0⟩,
    PySem.W.mg_of X G aC0,
    na_Net_prime,
    na_Net_embed,
    na_Net_shift,
    na_Net_layers,
    na_Net_out,
    na_Net_end,
    ⟨pgC1, hdC1, poC1, saC1⟩,
    PySem.W.mg_of X G aC1,
    na_LayerReader_net,
    na_LayerReader_count,
    na_LayerReader_ahead,
    na_LayerReader_pairs,
    na_LayerReader_matrices,
    ⟨pgC2, hdC2, poC2, saC2⟩,
    PySem.W.mg_of X G aC2,
    na_Sums_net,
    na_Sums_count,
    na_Sums_matrices,
    ⟨⟨pgC2, hdC2, poC2, saC2⟩, caO_C2, cgX, ctX, moO_C2, icO_C2, tyO_C2⟩,
    neO_C2⟩
  exact ⟨PySem.W.fnOf "law" "law" (defArgs s_law) (defBody s_law) (defScope s_law) .none kV44 dc44 pm44 an44 cd44 ct44, fun s v => .of_eq rfl, fun base _ _ => okF_law T (fun_mk l44 c44 k44)⟩
end K09
open PySem PySem.W PyProof.Rows in
set_option maxRecDepth 100000 in
set_option maxHeartbeats 0 in
theorem PySem.Challenge.cw_everyasked_k09_whole_sums_tell_the_rows_holds : PySem.Challenge.rw_everyasked_k09_whole_sums_tell_the_rows.Holds := by
  w_on; o_law; k_head; (case hw => w_witness2)
  k_fill
  refine L2.walk_of (l := PySem.Challenge.rw_everyasked_k09_whole_sums_tell_the_rows) (n := 63) (k := 13) (x := "script") (CX := fun w => L2.CX PySem.Challenge.rw_everyasked_k09_whole_sums_tell_the_rows.prog w) (sp := fun w => DL.lSp _ K09.spEnd) rfl (by decide) rfl ⟨rfl, by decide, by decide⟩ (fun w h Y => PySem.W.kIn_of Y) ?F (fun _ H a ns hl ho hS => K09.spEnd_at hl hS) (fun _ _ _ _ _ h => DL.cx_no h)
  case F =>
    intro w mg fa h KX G hmg
    refine' K09.all_mk KX G hmg ?aC0 ?aC1 ?aC2 ?aX_ServeError ?aX_InvalidNumber ?aX_InvalidLetter ?aX_InvalidRow ?aX_TooMany ?aX_Undefined ?xL1 ?saX_InvalidLetter ?kcX_InvalidLetter ?iX_InvalidLetter ?tfX_InvalidLetter ?l1 ?c1 ?k1 ?eX_InvalidLetter ?tX_InvalidLetter ?nfX_InvalidLetter_letter ?xL2 ?saX_InvalidNumber ?kcX_InvalidNumber ?iX_InvalidNumber ?tfX_InvalidNumber ?l2 ?c2 ?k2 ?eX_InvalidNumber ?tX_InvalidNumber ?nfX_InvalidNumber_number ?cn_PRIMES ?cl_PRIMES ?ct_PRIMES ?icX_InvalidLetter ?sub_InvalidLetter_InvalidLetter ?ne_InvalidLetter_Undefined ?icX_Undefined ?tX_Undefined ?sub_InvalidLetter_Undefined ?ne_InvalidLetter_TooMany ?icX_TooMany ?tX_TooMany ?sub_InvalidLetter_TooMany ?ne_InvalidLetter_InvalidRow ?icX_InvalidRow ?tX_InvalidRow ?sub_InvalidLetter_InvalidRow ?ne_InvalidLetter_InvalidNumber ?icX_InvalidNumber ?sub_InvalidLetter_InvalidNumber ?ne_InvalidLetter_ServeError ?icX_ServeError ?tX_ServeError ?sub_InvalidLetter_ServeError ?caX_InvalidLetter ?cgX ?ctX ?moX_InvalidLetter ?gaX_InvalidLetter ?ggX_InvalidLetter ?hdX_InvalidLetter ?a3 ?l3 ?c3 ?k3 ?a4 ?l4 ?c4 ?k4 ?a5 ?l5 ?c5 ?k5 ?a6 ?l6 ?c6 ?k6 ?a7 ?i7 ?l7 ?c7 ?k7 ?a8 ?i8 ?l8 ?c8 ?k8 ?a9 ?i9 ?l9 ?c9 ?k9 ?a10 ?i10 ?l10 ?c10 ?k10 ?a11 ?i11 ?l11 ?c11 ?k11 ?a12 ?l12 ?c12 ?k12 ?a13 ?l13 ?c13 ?k13 ?a14 ?i14 ?l14 ?c14 ?k14 ?a15 ?i15 ?l15 ?c15 ?k15 ?a16 ?i16 ?l16 ?c16 ?k16 ?a17 ?i17 ?l17 ?c17 ?k17 ?a18 ?i18 ?l18 ?c18 ?k18 ?a19 ?i19 ?l19 ?c19 ?k19 ?a20 ?i20 ?l20 ?c20 ?k20 ?a21 ?l21 ?c21 ?k21 ?a22 ?l22 ?c22 ?k22 ?a23 ?l23 ?c23 ?k23 ?a24 ?l24 ?c24 ?k24 ?a25 ?l25 ?c25 ?k25 ?a26 ?l26 ?c26 ?k26 ?a27 ?l27 ?c27 ?k27 ?a28 ?l28 ?c28 ?k28 ?a29 ?l29 ?c29 ?k29 ?a30 ?l30 ?c30 ?k30 ?a31 ?l31 ?c31 ?k31 ?a32 ?l32 ?c32 ?k32 ?a33 ?l33 ?c33 ?k33 ?a34 ?l34 ?c34 ?k34 ?a35 ?l35 ?c35 ?k35 ?a36 ?l36 ?c36 ?k36 ?a37 ?l37 ?c37 ?k37 ?a38 ?l38 ?c38 ?k38 ?a39 ?l39 ?c39 ?k39 ?a40 ?l40 ?c40 ?k40 ?a41 ?l41 ?c41 ?k41 ?a42 ?l42 ?c42 ?k42 ?a43 ?l43 ?c43 ?k43 ?a44 ?l44 ?c44 ?k44 ?pgC0 ?hdC0 ?poC0 ?saC0 ?mkC0 ?kcC0 ?pgC1 ?hdC1 ?poC1 ?saC1 ?mkC1 ?kcC1 ?pgC2 ?hdC2 ?poC2 ?saC2 ?mkC2 ?kcC2 ?z_bool ?z_enumerate ?z_int ?z_isinstance ?z_len ?z_list ?z_range ?z_str ?z_sum ?z_tuple ?z_zip ?na_Net_prime ?na_Net_embed ?na_Net_shift ?na_Net_layers ?na_Net_out ?na_Net_end ?na_LayerReader_net ?na_LayerReader_count ?na_LayerReader_ahead ?na_LayerReader_pairs ?na_LayerReader_matrices ?na_Sums_net ?na_Sums_count ?na_Sums_matrices ?caO_C2 ?moO_C2 ?icO_C2 ?tyO_C2 ?neO_C2
    (case aC0 => k_is)
    (case aC1 => k_is)
    (case aC2 => k_is)
    (case aX_ServeError => k_is)
    (case aX_InvalidNumber => k_is)
    (case aX_InvalidLetter => k_is)
    (case aX_InvalidRow => k_is)
    (case aX_TooMany => k_is)
    (case aX_Undefined => k_is)
    (case xL1 => k_is)
    (case saX_InvalidLetter => k_is)
    (case kcX_InvalidLetter => k_is)
    (case iX_InvalidLetter => k_is)
    (case tfX_InvalidLetter => k_is)
    (case l1 => k_is)
    (case c1 => k_is)
    (case k1 => k_is)
    (case eX_InvalidLetter => k_is)
    (case tX_InvalidLetter => k_is)
    (case nfX_InvalidLetter_letter => k_is)
    (case xL2 => k_is)
    (case saX_InvalidNumber => k_is)
    (case kcX_InvalidNumber => k_is)
    (case iX_InvalidNumber => k_is)
    (case tfX_InvalidNumber => k_is)
    (case l2 => k_is)
    (case c2 => k_is)
    (case k2 => k_is)
    (case eX_InvalidNumber => k_is)
    (case tX_InvalidNumber => k_is)
    (case nfX_InvalidNumber_number => k_is)
    (case cn_PRIMES => k_is)
    (case cl_PRIMES => k_is)
    (case ct_PRIMES => first | rfl | decide +kernel)
    (case icX_InvalidLetter => k_is)
    (case sub_InvalidLetter_InvalidLetter => k_is)
    (case ne_InvalidLetter_Undefined => decide)
    (case icX_Undefined => k_is)
    (case tX_Undefined => k_is)
    (case sub_InvalidLetter_Undefined => k_is)
    (case ne_InvalidLetter_TooMany => decide)
    (case icX_TooMany => k_is)
    (case tX_TooMany => k_is)
    (case sub_InvalidLetter_TooMany => k_is)
    (case ne_InvalidLetter_InvalidRow => decide)
    (case icX_InvalidRow => k_is)
    (case tX_InvalidRow => k_is)
    (case sub_InvalidLetter_InvalidRow => k_is)
    (case ne_InvalidLetter_InvalidNumber => decide)
    (case icX_InvalidNumber => k_is)
    (case sub_InvalidLetter_InvalidNumber => k_is)
    (case ne_InvalidLetter_ServeError => decide)
    (case icX_ServeError => k_is)
    (case tX_ServeError => k_is)
    (case sub_InvalidLetter_ServeError => k_is)
    (case caX_InvalidLetter => k_is)
    (case cgX => k_is)
    (case ctX => k_is)
    (case moX_InvalidLetter => k_is)
    (case gaX_InvalidLetter => k_is)
    (case ggX_InvalidLetter => k_is)
    (case hdX_InvalidLetter => k_is)
    (case a3 => k_is)
    (case l3 => k_is)
    (case c3 => k_is)
    (case k3 => k_is)
    (case a4 => k_is)
    (case l4 => k_is)
    (case c4 => k_is)
    (case k4 => k_is)
    (case a5 => k_is)
    (case l5 => k_is)
    (case c5 => k_is)
    (case k5 => k_is)
    (case a6 => k_is)
    (case l6 => k_is)
    (case c6 => k_is)
    (case k6 => k_is)
    (case a7 => k_is)
    (case i7 => k_is)
    (case l7 => k_is)
    (case c7 => k_is)
    (case k7 => k_is)
    (case a8 => k_is)
    (case i8 => k_is)
    (case l8 => k_is)
    (case c8 => k_is)
    (case k8 => k_is)
    (case a9 => k_is)
    (case i9 => k_is)
    (case l9 => k_is)
    (case c9 => k_is)
    (case k9 => k_is)
    (case a10 => k_is)
    (case i10 => k_is)
    (case l10 => k_is)
    (case c10 => k_is)
    (case k10 => k_is)
    (case a11 => k_is)
    (case i11 => k_is)
    (case l11 => k_is)
    (case c11 => k_is)
    (case k11 => k_is)
    (case a12 => k_is)
    (case l12 => k_is)
    (case c12 => k_is)
    (case k12 => k_is)
    (case a13 => k_is)
    (case l13 => k_is)
    (case c13 => k_is)
    (case k13 => k_is)
    (case a14 => k_is)
    (case i14 => k_is)
    (case l14 => k_is)
    (case c14 => k_is)
    (case k14 => k_is)
    (case a15 => k_is)
    (case i15 => k_is)
    (case l15 => k_is)
    (case c15 => k_is)
    (case k15 => k_is)
    (case a16 => k_is)
    (case i16 => k_is)
    (case l16 => k_is)
    (case c16 => k_is)
    (case k16 => k_is)
    (case a17 => k_is)
    (case i17 => k_is)
    (case l17 => k_is)
    (case c17 => k_is)
    (case k17 => k_is)
    (case a18 => k_is)
    (case i18 => k_is)
    (case l18 => k_is)
    (case c18 => k_is)
    (case k18 => k_is)
    (case a19 => k_is)
    (case i19 => k_is)
    (case l19 => k_is)
    (case c19 => k_is)
    (case k19 => k_is)
    (case a20 => k_is)
    (case i20 => k_is)
    (case l20 => k_is)
    (case c20 => k_is)
    (case k20 => k_is)
    (case a21 => k_is)
    (case l21 => k_is)
    (case c21 => k_is)
    (case k21 => k_is)
    (case a22 => k_is)
    (case l22 => k_is)
    (case c22 => k_is)
    (case k22 => k_is)
    (case a23 => k_is)
    (case l23 => k_is)
    (case c23 => k_is)
    (case k23 => k_is)
    (case a24 => k_is)
    (case l24 => k_is)
    (case c24 => k_is)
    (case k24 => k_is)
    (case a25 => k_is)
    (case l25 => k_is)
    (case c25 => k_is)
    (case k25 => k_is)
    (case a26 => k_is)
    (case l26 => k_is)
    (case c26 => k_is)
    (case k26 => k_is)
    (case a27 => k_is)
    (case l27 => k_is)
    (case c27 => k_is)
    (case k27 => k_is)
    (case a28 => k_is)
    (case l28 => k_is)
    (case c28 => k_is)
    (case k28 => k_is)
    (case a29 => k_is)
    (case l29 => k_is)
    (case c29 => k_is)
    (case k29 => k_is)
    (case a30 => k_is)
    (case l30 => k_is)
    (case c30 => k_is)
    (case k30 => k_is)
    (case a31 => k_is)
    (case l31 => k_is)
    (case c31 => k_is)
    (case k31 => k_is)
    (case a32 => k_is)
    (case l32 => k_is)
    (case c32 => k_is)
    (case k32 => k_is)
    (case a33 => k_is)
    (case l33 => k_is)
    (case c33 => k_is)
    (case k33 => k_is)
    (case a34 => k_is)
    (case l34 => k_is)
    (case c34 => k_is)
    (case k34 => k_is)
    (case a35 => k_is)
    (case l35 => k_is)
    (case c35 => k_is)
    (case k35 => k_is)
    (case a36 => k_is)
    (case l36 => k_is)
    (case c36 => k_is)
    (case k36 => k_is)
    (case a37 => k_is)
    (case l37 => k_is)
    (case c37 => k_is)
    (case k37 => k_is)
    (case a38 => k_is)
    (case l38 => k_is)
    (case c38 => k_is)
    (case k38 => k_is)
    (case a39 => k_is)
    (case l39 => k_is)
    (case c39 => k_is)
    (case k39 => k_is)
    (case a40 => k_is)
    (case l40 => k_is)
    (case c40 => k_is)
    (case k40 => k_is)
    (case a41 => k_is)
    (case l41 => k_is)
    (case c41 => k_is)
    (case k41 => k_is)
    (case a42 => k_is)
    (case l42 => k_is)
    (case c42 => k_is)
    (case k42 => k_is)
    (case a43 => k_is)
    (case l43 => k_is)
    (case c43 => k_is)
    (case k43 => k_is)
    (case a44 => k_is)
    (case l44 => k_is)
    (case c44 => k_is)
    (case k44 => k_is)
    (case pgC0 => k_is)
    (case hdC0 => k_is)
    (case poC0 => k_is)
    (case saC0 => k_is)
    (case mkC0 => k_is)
    (case kcC0 => k_is)
    (case pgC1 => k_is)
    (case hdC1 => k_is)
    (case poC1 => k_is)
    (case saC1 => k_is)
    (case mkC1 => k_is)
    (case kcC1 => k_is)
    (case pgC2 => k_is)
    (case hdC2 => k_is)
    (case poC2 => k_is)
    (case saC2 => k_is)
    (case mkC2 => k_is)
    (case kcC2 => k_is)
    (case z_bool => k_is)
    (case z_enumerate => k_is)
    (case z_int => k_is)
    (case z_isinstance => k_is)
    (case z_len => k_is)
    (case z_list => k_is)
    (case z_range => k_is)
    (case z_str => k_is)
    (case z_sum => k_is)
    (case z_tuple => k_is)
    (case z_zip => k_is)
    (case na_Net_prime => k_is)
    (case na_Net_embed => k_is)
    (case na_Net_shift => k_is)
    (case na_Net_layers => k_is)
    (case na_Net_out => k_is)
    (case na_Net_end => k_is)
    (case na_LayerReader_net => k_is)
    (case na_LayerReader_count => k_is)
    (case na_LayerReader_ahead => k_is)
    (case na_LayerReader_pairs => k_is)
    (case na_LayerReader_matrices => k_is)
    (case na_Sums_net => k_is)
    (case na_Sums_count => k_is)
    (case na_Sums_matrices => k_is)
    (case caO_C2 => k_is)
    (case moO_C2 => k_is)
    (case icO_C2 => k_is)
    (case tyO_C2 => k_is)
    (case neO_C2 => k_is)
