import PyProof.Rows.All
import Wide.All
import OpenK.AllK
import Wide.FinOn
import HandS.ForMost
import HandS.ForExc
import HandS.IsInst
import KE.KeyNested
import HandS.Wide
import HandS.SortInts
import HandS.TupAny
import KE.GoesMore
import HandS.TupMul
import HandS.ExcInit
import HandS.ExcField
import HandS.ExcIs
import KE.KExcIs
import HandS.Small
import PyProof.Rows.TupDisplay
import HandS.TupLen
import KE.DataEq
import PyProof.SeqIndex
import KE.DataCmp
import HandS.Ends
import HandS.HotCalls
import KE.KTupSum
import KE.DataMinMax
import HandS.Zip
import KE.GoesEnum
import HandS.Defaults
import HandS.Conv
import HandS.More
import PyProof.InstNe
import HandS.NoneIn
import HandS.TryOnly
import HandS.Property
import PySem.Challenge.RW_everyasked_k12_whole_stores
set_option Elab.async false
set_option linter.all false
set_option maxRecDepth 100000
set_option maxHeartbeats 2000000
/-! The data layer, part a: data trees, the abstract store, what stands for what. -/
namespace DL
open PySem PySem.Spec PyProof.Rows L2

/-- data: trees that never change; ref a: a mutable object of the store -/
inductive D where
  | non | bl (b : Bool) | int (i : Int) | str (x : Str) | ref (a : Addr)
  | lst (xs : List D) | tup (xs : List D) | fro (xs : List D) | obj (C : Addr) (N : List Str) (xs : List D)
  | exc (a dd C : Addr) (f : Str) (x : D)
/-- mutable objects; an instance: the names of its fields, their values -/
inductive MO where
  | lst (xs : List D) | ins (C : Addr) (N : List Str) (xs : List (Option D)) | dK (kvs : List (Key × D)) | dN (a : Addr) (kvs : List (D × D))
abbrev DE := List (Option D)
abbrev Sto := Addr → Option MO
def put (S : Sto) (a : Addr) (m : MO) : Sto := fun b => if b = a then some m else S b
def del (S : Sto) (a : Addr) : Sto := fun b => if b = a then none else S b
theorem put_same {S : Sto} {a : Addr} {m : MO} : put S a m a = some m := if_pos rfl
theorem put_ne {S : Sto} {a b : Addr} {m : MO} (h : b ≠ a) : put S a m b = S b := if_neg h
theorem put_put {S : Sto} {a : Addr} {m n : MO} : put (put S a m) a n = put S a n := by
  funext b; unfold put; split <;> rfl
theorem put_self {S : Sto} {a : Addr} {m : MO} (h : S a = some m) : put S a m = S := by
  funext b; unfold put; split
  · next e => rw [e, h]
  · rfl
theorem del_put {S : Sto} {a : Addr} {m : MO} (h : S a = none) : del (put S a m) a = S := by
  funext b; unfold del put
  by_cases e : b = a
  · rw [if_pos e, e, h]
  · rw [if_neg e, if_neg e]
theorem put_comm {S : Sto} {a b : Addr} {m n : MO} (h : a ≠ b) : put (put S a m) b n = put (put S b n) a m := by
  funext c; unfold put
  by_cases e1 : c = a
  · subst e1; rw [if_pos rfl, if_neg h]; rw [if_pos rfl]
  · by_cases e2 : c = b
    · rw [if_pos e2, if_neg e1, if_pos e2]
    · rw [if_neg e2, if_neg e1, if_neg e1, if_neg e2]
theorem ne_of_S {S : Sto} {a b : Addr} {m : MO} (h : S a = some m) (h' : S b = none) : a ≠ b := by
  intro e; subst e; rw [h] at h'; cases h'

mutual
def Rep (K : PySem.W.Frag) (W : Hp) : D → V → Prop
  | .non, v => v = .non
  | .bl b, v => v = .bl b
  | .int i, v => v = .int i
  | .str x, v => v = .str x
  | .ref a, v => v = .ref a
  | .lst xs, v => ∃ a vs, v = .ref a ∧ W a = some (.lst vs) ∧ Reps K W xs vs
  | .tup xs, v => ∃ a vs, v = .ref a ∧ SqT K W a vs ∧ Reps K W xs vs
  | .fro xs, v => ∃ a vs, v = .ref a ∧ SqL K W a vs ∧ Reps K W xs vs
  | .obj C N xs, v => ∃ a dx gs vs, v = .ref a ∧ W a = some (.ins C dx gs) ∧ (∀ (i : Nat) (f : Str), N[i]? = some f → gs.lookup f = vs[i]?) ∧ (∀ f : Str, f ∉ N → gs.lookup f = none) ∧ Reps K W xs vs
  | .exc a dd C f x, v => v = .ref a ∧ ∃ gs u, W dd = some (.xd gs) ∧ gs.lookup f = some u ∧ Rep K W x u
def Reps (K : PySem.W.Frag) (W : Hp) : List D → List V → Prop
  | [], vs => vs = []
  | d :: ds, vs => ∃ v r, vs = v :: r ∧ Rep K W d v ∧ Reps K W ds r
end
abbrev Repf (K : PySem.W.Frag) (W : Hp) (fs : List (Str × D)) (gs : List (Str × V)) : Prop := ∀ f d, fs.lookup f = some d → ∃ v, gs.lookup f = some v ∧ Rep K W d v
def Repk {κ : Type} (K : PySem.W.Frag) (W : Hp) : List (κ × D) → List (κ × V) → Prop
  | [], gs => gs = []
  | (f, d) :: ds, gs => ∃ v r, gs = (f, v) :: r ∧ Rep K W d v ∧ Repk K W ds r

section
variable {K : PySem.W.Frag} {W W' : Hp}
theorem sqL_mono (e : Same W W') {a : Addr} {vs : List V} (h : SqL K W a vs) : SqL K W' a vs := e.seq h
theorem sqT_mono (e : Same W W') {a : Addr} {vs : List V} (h : SqT K W a vs) : SqT K W' a vs := by
  rcases h with (h | ⟨o, h⟩) | h
  · exact .inl (.inl (e _ _ h))
  · exact .inl (.inr ⟨o, e _ _ h⟩)
  · exact .inr h
mutual
theorem Rep.mono (e : Same W W') : ∀ {d : D} {v : V}, Rep K W d v → Rep K W' d v
  | .non, _, h => h
  | .bl _, _, h => h
  | .int _, _, h => h
  | .str _, _, h => h
  | .ref _, _, h => h
  | .lst _, _, ⟨a, vs, e1, e2, e3⟩ => ⟨a, vs, e1, e _ _ e2, Reps.mono e e3⟩
  | .tup _, _, ⟨a, vs, e1, e2, e3⟩ => ⟨a, vs, e1, sqT_mono e e2, Reps.mono e e3⟩
  | .fro _, _, ⟨a, vs, e1, e2, e3⟩ => ⟨a, vs, e1, sqL_mono e e2, Reps.mono e e3⟩
  | .obj _ _ _, _, ⟨a, dx, gs, vs, e1, e2, e4, e5, e3⟩ => ⟨a, dx, gs, vs, e1, e _ _ e2, e4, e5, Reps.mono e e3⟩
  | .exc _ _ _ _ _, _, ⟨e1, gs, u, e2, e3, e4⟩ => ⟨e1, gs, u, e _ _ e2, e3, Rep.mono e e4⟩
theorem Reps.mono (e : Same W W') : ∀ {ds : List D} {vs : List V}, Reps K W ds vs → Reps K W' ds vs
  | [], _, h => h
  | _ :: _, _, ⟨v, r, e1, e2, e3⟩ => ⟨v, r, e1, Rep.mono e e2, Reps.mono e e3⟩
end
theorem Repk.mono {κ : Type} (e : Same W W') : ∀ {ds : List (κ × D)} {vs : List (κ × V)}, Repk K W ds vs → Repk K W' ds vs
  | [], _, h => h
  | (_, _) :: _, _, ⟨v, r, e1, e2, e3⟩ => ⟨v, r, e1, Rep.mono e e2, Repk.mono e e3⟩
theorem Reps.length : ∀ {ds : List D} {vs : List V}, Reps K W ds vs → vs.length = ds.length
  | [], _, h => by rw [show _ = [] from h]; rfl
  | _ :: ds, _, ⟨v, r, e1, e2, e3⟩ => by
    subst e1
    show r.length + 1 = ds.length + 1
    rw [Reps.length e3]
theorem Reps.get : ∀ {ds : List D} {vs : List V} {i : Nat} {d : D}, Reps K W ds vs → ds[i]? = some d → ∃ v, vs[i]? = some v ∧ Rep K W d v
  | [], _, _, _, _, e => by simp at e
  | _ :: _, _, 0, _, ⟨v, r, e1, e2, e3⟩, e => by
    subst e1
    have e' := Option.some.inj e
    subst e'
    exact ⟨v, rfl, e2⟩
  | _ :: _, _, i + 1, _, ⟨v, r, e1, e2, e3⟩, e => by
    subst e1
    exact Reps.get (i := i) e3 e
theorem Reps.append : ∀ {ds es : List D} {vs ws : List V}, Reps K W ds vs → Reps K W es ws → Reps K W (ds ++ es) (vs ++ ws)
  | [], _, _, _, h, h' => by
    rw [show _ = [] from h]
    exact h'
  | _ :: _, _, _, _, ⟨v, r, e1, e2, e3⟩, h' => by
    subst e1
    exact ⟨v, _, rfl, e2, Reps.append e3 h'⟩
theorem Reps.one {d : D} {v : V} (h : Rep K W d v) : Reps K W [d] [v] := ⟨v, [], rfl, h, rfl⟩
theorem Reps.take : ∀ {ds : List D} {vs : List V} (n : Nat), Reps K W ds vs → Reps K W (ds.take n) (vs.take n)
  | [], _, n, h => by
    rw [show _ = [] from h, List.take_nil, List.take_nil]; rfl
  | _ :: _, _, 0, _ => by rw [List.take_zero, List.take_zero]; rfl
  | _ :: _, _, n + 1, ⟨v, r, e1, e2, e3⟩ => by
    subst e1
    exact ⟨v, _, rfl, e2, Reps.take n e3⟩
theorem Reps.drop : ∀ {ds : List D} {vs : List V} (n : Nat), Reps K W ds vs → Reps K W (ds.drop n) (vs.drop n)
  | [], _, n, h => by
    rw [show _ = [] from h, List.drop_nil, List.drop_nil]; rfl
  | _ :: _, _, 0, h => h
  | _ :: _, _, n + 1, ⟨v, r, e1, e2, e3⟩ => by
    subst e1
    exact Reps.drop n e3
theorem Reps.set {d : D} {v : V} (h : Rep K W d v) : ∀ {ds : List D} {vs : List V} (i : Nat), Reps K W ds vs → Reps K W (ds.set i d) (vs.set i v)
  | [], _, _, h' => by
    rw [show _ = [] from h']; rfl
  | _ :: _, _, 0, ⟨_, r, e1, e2, e3⟩ => by
    subst e1
    exact ⟨v, r, rfl, h, e3⟩
  | _ :: _, _, i + 1, ⟨w, r, e1, e2, e3⟩ => by
    subst e1
    exact ⟨w, _, rfl, e2, Reps.set h i e3⟩
theorem Repf.mono (e : Same W W') {fs : List (Str × D)} {gs : List (Str × V)} (h : Repf K W fs gs) : Repf K W' fs gs := fun f d q => by
  obtain ⟨v, a, b⟩ := h f d q
  exact ⟨v, a, b.mono e⟩
/-- slots of an environment, fields of an instance -/
def getV : DE → Nat → Option D
  | [], _ => none
  | x :: _, 0 => x
  | _ :: r, i + 1 => getV r i
def setV : DE → Nat → D → DE
  | [], _, _ => []
  | _ :: r, 0, d => some d :: r
  | x :: r, i + 1, d => x :: setV r i d
def cntV : DE → Nat
  | [] => 0
  | none :: r => cntV r
  | some _ :: r => cntV r + 1
theorem getV_setV : ∀ {e : DE} {i j : Nat} {d x : D}, getV (setV e i d) j = some x → (j = i ∧ x = d) ∨ (j ≠ i ∧ getV e j = some x)
  | [], _, _, _, _, h => by cases h
  | _ :: r, 0, 0, d, x, h => .inl ⟨rfl, (Option.some.inj h).symm⟩
  | _ :: r, 0, j + 1, d, x, h => .inr ⟨Nat.succ_ne_zero j, h⟩
  | y :: r, i + 1, 0, d, x, h => .inr ⟨(Nat.succ_ne_zero i).symm, h⟩
  | y :: r, i + 1, j + 1, d, x, h => by
    rcases getV_setV (e := r) (i := i) (j := j) h with ⟨a, b⟩ | ⟨a, b⟩
    · exact .inl ⟨by rw [a], b⟩
    · exact .inr ⟨fun z => a (Nat.succ.inj z), b⟩
theorem getV_set_ne : ∀ {e : DE} {i j : Nat} {d : D}, j ≠ i → getV (setV e i d) j = getV e j
  | [], _, _, _, _ => rfl
  | _ :: r, 0, 0, d, h => absurd rfl h
  | _ :: r, 0, j + 1, d, h => rfl
  | y :: r, i + 1, 0, d, h => rfl
  | y :: r, i + 1, j + 1, d, h => getV_set_ne (e := r) (i := i) (j := j) fun z => h (by rw [z])
theorem getV_set_same : ∀ {e : DE} {i : Nat} {d : D}, i < e.length → getV (setV e i d) i = some d
  | [], _, _, h => absurd h (Nat.not_lt_zero _)
  | _ :: r, 0, d, _ => rfl
  | y :: r, i + 1, d, h => getV_set_same (e := r) (i := i) (Nat.lt_of_succ_lt_succ h)
theorem setV_length : ∀ {e : DE} {i : Nat} {d : D}, (setV e i d).length = e.length
  | [], _, _ => rfl
  | _ :: r, 0, d => rfl
  | y :: r, i + 1, d => congrArg (· + 1) (setV_length (e := r) (i := i))
theorem cntV_le : ∀ e : DE, cntV e ≤ e.length
  | [] => Nat.le_refl _
  | none :: r => Nat.le_succ_of_le (cntV_le r)
  | some _ :: r => Nat.succ_le_succ (cntV_le r)
theorem cntV_none : ∀ {e : DE} {i : Nat} {d : D}, i < e.length → getV e i = none → cntV (setV e i d) = cntV e + 1
  | [], _, _, h, _ => absurd h (Nat.not_lt_zero _)
  | none :: r, 0, d, _, _ => rfl
  | some _ :: r, 0, d, _, h => by cases h
  | none :: r, i + 1, d, h, q => cntV_none (e := r) (i := i) (Nat.lt_of_succ_lt_succ h) q
  | some _ :: r, i + 1, d, h, q => congrArg (· + 1) (cntV_none (e := r) (i := i) (Nat.lt_of_succ_lt_succ h) q)
theorem cntV_some : ∀ {e : DE} {i : Nat} {d x : D}, getV e i = some x → cntV (setV e i d) = cntV e
  | [], _, _, _, h => by cases h
  | none :: r, 0, d, _, h => by cases h
  | some _ :: r, 0, d, _, h => rfl
  | none :: r, i + 1, d, _, q => cntV_some (e := r) (i := i) q
  | some _ :: r, i + 1, d, _, q => congrArg (· + 1) (cntV_some (e := r) (i := i) q)
theorem putF_len {f : Str} {v w : V} : ∀ {gs : List (Str × V)}, gs.lookup f = some w → (putF f v gs).length = gs.length
  | [], h => by cases h
  | (g, x) :: r, h => by
    show (if g = f then (g, v) :: r else (g, x) :: putF f v r).length = r.length + 1
    by_cases q : g = f
    · rw [if_pos q]; rfl
    · rw [if_neg q]
      have hb : (f == g) = false := beq_eq_false_iff_ne.mpr fun z => q z.symm
      rw [List.lookup_cons, hb] at h
      show (putF f v r).length + 1 = r.length + 1
      rw [putF_len (gs := r) h]
/-- an instance's fields -/
structure FRep (K : PySem.W.Frag) (W : Hp) (N : List Str) (xs : DE) (gs : List (Str × V)) : Prop where
  nd : N.Nodup
  few : N.length ≤ 900
  len : xs.length = N.length
  is : ∀ (i : Nat) (f : Str) (d : D), N[i]? = some f → getV xs i = some d → ∃ v, gs.lookup f = some v ∧ Rep K W d v
  no : ∀ (i : Nat) (f : Str), N[i]? = some f → getV xs i = none → gs.lookup f = none
  out : ∀ f : Str, f ∉ N → gs.lookup f = none
  cnt : gs.length ≤ cntV xs
theorem FRep.mono (e : Same W W') {N : List Str} {xs : DE} {gs : List (Str × V)} (h : FRep K W N xs gs) : FRep K W' N xs gs :=
  ⟨h.nd, h.few, h.len, fun i f d a b => by
    obtain ⟨v, c, r⟩ := h.is i f d a b
    exact ⟨v, c, r.mono e⟩, h.no, h.out, h.cnt⟩
theorem FRep.lt {N : List Str} {xs : DE} {gs : List (Str × V)} (h : FRep K W N xs gs) : gs.length < 1000 := by
  have a := h.cnt
  have b := cntV_le xs
  have c := h.len
  have d := h.few
  omega
theorem FRep.put {N : List Str} {xs : DE} {gs : List (Str × V)} (h : FRep K W N xs gs) {i : Nat} {f : Str} {d : D} {v : V} (hi : N[i]? = some f) (r : Rep K W d v) : FRep K W N (setV xs i d) (putF f v gs) := by
  have hlt : i < N.length := (List.getElem?_eq_some_iff.mp hi).1
  have hlx : i < xs.length := by rw [h.len]; exact hlt
  refine ⟨h.nd, h.few, by rw [setV_length]; exact h.len, fun j g x hj hx => ?_, fun j g hj hx => ?_, fun g hg => ?_, ?_⟩
  · rw [lookup_putF]
    rcases getV_setV hx with ⟨a, b⟩ | ⟨a, b⟩
    · subst a b
      rw [hi] at hj
      cases hj
      exact ⟨v, if_pos rfl, r⟩
    · have ne : g ≠ f := fun z => a (by subst z; exact nodup_ix h.nd hj hi)
      obtain ⟨w, c, rr⟩ := h.is j g x hj b
      exact ⟨w, by rw [if_neg ne]; exact c, rr⟩
  · rw [lookup_putF]
    by_cases e : j = i
    · subst e
      rw [getV_set_same hlx] at hx
      cases hx
    · rw [getV_set_ne e] at hx
      have ne : g ≠ f := fun z => e (by subst z; exact nodup_ix h.nd hj hi)
      rw [if_neg ne]
      exact h.no j g hj hx
  · have ne : g ≠ f := fun z => hg (by subst z; exact List.mem_of_getElem? hi)
    rw [lookup_putF, if_neg ne]
    exact h.out g hg
  · cases q : getV xs i with
    | none =>
      rw [cntV_none hlx q]
      exact Nat.le_trans (length_putF f v gs) (Nat.succ_le_succ h.cnt)
    | some x =>
      obtain ⟨w, c, _⟩ := h.is i f x hi q
      rw [cntV_some q, putF_len c]
      exact h.cnt
end

/-! ### keys: tuples of ints, bools, None and of such tuples -/
mutual
def nkD : D → Option NestedKey
  | .non => some .none
  | .bl b => some (.num (if b = true then 1 else 0))
  | .int i => some (.num i)
  | .tup xs => (nksD xs).map NestedKey.tup
  | _ => none
def nksD : List D → Option (List NestedKey)
  | [] => some []
  | d :: r => (nkD d).bind fun k => (nksD r).map (k :: ·)
end
mutual
def khash : NestedKey → Int
  | .none => reduceHash 0xFCA86420
  | .num i => hashInt i
  | .text _ => 0
  | .tup ks => reduceHash (Builtin.Tuple.tupleHashOf (khashes ks))
def khashes : List NestedKey → List Int
  | [] => []
  | k :: ks => khash k :: khashes ks
end
/-- a dict's object: its entries -/
def dnP (a : Addr) (xs : List (NestedKey × Addr × Value)) : Heap → Prop := fun h => ∃ ob es ep, h.get? a = some ob ∧ ob.ExactDict ∧ ob.data = .dict es ep ∧ es.toList = xs.map fun x => ⟨khash x.1, .ref x.2.1, x.2.2⟩
def DN (K : PySem.W.Frag) (W : Hp) : List (D × D) → List (NestedKey × Addr × Value) → Prop
  | [], xs => xs = []
  | p :: r, xs => ∃ k b u v r', xs = (k, b, u) :: r' ∧ (nkD p.1 = some k ∧ k.depth ≤ 8) ∧ Rep K W p.1 (.ref b) ∧ (Rep K W p.2 v ∧ RelV v u) ∧ DN K W r r'
theorem DN.mono {K : PySem.W.Frag} {W W' : Hp} (e : Same W W') : ∀ {ds : List (D × D)} {xs : List (NestedKey × Addr × Value)}, DN K W ds xs → DN K W' ds xs
  | [], _, h => h
  | _ :: _, _, ⟨k, b, u, v, r', e1, e2, e3, ⟨e4, e5⟩, e6⟩ => ⟨k, b, u, v, r', e1, e2, e3.mono e, ⟨e4.mono e, e5⟩, DN.mono e e6⟩
/-- what stands at a mutable object's address -/
def MRep (K : PySem.W.Frag) (W : Hp) : MO → HO → Prop
  | .lst xs, o => ∃ vs, o = .lst vs ∧ Reps K W xs vs
  | .ins C N xs, o => ∃ dx gs, o = .ins C dx gs ∧ FRep K W N xs gs
  | .dK kvs, o => ∃ ws, o = .dK ws ∧ Repk K W kvs ws
  | .dN a kvs, o => ∃ xs, o = .ext (dnP a xs) ∧ (kvs.length ≤ sizeLine ∧ (a == sysModules) = false ∧ (xs.map (·.1)).Nodup) ∧ DN K W kvs xs
theorem MRep.mono {K : PySem.W.Frag} {W W' : Hp} (e : Same W W') : ∀ {m : MO} {o : HO}, MRep K W m o → MRep K W' m o
  | .lst _, _, ⟨vs, e1, e2⟩ => ⟨vs, e1, Reps.mono e e2⟩
  | .ins _ _ _, _, ⟨dx, gs, e1, e2⟩ => ⟨dx, gs, e1, e2.mono e⟩
  | .dK _, _, ⟨ws, e1, e2⟩ => ⟨ws, e1, Repk.mono e e2⟩
  | .dN _ _, _, ⟨xs, e1, z, e2⟩ => ⟨xs, e1, z, DN.mono e e2⟩
/-- the heap: what is seen and never changes (W), the store (S) -/
structure Ok (K : PySem.W.Frag) (W : Hp) (S : Sto) (H : Hp) : Prop where
  vis : Same W H
  sto : ∀ a m, S a = some m → ∃ o, H a = some o ∧ MRep K W m o
  sep : ∀ a m, S a = some m → W a = none
def delV : DE → Nat → DE
  | [], _ => []
  | _ :: r, 0 => none :: r
  | x :: r, i + 1 => x :: delV r i
def Sl (K : PySem.W.Frag) (W : Hp) (e : DE) (σ : L2.St) : Prop := ∀ i d, getV e i = some d → ∃ v, σ[i]? = some (some v) ∧ Rep K W d v
theorem getV_delV : ∀ {e : DE} {i j : Nat} {x : D}, getV (delV e i) j = some x → j ≠ i ∧ getV e j = some x
  | [], _, _, _, h => by cases h
  | _ :: r, 0, 0, x, h => by cases h
  | _ :: r, 0, j + 1, x, h => ⟨Nat.succ_ne_zero j, h⟩
  | y :: r, i + 1, 0, x, h => ⟨(Nat.succ_ne_zero i).symm, h⟩
  | y :: r, i + 1, j + 1, x, h => by
    obtain ⟨a, b⟩ := getV_delV (e := r) (i := i) (j := j) h
    exact ⟨fun z => a (Nat.succ.inj z), b⟩
section
variable {K : PySem.W.Frag} {W W' : Hp} {S : Sto} {H : Hp} {e : DE} {σ : L2.St}
theorem Sl.mono (z : Same W W') (h : Sl K W e σ) : Sl K W' e σ := fun i d q => by
  obtain ⟨v, a, b⟩ := h i d q
  exact ⟨v, a, b.mono z⟩
theorem lt_of_some {α : Type} {l : List α} {i : Nat} {x : α} (h : l[i]? = some x) : i < l.length := (List.getElem?_eq_some_iff.mp h).1
theorem Sl.set {i : Nat} {d : D} {v : V} (h : Sl K W e σ) (hi : i < σ.length) (r : Rep K W d v) : Sl K W (setV e i d) (σ.set i (some v)) := fun j x q => by
  rcases getV_setV q with ⟨a, b⟩ | ⟨a, b⟩
  · subst a b
    exact ⟨v, List.getElem?_set_self hi, r⟩
  · obtain ⟨w, c, f⟩ := h j x b
    exact ⟨w, by rw [List.getElem?_set_ne (Ne.symm a)]; exact c, f⟩
theorem Ok.fresh (ok : Ok K W S H) {p : Addr} (h : H p = none) : W p = none ∧ S p = none := by
  constructor
  · cases q : W p with
    | none => rfl
    | some o => rw [ok.vis _ _ q] at h; cases h
  · cases q : S p with
    | none => rfl
    | some m =>
      obtain ⟨o, e, _⟩ := ok.sto _ _ q
      rw [e] at h; cases h
theorem same_new {p : Addr} {o : HO} (h : W p = none) : Same W (upd W p o) := fun b x e => by
  rw [upd_ne (ne_of_none e h)]
  exact e
/-- a new object that never changes -/
theorem Ok.newW (ok : Ok K W S H) {p : Addr} {o : HO} (h : H p = none) : Ok K (upd W p o) S (upd H p o) := by
  obtain ⟨hW, hS⟩ := ok.fresh h
  refine ⟨fun b x e => ?_, fun a m e => ?_, fun a m e => ?_⟩
  · by_cases q : b = p
    · subst q; rw [upd_same] at e ⊢; exact e
    · rw [upd_ne q] at e ⊢; exact ok.vis _ _ e
  · obtain ⟨x, e1, e2⟩ := ok.sto _ _ e
    refine ⟨x, ?_, e2.mono (same_new hW)⟩
    rw [upd_ne (ne_of_S e hS)]; exact e1
  · rw [upd_ne (ne_of_S e hS)]; exact ok.sep _ _ e
/-- a new mutable object -/
theorem Ok.newS (ok : Ok K W S H) {p : Addr} {o : HO} {m : MO} (h : H p = none) (r : MRep K W m o) : Ok K W (put S p m) (upd H p o) := by
  obtain ⟨hW, hS⟩ := ok.fresh h
  refine ⟨fun b x e => ?_, fun a n e => ?_, fun a n e => ?_⟩
  · rw [upd_ne (ne_of_none e hW)]; exact ok.vis _ _ e
  · by_cases q : a = p
    · subst q
      rw [put_same] at e
      cases e
      exact ⟨o, upd_same, r⟩
    · rw [put_ne q] at e
      obtain ⟨x, e1, e2⟩ := ok.sto _ _ e
      exact ⟨x, by rw [upd_ne q]; exact e1, e2⟩
  · by_cases q : a = p
    · subst q; exact hW
    · rw [put_ne q] at e; exact ok.sep _ _ e
/-- a mutable object changes -/
theorem Ok.chg (ok : Ok K W S H) {p : Addr} {o : HO} {m m0 : MO} (h : S p = some m0) (r : MRep K W m o) : Ok K W (put S p m) (upd H p o) := by
  have hW := ok.sep _ _ h
  refine ⟨fun b x e => ?_, fun a n e => ?_, fun a n e => ?_⟩
  · rw [upd_ne (ne_of_none e hW)]; exact ok.vis _ _ e
  · by_cases q : a = p
    · subst q
      rw [put_same] at e
      cases e
      exact ⟨o, upd_same, r⟩
    · rw [put_ne q] at e
      obtain ⟨x, e1, e2⟩ := ok.sto _ _ e
      exact ⟨x, by rw [upd_ne q]; exact e1, e2⟩
  · by_cases q : a = p
    · subst q; exact hW
    · rw [put_ne q] at e; exact ok.sep _ _ e
/-- a mutable object is thrown out of the store -/
theorem Ok.less (ok : Ok K W S H) {S' : Sto} (h : ∀ a m, S' a = some m → S a = some m) : Ok K W S' H :=
  ⟨ok.vis, fun a m e => ok.sto a m (h a m e), fun a m e => ok.sep a m (h a m e)⟩
theorem Ok.del (ok : Ok K W S H) (a : Addr) : Ok K W (del S a) H := ok.less fun b m e => by
  unfold DL.del at e
  by_cases q : b = a
  · rw [if_pos q] at e; cases e
  · rw [if_neg q] at e; exact e
/-- a mutable object never changes again -/
theorem Ok.frz (ok : Ok K W S H) {a : Addr} {m : MO} {o : HO} (h : S a = some m) (ho : H a = some o) : Ok K (upd W a o) (DL.del S a) H := by
  have hW := ok.sep _ _ h
  refine ⟨fun b x e => ?_, fun b n e => ?_, fun b n e => ?_⟩
  · by_cases q : b = a
    · subst q; rw [upd_same] at e; cases e; exact ho
    · rw [upd_ne q] at e; exact ok.vis _ _ e
  · unfold DL.del at e
    by_cases q : b = a
    · rw [if_pos q] at e; cases e
    · rw [if_neg q] at e
      obtain ⟨x, e1, e2⟩ := ok.sto _ _ e
      exact ⟨x, e1, e2.mono (same_new hW)⟩
  · unfold DL.del at e
    by_cases q : b = a
    · rw [if_pos q] at e; cases e
    · rw [if_neg q] at e
      rw [upd_ne q]; exact ok.sep _ _ e
end
end DL
set_option Elab.async false
set_option linter.all false
set_option maxRecDepth 100000
set_option maxHeartbeats 2000000
/-! The data layer, part b: judgements over data, expressions, statements, calls. -/
namespace DL
open PySem PySem.Spec PyProof.Rows L2

/-- what a step keeps: what is seen, and what belongs to nobody here -/
structure Stp (W : Hp) (S : Sto) (H : Hp) (W' : Hp) (S' : Sto) (H' : Hp) : Prop where
  vis : Same W W'
  frm : ∀ a o, H a = some o → W a = none → S a = none → H' a = some o ∧ W' a = none ∧ S' a = none
theorem Stp.refl {W : Hp} {S : Sto} {H : Hp} : Stp W S H W S H := ⟨Same.refl W, fun _ _ h1 h2 h3 => ⟨h1, h2, h3⟩⟩
theorem Stp.trans {W W1 W2 : Hp} {S S1 S2 : Sto} {H H1 H2 : Hp} (a : Stp W S H W1 S1 H1) (b : Stp W1 S1 H1 W2 S2 H2) : Stp W S H W2 S2 H2 :=
  ⟨a.vis.trans b.vis, fun p o h1 h2 h3 => let ⟨x, y, z⟩ := a.frm p o h1 h2 h3; b.frm p o x y z⟩
section
variable {K : PySem.W.Frag} {W : Hp} {S : Sto} {H : Hp} {p : Addr} {o : HO} {m m0 : MO}
theorem Ok.stW (ok : Ok K W S H) (h : H p = none) : Stp W S H (upd W p o) S (upd H p o) :=
  ⟨same_new (ok.fresh h).1, fun a x h1 h2 h3 => by
    have ne : a ≠ p := ne_of_none h1 h
    exact ⟨by rw [upd_ne ne]; exact h1, by rw [upd_ne ne]; exact h2, h3⟩⟩
theorem Ok.stS (ok : Ok K W S H) (h : H p = none) : Stp W S H W (put S p m) (upd H p o) :=
  ⟨Same.refl W, fun a x h1 h2 h3 => by
    have ne : a ≠ p := ne_of_none h1 h
    exact ⟨by rw [upd_ne ne]; exact h1, h2, by rw [put_ne ne]; exact h3⟩⟩
theorem Ok.stJ (ok : Ok K W S H) (h : H p = none) : Stp W S H W S (upd H p o) :=
  ⟨Same.refl W, fun a x h1 h2 h3 => ⟨by rw [upd_ne (ne_of_none h1 h)]; exact h1, h2, h3⟩⟩
theorem Ok.stC (ok : Ok K W S H) (h : S p = some m0) : Stp W S H W (put S p m) (upd H p o) :=
  ⟨Same.refl W, fun a x h1 h2 h3 => by
    have ne : a ≠ p := fun e => by subst e; rw [h] at h3; cases h3
    exact ⟨by rw [upd_ne ne]; exact h1, h2, by rw [put_ne ne]; exact h3⟩⟩
theorem Ok.stF (ok : Ok K W S H) (h : S p = some m0) : Stp W S H (upd W p o) (DL.del S p) H :=
  ⟨same_new (ok.sep _ _ h), fun a x h1 h2 h3 => by
    have ne : a ≠ p := fun e => by subst e; rw [h] at h3; cases h3
    exact ⟨h1, by rw [upd_ne ne]; exact h2, by unfold DL.del; rw [if_neg ne]; exact h3⟩⟩
end
abbrev XQ := Addr → List (Str × D) → Sto → Prop
abbrev Qd := D → Sto → Prop
abbrev WPe := DE → Sto → Qd → XQ → Prop
abbrev WPt := DE → Sto → (Bool → Sto → Prop) → XQ → Prop
abbrev WPa := DE → Sto → (List D → Sto → Prop) → XQ → Prop
structure QS where
  nx : DE → Sto → Prop
  rt : D → Sto → Prop
  bk : DE → Sto → Prop
  ct : DE → Sto → Prop
  xc : Addr → List (Str × D) → DE → Sto → Prop
abbrev WPs := DE → Sto → QS → Prop
abbrev Ctr := List D → Sto → Qd → XQ → Prop
def X0 : XQ := fun _ _ _ => False
def some! {α : Type} (o : Option α) (k : α → Prop) : Prop := match o with | some a => k a | none => False
theorem some!_ex {α : Type} {o : Option α} {k : α → Prop} (h : some! o k) : ∃ a, o = some a ∧ k a := by
  cases o with
  | none => exact h.elim
  | some a => exact ⟨a, rfl, h⟩

section
variable (K : PySem.W.Frag)
def CV (W : Hp) (S : Sto) (H : Hp) (Q0 : Qd) (Q : VK) : Prop := ∀ d S' v W' H', Q0 d S' → Stp W S H W' S' H' → Ok K W' S' H' → Rep K W' d v → Q v H'
def CVs (W : Hp) (S : Sto) (H : Hp) (Q0 : List D → Sto → Prop) (Q : List V → Hp → Prop) : Prop := ∀ d S' v W' H', Q0 d S' → Stp W S H W' S' H' → Ok K W' S' H' → Reps K W' d v → Q v H'
def CB (W : Hp) (S : Sto) (H : Hp) (Q0 : Bool → Sto → Prop) (Q : Bool → Hp → Prop) : Prop := ∀ b S' W' H', Q0 b S' → Stp W S H W' S' H' → Ok K W' S' H' → Q b H'
def CXc (W : Hp) (S : Sto) (H : Hp) (X0 : XQ) (E : XK) : Prop := ∀ C fs S' dd gs W' H', X0 C fs S' → Stp W S H W' S' H' → Ok K W' S' H' → W' dd = some (.xd gs) → Repf K W' fs gs → E (.ref C) (some dd) H'
def lE (Wx : WX) (w : WPe) : TE := fun σ H Q => ∃ W env S Q0 X0, Ok K W S H ∧ Sl K W env σ ∧ w env S Q0 X0 ∧ CV K W S H Q0 Q ∧ CXc K W S H X0 (fun c d H' => Wx c d σ H')
def lT (Wx : WX) (w : WPt) : TT := fun σ H Q => ∃ W env S Q0 X0, Ok K W S H ∧ Sl K W env σ ∧ w env S Q0 X0 ∧ CB K W S H Q0 Q ∧ CXc K W S H X0 (fun c d H' => Wx c d σ H')
def lA (Wx : WX) (w : WPa) : TA := fun σ H Q => ∃ W env S Q0 X0, Ok K W S H ∧ Sl K W env σ ∧ w env S Q0 X0 ∧ CVs K W S H Q0 Q ∧ CXc K W S H X0 (fun c d H' => Wx c d σ H')
structure CS (Wx : WX) (W : Hp) (S : Sto) (H : Hp) (q : QS) (D : Ends) : Prop where
  nx : ∀ e S' σ' W' H', q.nx e S' → Stp W S H W' S' H' → Ok K W' S' H' → Sl K W' e σ' → D.nx σ' H'
  rt : ∀ d S' v W' H', q.rt d S' → Stp W S H W' S' H' → Ok K W' S' H' → Rep K W' d v → D.rt v H'
  bk : ∀ e S' σ' W' H', q.bk e S' → Stp W S H W' S' H' → Ok K W' S' H' → Sl K W' e σ' → D.bk σ' H'
  ct : ∀ e S' σ' W' H', q.ct e S' → Stp W S H W' S' H' → Ok K W' S' H' → Sl K W' e σ' → D.ct σ' H'
  xc : ∀ C fs e S' dd gs σ' W' H', q.xc C fs e S' → Stp W S H W' S' H' → Ok K W' S' H' → Sl K W' e σ' → W' dd = some (.xd gs) → Repf K W' fs gs → Wx (.ref C) (some dd) σ' H'
def lS (Wx : WX) (n : Nat) (w : WPs) : TS := fun D σ H => ∃ W env S q, Ok K W S H ∧ Sl K W env σ ∧ σ.length = n ∧ w env S q ∧ CS K Wx W S H q { D with nx := fun σ' H' => σ'.length = n → D.nx σ' H', bk := fun σ' H' => σ'.length = n → D.bk σ' H', ct := fun σ' H' => σ'.length = n → D.ct σ' H' }
def lSp (spec : Ctr) : Sp := fun vs H Q E => ∃ W S ds Q0 X0, Ok K W S H ∧ Reps K W ds vs ∧ spec ds S Q0 X0 ∧ CV K W S H Q0 Q ∧ CXc K W S H X0 E
/-- an operation on two values -/
abbrev O2 := Sto → D → D → Qd → Prop
def lOp (o : O2) : R2 := fun x y H Q => ∃ W S a b Q0, Ok K W S H ∧ Rep K W a x ∧ Rep K W b y ∧ o S a b Q0 ∧ CV K W S H Q0 Q
/-- a call of a built-in on values -/
abbrev OC := Sto → List D → Qd → Prop
def lC (o : OC) : List V → Hp → VK → Prop := fun xs H Q => ∃ W S ds Q0, Ok K W S H ∧ Reps K W ds xs ∧ o S ds Q0 ∧ CV K W S H Q0 Q
/-- a method of a built-in type: may change the store -/
abbrev OM := Sto → D → List D → Qd → Prop
end
section
variable {K : PySem.W.Frag} {W W' : Hp} {S S2 : Sto} {H H2 : Hp}
theorem CV.mono {Q0 : Qd} {Q : VK} (e : Stp W S H W' S2 H2) (h : CV K W S H Q0 Q) : CV K W' S2 H2 Q0 Q := fun d S' v W2 H' q s => h d S' v W2 H' q (e.trans s)
theorem CXc.mono {X0 : XQ} {E : XK} (e : Stp W S H W' S2 H2) (h : CXc K W S H X0 E) : CXc K W' S2 H2 X0 E := fun C fs S' dd gs W2 H' q s => h C fs S' dd gs W2 H' q (e.trans s)
theorem CXc.no {E : XK} : CXc K W S H X0 E := fun _ _ _ _ _ _ _ h => h.elim
theorem CS.mono {Wx : WX} {q : QS} {D : Ends} (e : Stp W S H W' S2 H2) (h : CS K Wx W S H q D) : CS K Wx W' S2 H2 q D :=
  ⟨fun a b c d f g s => h.nx a b c d f g (e.trans s), fun a b c d f g s => h.rt a b c d f g (e.trans s), fun a b c d f g s => h.bk a b c d f g (e.trans s), fun a b c d f g s => h.ct a b c d f g (e.trans s),
    fun a b c d f g i j k l s => h.xc a b c d f g i j k l (e.trans s)⟩
end

section
variable (X : Cx)
structure PD (e : Expr) (w : WPe) : Prop where
  run : ∀ Wx, Takes X Wx → PE X e (lE X.K Wx w)
structure PDt (e : Expr) (w : WPt) : Prop where
  run : ∀ Wx, Takes X Wx → PT X e (lT X.K Wx w)
structure PDw (e : Expr) (w : WPt) : Prop where
  run : ∀ Wx, Takes X Wx → PW X e (lT X.K Wx w)
structure PDa (es : List Expr) (w : WPa) : Prop where
  run : ∀ Wx, Takes X Wx → PA X es (lA X.K Wx w)
structure PDs (st : Stmt) (w : WPs) : Prop where
  run : ∀ Wx, Takes X Wx → PS X st (lS X.K Wx X.N.length w)
structure PDss (st : List Stmt) (w : WPs) : Prop where
  run : ∀ Wx, Takes X Wx → PSs X st (lS X.K Wx X.N.length w)
end
section
variable {X : Cx} {e a b c : Expr} {es : List Expr} {pos : Pos}
theorem PE.imp {t t' : TE} (h : PE X e t) (i : ∀ σ H Q, t' σ H Q → t σ H Q) : PE X e t' := ⟨fun pins s σ H Q I q => h.run pins s σ H Q I (i σ H Q q)⟩
theorem PT.imp {t t' : TT} (h : PT X e t) (i : ∀ σ H Q, t' σ H Q → t σ H Q) : PT X e t' := ⟨fun pins s σ H Q I q => h.run pins s σ H Q I (i σ H Q q)⟩
theorem PW.imp {t t' : TT} (h : PW X e t) (i : ∀ σ H Q, t' σ H Q → t σ H Q) : PW X e t' := ⟨fun wh pins s σ H Q I q => h.run wh pins s σ H Q I (i σ H Q q)⟩
theorem PA.imp {t t' : TA} (h : PA X es t) (i : ∀ σ H Q, t' σ H Q → t σ H Q) : PA X es t' := ⟨fun po pins s σ H Q I q => h.run po pins s σ H Q I (i σ H Q q)⟩
theorem PS.imp {st : Stmt} {t t' : TS} (h : PS X st t) (i : ∀ D σ H, t' D σ H → t D σ H) : PS X st t' := ⟨fun pins s σ H D I q => h.run pins s σ H D I (i D σ H q)⟩
theorem PSs.imp {st : List Stmt} {t t' : TS} (h : PSs X st t) (i : ∀ D σ H, t' D σ H → t D σ H) : PSs X st t' := ⟨fun pins s σ H D I q => h.run pins s σ H D I (i D σ H q)⟩

/-! ### names, constants -/
def wVar (i : Nat) : WPe := fun env S Q _ => some! (getV env i) fun d => Q d S
def wC (d : D) : WPe := fun _ S Q _ => Q d S
theorem pd_var (i : Nat) {x : Str} (hN : X.N[i]? = some x := by rfl) (hv : Vis X.env.scope x := by first | exact Or.inl rfl | exact Or.inr (Or.inl rfl) | exact Or.inr (Or.inr rfl)) (hd : (x == ("__debug__" : Str)) = false := by decide)
    (hcd : (x == ("__classdict__" : Str)) = false := by decide) : PD X (.Name x pos) (wVar i) := ⟨fun Wx tk => PE.imp (pe_var hN hv hd hcd) fun σ H Q ⟨W, env, S, Q0, X1, ok, sl, hw, cv, cx⟩ => by
  obtain ⟨d, hd, q⟩ := some!_ex hw
  obtain ⟨v, hv, r⟩ := sl i d hd
  exact ⟨v, hv, cv d S v W H q Stp.refl ok r⟩⟩
theorem pd_c {d : D} {v : V} (h : PE X e (tC v)) (r : ∀ W, Rep X.K W d v) : PD X e (wC d) := ⟨fun Wx tk => PE.imp h fun σ H Q ⟨W, env, S, Q0, X1, ok, sl, hw, cv, cx⟩ => cv d S v W H hw Stp.refl ok (r W)⟩
theorem pd_int {i : Int} {j : Nat} : PD X (.Constant (.int i) j pos) (wC (.int i)) := pd_c pe_int fun _ => rfl
theorem pd_bl {i : Bool} {j : Nat} : PD X (.Constant (.bool i) j pos) (wC (.bl i)) := pd_c pe_bl fun _ => rfl
theorem pd_non {j : Nat} : PD X (.Constant .none j pos) (wC .non) := pd_c pe_non fun _ => rfl
theorem pd_str {x : Str} {j : Nat} : PD X (.Constant (.str x) j pos) (wC (.str x)) := pd_c pe_str fun _ => rfl

/-! ### two places, one place -/
def wBin (o : O2) (wa wb : WPe) : WPe := fun env S Q X => wa env S (fun x S1 => wb env S1 (fun y S2 => o S2 x y Q) X) X
theorem bin_go {K : PySem.W.Frag} {Wx : WX} {o : O2} {wa wb : WPe} {σ : L2.St} {H : Hp} {Q : VK} (h : lE K Wx (wBin o wa wb) σ H Q) : tOp (lOp K o) (lE K Wx wa) (lE K Wx wb) σ H Q := by
  obtain ⟨W, env, S, Q0, X1, ok, sl, hw, cv, cx⟩ := h
  refine ⟨W, env, S, _, X1, ok, sl, hw, fun x S1 v W1 H1 h1 s1 ok1 r1 => ?_, cx⟩
  refine ⟨W1, env, S1, _, X1, ok1, sl.mono s1.vis, h1, fun y S2 u W2 H2 h2 s2 ok2 r2 => ?_, cx.mono s1⟩
  exact ⟨W2, S2, x, y, Q0, ok2, r1.mono s2.vis, r2, h2, cv.mono (s1.trans s2)⟩
theorem pd_op {op : Operator} {o : O2} {wa wb : WPe} (ho : OpR X (binaryOp op) (lOp X.K o)) (ha : PD X a wa) (hb : PD X b wb) : PD X (.BinOp a op b pos) (wBin o wa wb) :=
  ⟨fun Wx tk => PE.imp (pe_op ho (ha.run Wx tk) (hb.run Wx tk)) fun _ _ _ h => bin_go h⟩
theorem pd_cmp {op : CmpOp} {o : O2} {wa wb : WPe} (ho : OpR X (compareOp op) (lOp X.K o)) (ha : PD X a wa) (hb : PD X b wb) (hm : behindInMarks op b = false) : PD X (.Compare a [op] [b] pos) (wBin o wa wb) :=
  ⟨fun Wx tk => PE.imp (pe_cmpR ho (ha.run Wx tk) (hb.run Wx tk) hm) fun _ _ _ h => bin_go h⟩
theorem pd_ix {o : O2} {wa wb : WPe} (hr : IxR X (lOp X.K o)) (ha : PD X a wa) (hb : PD X b wb) (hs : PlainIx b := by exact fun _ _ => rfl) : PD X (.Subscript a b pos) (wBin o wa wb) :=
  ⟨fun Wx tk => PE.imp (pe_ix hr (ha.run Wx tk) (hb.run Wx tk) hs) fun _ _ _ h => bin_go h⟩
abbrev O1 := Sto → D → Qd → Prop
def lU (K : PySem.W.Frag) (o : O1) : V → Hp → VK → Prop := fun x H Q => ∃ W S a Q0, Ok K W S H ∧ Rep K W a x ∧ o S a Q0 ∧ CV K W S H Q0 Q
def wUn (o : O1) (wa : WPe) : WPe := fun env S Q X => wa env S (fun x S1 => o S1 x Q) X
theorem pd_un {op : UnaryOp} {o : O1} {wa : WPe} (ho : UnR X (unaryOp op) (lU X.K o)) (ha : PD X a wa) : PD X (.UnaryOp op a pos) (wUn o wa) :=
  ⟨fun Wx tk => PE.imp (pe_un ho (ha.run Wx tk)) fun σ H Q ⟨W, env, S, Q0, X1, ok, sl, hw, cv, cx⟩ => ⟨W, env, S, _, X1, ok, sl, hw, fun x S1 v W1 H1 h1 s1 ok1 r1 => ⟨W1, S1, x, Q0, ok1, r1, h1, cv.mono s1⟩, cx⟩⟩
/-! ### tests -/
def wTest (w : WPe) : WPt := fun env S Q X => w env S (fun d S' => match d with | .bl b => Q b S' | _ => False) X
/-- a comparison as a test -/
theorem pdt_cmp {op : CmpOp} {o : O2} {wa wb : WPe} (ho : OpR X (compareOp op) (lOp X.K o)) (ha : PD X a wa) (hb : PD X b wb) (hm : behindInMarks op b = false) : PDt X (.Compare a [op] [b] pos) (wTest (wBin o wa wb)) :=
  ⟨fun Wx tk => PT.imp (pt_cmpR ho (ha.run Wx tk) (hb.run Wx tk) hm) fun σ H Q ⟨W, env, S, Q0, X1, ok, sl, hw, cv, cx⟩ => bin_go ⟨W, env, S, _, X1, ok, sl, hw, fun d S1 v W1 H1 h1 s1 ok1 r1 => by
    cases d with
    | bl k =>
      have e : v = .bl k := r1
      exact ⟨k, e, cv k S1 W1 H1 h1 s1 ok1⟩
    | _ => exact h1.elim, cx⟩⟩
/-- an expression whose value is a bool -/
theorem pdt_val {w : WPe} (h : PD X e w) (he : ∀ whole, isTrue e X.env whole = (do let v ← whole; standAt e.pos; holding [v] (truthy v)) := by intro _; rfl) : PDt X e (wTest w) :=
  ⟨fun Wx tk => PT.imp (pt_val (h.run Wx tk) he) fun σ H Q ⟨W, env, S, Q0, X1, ok, sl, hw, cv, cx⟩ => ⟨W, env, S, _, X1, ok, sl, hw, fun d S1 v W1 H1 h1 s1 ok1 r1 => by
    cases d with
    | bl k =>
      have e : v = .bl k := r1
      exact ⟨k, e, cv k S1 W1 H1 h1 s1 ok1⟩
    | _ => exact h1.elim, cx⟩⟩
def wAnd (w u : WPt) : WPt := fun env S Q X => w env S (fun b S1 => if b = true then u env S1 Q X else Q false S1) X
def wOr (w u : WPt) : WPt := fun env S Q X => w env S (fun b S1 => if b = true then Q true S1 else u env S1 Q X) X
def wNot (w : WPt) : WPt := fun env S Q X => w env S (fun b S1 => Q (!b) S1) X
variable {wa wb wc : WPe} {ta tb : WPt} {rest : List Expr}
theorem pdw_and1 (ha : PDt X a ta) : PDw X (.BoolOp .And [a] pos) ta := ⟨fun Wx tk => pw_and1 (ha.run Wx tk)⟩
theorem pdw_or1 (ha : PDt X a ta) : PDw X (.BoolOp .Or [a] pos) ta := ⟨fun Wx tk => pw_or1 (ha.run Wx tk)⟩
theorem pdw_and (ha : PDt X a ta) (hb : PDw X (.BoolOp .And (b :: rest) pos) tb) : PDw X (.BoolOp .And (a :: b :: rest) pos) (wAnd ta tb) :=
  ⟨fun Wx tk => PW.imp (pw_and (ha.run Wx tk) (hb.run Wx tk)) fun σ H Q ⟨W, env, S, Q0, X1, ok, sl, hw, cv, cx⟩ => ⟨W, env, S, _, X1, ok, sl, hw, fun k S1 W1 H1 h1 s1 ok1 => by
    cases k with
    | true => exact iteT ⟨W1, env, S1, Q0, X1, ok1, sl.mono s1.vis, (if_pos rfl).mp h1, fun b2 S2 W2 H2 q2 s2 => cv b2 S2 W2 H2 q2 (s1.trans s2), cx.mono s1⟩
    | false => exact iteF (cv false S1 W1 H1 ((if_neg Bool.false_ne_true).mp h1) s1 ok1), cx⟩⟩
theorem pdw_or (ha : PDt X a ta) (hb : PDw X (.BoolOp .Or (b :: rest) pos) tb) : PDw X (.BoolOp .Or (a :: b :: rest) pos) (wOr ta tb) :=
  ⟨fun Wx tk => PW.imp (pw_or (ha.run Wx tk) (hb.run Wx tk)) fun σ H Q ⟨W, env, S, Q0, X1, ok, sl, hw, cv, cx⟩ => ⟨W, env, S, _, X1, ok, sl, hw, fun k S1 W1 H1 h1 s1 ok1 => by
    cases k with
    | true => exact iteT (cv true S1 W1 H1 ((if_pos rfl).mp h1) s1 ok1)
    | false => exact iteF ⟨W1, env, S1, Q0, X1, ok1, sl.mono s1.vis, (if_neg Bool.false_ne_true).mp h1, fun b2 S2 W2 H2 q2 s2 => cv b2 S2 W2 H2 q2 (s1.trans s2), cx.mono s1⟩, cx⟩⟩
theorem PDw.pt (h : PDw X e ta) : PDt X e ta := ⟨fun Wx tk => (h.run Wx tk).pt⟩
theorem pdt_not (ha : PDt X a ta) : PDt X (.UnaryOp .Not a pos) (wNot ta) :=
  ⟨fun Wx tk => PT.imp (pt_not (ha.run Wx tk)) fun σ H Q ⟨W, env, S, Q0, X1, ok, sl, hw, cv, cx⟩ => ⟨W, env, S, _, X1, ok, sl, hw, fun k S1 W1 H1 h1 s1 ok1 => cv (!k) S1 W1 H1 h1 s1 ok1, cx⟩⟩
/-- and, or, not as values: bools -/
def wAndV (wa wb : WPe) : WPe := fun env S Q X => wa env S (fun d S1 => match d with | .bl b => if b = true then wb env S1 Q X else Q (.bl false) S1 | _ => False) X
def wOrV (wa wb : WPe) : WPe := fun env S Q X => wa env S (fun d S1 => match d with | .bl b => if b = true then Q (.bl true) S1 else wb env S1 Q X | _ => False) X
def wNotV (wa : WPe) : WPe := fun env S Q X => wa env S (fun d S1 => match d with | .bl b => Q (.bl (!b)) S1 | _ => False) X
theorem pd_one {op} (ha : PD X a wa) : PD X (.BoolOp op [a] pos) wa := ⟨fun Wx tk => pe_one (ha.run Wx tk)⟩
theorem pd_and (ha : PD X a wa) (hb : PD X (.BoolOp .And (b :: rest) pos) wb) : PD X (.BoolOp .And (a :: b :: rest) pos) (wAndV wa wb) :=
  ⟨fun Wx tk => PE.imp (pe_and (ha.run Wx tk) (hb.run Wx tk)) fun σ H Q ⟨W, env, S, Q0, X1, ok, sl, hw, cv, cx⟩ => ⟨W, env, S, _, X1, ok, sl, hw, fun k S1 v W1 H1 h1 s1 ok1 r1 => by
    cases k with
    | bl k =>
      refine ⟨k, r1, ?_⟩
      cases k with
      | true => exact iteT ⟨W1, env, S1, Q0, X1, ok1, sl.mono s1.vis, (if_pos rfl).mp h1, cv.mono s1, cx.mono s1⟩
      | false => exact iteF (cv _ S1 _ W1 H1 ((if_neg Bool.false_ne_true).mp h1) s1 ok1 rfl)
    | _ => exact h1.elim, cx⟩⟩
theorem pd_or (ha : PD X a wa) (hb : PD X (.BoolOp .Or (b :: rest) pos) wb) : PD X (.BoolOp .Or (a :: b :: rest) pos) (wOrV wa wb) :=
  ⟨fun Wx tk => PE.imp (pe_or (ha.run Wx tk) (hb.run Wx tk)) fun σ H Q ⟨W, env, S, Q0, X1, ok, sl, hw, cv, cx⟩ => ⟨W, env, S, _, X1, ok, sl, hw, fun k S1 v W1 H1 h1 s1 ok1 r1 => by
    cases k with
    | bl k =>
      refine ⟨k, r1, ?_⟩
      cases k with
      | true => exact iteT (cv _ S1 _ W1 H1 ((if_pos rfl).mp h1) s1 ok1 rfl)
      | false => exact iteF ⟨W1, env, S1, Q0, X1, ok1, sl.mono s1.vis, (if_neg Bool.false_ne_true).mp h1, cv.mono s1, cx.mono s1⟩
    | _ => exact h1.elim, cx⟩⟩
theorem pd_not (ha : PD X a wa) : PD X (.UnaryOp .Not a pos) (wNotV wa) :=
  ⟨fun Wx tk => PE.imp (pe_not (ha.run Wx tk)) fun σ H Q ⟨W, env, S, Q0, X1, ok, sl, hw, cv, cx⟩ => ⟨W, env, S, _, X1, ok, sl, hw, fun k S1 v W1 H1 h1 s1 ok1 r1 => by
    cases k with
    | bl k => exact ⟨k, r1, cv _ S1 _ W1 H1 h1 s1 ok1 rfl⟩
    | _ => exact h1.elim, cx⟩⟩
def wIfE (t : WPt) (wa wb : WPe) : WPe := fun env S Q X => t env S (fun k S1 => if k = true then wa env S1 Q X else wb env S1 Q X) X
theorem pd_ifE (hc : PDt X c ta) (ha : PD X a wa) (hb : PD X b wb) : PD X (.IfExp c a b pos) (wIfE ta wa wb) :=
  ⟨fun Wx tk => PE.imp (pe_ifExp (hc.run Wx tk) (ha.run Wx tk) (hb.run Wx tk)) fun σ H Q ⟨W, env, S, Q0, X1, ok, sl, hw, cv, cx⟩ => ⟨W, env, S, _, X1, ok, sl, hw, fun k S1 W1 H1 h1 s1 ok1 => by
    cases k with
    | true => exact iteT ⟨W1, env, S1, Q0, X1, ok1, sl.mono s1.vis, (if_pos rfl).mp h1, cv.mono s1, cx.mono s1⟩
    | false => exact iteF ⟨W1, env, S1, Q0, X1, ok1, sl.mono s1.vis, (if_neg Bool.false_ne_true).mp h1, cv.mono s1, cx.mono s1⟩, cx⟩⟩
/-- a < b < c -/
def wChain (o o' : O2) (wa wb wc : WPe) : WPe := fun env S Q X => wa env S (fun x S1 => wb env S1 (fun y S2 => o S2 x y fun k S3 => match k with | .bl k => if k = true then wc env S3 (fun z S4 => o' S4 y z Q) X else Q (.bl false) S3 | _ => False) X) X
end
end DL
set_option Elab.async false
set_option linter.all false
set_option maxRecDepth 100000
set_option maxHeartbeats 2000000
/-! The data layer, part c: calls, displays, fields, statements. -/
namespace DL
open PySem PySem.Spec PyProof.Rows L2

section
variable {X : Cx} {CX : CXT} {k : Nat} {f C : Addr} {fd : FuncData} {ps : List Str} {sp : Sp} {E : L2.St → XK} {x m : Str} {p pos apos : Pos} {e o : Expr} {es : List Expr} {ta : TE} {t : TA}
def tMethS (C : Addr) (m : Str) (sp : Sp) (E : L2.St → XK) (ta : TE) (t : TA) : TE := fun σ H Q => ta σ H fun x H1 => ∃ a dx fs, x = .ref a ∧ H1 a = some (.ins C dx fs) ∧ fs.lookup m = none ∧
  t σ H1 fun vs H2 => sp (x :: vs) H2 Q (E σ)
theorem run_fnN {pins : List (Addr × Obj)} {σ : L2.St} {H : Hp} {s : Shared} {Q : VK} {us : List Value} {vs : List V} (F : FnOk X.prog X.w X.K X.mg X.base CX k f fd ps sp) (hr : Room k X.A) (hb : Binds X.K fd ps []) (hx : PassesAt CX X σ (E σ))
    (I : Inv X pins σ H s) (r : Vals vs us) (h : sp vs H Q (E σ)) : wpAny (model X.prog X.w) X.A (call (.ref f) us) (EP X pins σ Q) X.xe s := run_fnS F hr hb hx I r h
theorem pe_methS {pl : Sem Bool} (he : PE X o ta) (c : Cls X.K C) (hm : Meth X.K C m f) (F : FnOk X.prog X.w X.K X.mg X.base CX k f fd ps sp) (hr : Room k X.A) (hb : Binds X.K fd ps []) (hx : ∀ σ, PassesAt CX X σ (E σ)) (ha : PA X (e :: es) t)
    (hst : starEach (e :: es) X.env = (false, eval e X.env) :: starEach es X.env := by rfl) (hpl : (backTo pos (starEach es X.env)).any (·.1) = false := by rfl)
    (ht : eval (.Call (.Attribute o m apos) (e :: es) [] pos) X.env = (do
      let ov ← eval o X.env
      standAt apos.atName
      let (f, first) ← holding [ov] (getMethod ov m pl)
      callWith pos f first (backTo pos (starEach (e :: es) X.env)) (backToKw pos (keywordEach [] X.env))) := by rfl) :
    PE X (.Call (.Attribute o m apos) (e :: es) [] pos) (tMethS C m sp E ta t) := by
  refine ⟨fun pins s σ H Q I h => ?_⟩
  refine PySem.W.methodCall_KW (pl := pl) (thn (he.run pins s σ H _ I h) fun u s1 ⟨x, H1, I1, rx, a, dx, fs, ex, ea, l, q⟩ => ?_) ht
  subst ex
  obtain rfl : u = Value.ref a := rx
  refine getmeth_ok I1 ea c hm l ?_
  refine PySem.W.callWith_K (first := [.ref a]) (h₀ := X.base) I.ok.mod.kin hm.kp (thn (ha.run pos pins s1 σ H1 _ I1 q) fun us s2 ⟨vs, H2, I2, r, q2⟩ => ⟨I2.kIn, ?_⟩) hst hpl
  exact run_fnN (us := .ref a :: us) (vs := .ref a :: vs) F hr hb (hx σ) I2 (.cons rfl r) q2
theorem pe_meth0S {pl : Sem Bool} (he : PE X o ta) (c : Cls X.K C) (hm : Meth X.K C m f) (F : FnOk X.prog X.w X.K X.mg X.base CX k f fd ps sp) (hr : Room k X.A) (hb : Binds X.K fd ps []) (hx : ∀ σ, PassesAt CX X σ (E σ))
    (ht : eval (.Call (.Attribute o m apos) [] [] pos) X.env = (do
      let ov ← eval o X.env
      standAt apos.atName
      let (f, first) ← holding [ov] (getMethod ov m pl)
      callWith pos f first (backTo pos (starEach [] X.env)) (backToKw pos (keywordEach [] X.env))) := by rfl) :
    PE X (.Call (.Attribute o m apos) [] [] pos) (tMethS C m sp E ta tNil) := by
  refine ⟨fun pins s σ H Q I h => ?_⟩
  refine PySem.W.methodCall_KW (pl := pl) (thn (he.run pins s σ H _ I h) fun u s1 ⟨x, H1, I1, rx, a, dx, fs, ex, ea, l, q⟩ => ?_) ht
  subst ex
  obtain rfl : u = Value.ref a := rx
  refine getmeth_ok I1 ea c hm l ?_
  exact PySem.W.callWith_K0 (first := [.ref a]) I1.kIn hm.kp (run_fnN (us := [.ref a]) (vs := [.ref a]) F hr hb (hx σ) I1 (.cons rfl .nil) q)
theorem pe_call0S (F : FnOk X.prog X.w X.K X.mg X.base CX k f fd ps sp) (hr : Room k X.A) (hg : Gl X x) (hm : X.mg x = some (.ref f)) (hk : PySem.W.keepIn X.K (.ref f) = true) (hb : Binds X.K fd ps []) (hx : ∀ σ, PassesAt CX X σ (E σ))
    (hdb : (x == ("__debug__" : Str)) = false := by decide) : PE X (.Call (.Name x p) [] [] pos) (tCallS sp E tNil) := by
  refine ⟨fun pins s σ H Q I h => ?_⟩
  refine wpAny_Call_Name_kw (ld_glob I hg hm ?_ hdb)
  exact PySem.W.callWith_K0 I.kIn hk (run_fnN (us := []) F hr hb (hx σ) I .nil h)
def tMakeS (C : Addr) (sp : Sp) (E : L2.St → XK) (t : TA) : TE := fun σ H Q => t σ H fun vs H1 => ∀ x dx, H1 x = none → H1 dx = none → dx ≠ x →
  sp (.ref x :: vs) (upd (upd H1 dx (.own x)) x (.ins C dx [])) (fun v H2 => v = .non ∧ Q (.ref x) H2) (E σ)
theorem run_makeS {pins : List (Addr × Obj)} {σ : L2.St} {H : Hp} {s : Shared} {Q : VK} {us : List Value} {vs : List V} (M : Mk X.K C f) (F : FnOk X.prog X.w X.K X.mg X.base CX k f fd ps sp) (hr : Room (k + 1) X.A) (hb : Binds X.K fd ps [])
    (hx : PassesAt CX X σ (E σ)) (I : Inv X pins σ H s) (r : Vals vs us)
    (h : ∀ x dx, H x = none → H dx = none → dx ≠ x → sp (.ref x :: vs) (upd (upd H dx (.own x)) x (.ins C dx [])) (fun v H2 => v = .non ∧ Q (.ref x) H2) (E σ)) :
    wpAny (model X.prog X.w) X.A (call (.ref C) us) (EP X pins σ Q) X.xe s := by
  have hq := h (s.heap.objs.size + 1) s.heap.objs.size (I.hok.fresh (Nat.le_succ _)) (I.hok.fresh (Nat.le_refl _)) (Nat.ne_of_lt (Nat.lt_succ_self _))
  have I2 := Inv.made (C := C) I
  have r2 : Vals (V.ref (s.heap.objs.size + 1) :: vs) (Value.ref (s.heap.objs.size + 1) :: us) := .cons rfl r
  have hl : (Value.ref (s.heap.objs.size + 1) :: us ++ []).length = ps.length := by
    have e := r2.length
    rw [F.len _ _ _ _ hq] at e
    rw [List.append_nil]
    exact e.symm
  have hbb := hb { s with heap := (s.heap.push PySem.W.emptyDict).push (PySem.W.instObj C s.heap.objs.size) } (Value.ref (s.heap.objs.size + 1) :: us) I2.kIn hl
  rw [List.append_nil] at hbb
  refine wpAny_call (make_map (f := f) I.kIn M.makes M.init (beq_iff_eq.mp M.fn) (codeAny_mono (F.run _ X.stack _ _ ⟨Value.ref (s.heap.objs.size + 1) :: us, []⟩ (Value.ref (s.heap.objs.size + 1) :: us) _ _ (E σ) (hr.make C us [])
    (I2.env0.make C us []) hbb r2 hq) fun r s' hq' => ?_))
  cases r with
  | error e => exact hx pins _ _ e s' I2 hq'
  | ok fl =>
    cases fl with
    | ret u =>
      obtain ⟨v, H', I3, rv, ev, q3⟩ := I2.after hq'
      subst ev
      exact ⟨rv, ⟨V.ref (s.heap.objs.size + 1), H', I3, rfl, q3⟩⟩
    | next => exact False.elim hq'
    | brk => exact False.elim hq'
    | cont => exact False.elim hq'
theorem pe_makeS (M : Mk X.K C f) (F : FnOk X.prog X.w X.K X.mg X.base CX k f fd ps sp) (hr : Room (k + 1) X.A) (hg : Gl X x) (hm : X.mg x = some (.ref C)) (hb : Binds X.K fd ps []) (hx : ∀ σ, PassesAt CX X σ (E σ))
    (ha : PA X (e :: es) t) (hdb : (x == ("__debug__" : Str)) = false := by decide) (he : starEach (e :: es) X.env = (false, eval e X.env) :: starEach es X.env := by rfl) (hpl : (backTo pos (starEach es X.env)).any (·.1) = false := by rfl) :
    PE X (.Call (.Name x p) (e :: es) [] pos) (tMakeS C sp E t) := by
  refine ⟨fun pins s σ H Q I h => ?_⟩
  refine wpAny_Call_Name_kw (ld_glob I hg hm ?_ hdb)
  refine PySem.W.callWith_K (h₀ := X.base) I.ok.mod.kin M.kp (thn (ha.run pos pins s σ H _ I h) fun us s1 ⟨vs, H1, I1, r, q⟩ => ⟨I1.kIn, ?_⟩) he hpl
  exact run_makeS M F hr hb (hx σ) I1 r q
end

/-! ### arguments, displays -/
def wNil : WPa := fun _ S Q _ => Q [] S
def wCons (w : WPe) (r : WPa) : WPa := fun env S Q X => w env S (fun d S1 => r env S1 (fun ds S2 => Q (d :: ds) S2) X) X
def wLst (w : WPa) : WPe := fun env S Q X => w env S (fun ds S1 => ds.length ≤ sizeLine ∧ Q (.lst ds) S1) X
def wLstM (w : WPa) : WPe := fun env S Q X => w env S (fun ds S1 => ds.length ≤ sizeLine ∧ ∀ p, S1 p = none → Q (.ref p) (put S1 p (.lst ds))) X
def wTup (w : WPa) : WPe := fun env S Q X => w env S (fun ds S1 => ds.length ≤ sizeLine ∧ Q (.tup ds) S1) X
section
variable {X : Cx} {e : Expr} {es : List Expr} {pos : Pos} {w : WPe} {r : WPa}
theorem pda_nil : PDa X [] wNil := ⟨fun Wx tk => PA.imp pa_nil fun σ H Q ⟨W, env, S, Q0, X1, ok, sl, hw, cv, cx⟩ => cv [] S [] W H hw Stp.refl ok rfl⟩
theorem pda_cons (he : PD X e w) (hr : PDa X es r) (hs : starEach (e :: es) X.env = (false, eval e X.env) :: starEach es X.env := by rfl) : PDa X (e :: es) (wCons w r) :=
  ⟨fun Wx tk => PA.imp (pa_cons (he.run Wx tk) (hr.run Wx tk) hs) fun σ H Q ⟨W, env, S, Q0, X1, ok, sl, hw, cv, cx⟩ => ⟨W, env, S, _, X1, ok, sl, hw, fun d S1 v W1 H1 h1 s1 ok1 r1 =>
    ⟨W1, env, S1, _, X1, ok1, sl.mono s1.vis, h1, fun ds S2 vs W2 H2 h2 s2 ok2 r2 => cv (d :: ds) S2 (v :: vs) W2 H2 h2 (s1.trans s2) ok2 ⟨v, vs, rfl, r1.mono s2.vis, r2⟩, cx.mono s1⟩, cx⟩⟩
theorem pd_lst (h : PDa X es r) : PD X (.List es pos) (wLst r) :=
  ⟨fun Wx tk => PE.imp (pe_lst (h.run Wx tk)) fun σ H Q ⟨W, env, S, Q0, X1, ok, sl, hw, cv, cx⟩ => ⟨W, env, S, _, X1, ok, sl, hw, fun ds S1 vs W1 H1 ⟨hz, h1⟩ s1 ok1 r1 =>
    ⟨by rw [r1.length]; exact hz, fun p hp => cv _ S1 _ _ _ h1 (s1.trans (ok1.stW hp)) (ok1.newW hp) ⟨p, vs, rfl, upd_same, r1.mono (same_new (ok1.fresh hp).1)⟩⟩, cx⟩⟩
theorem pd_lstM (h : PDa X es r) : PD X (.List es pos) (wLstM r) :=
  ⟨fun Wx tk => PE.imp (pe_lst (h.run Wx tk)) fun σ H Q ⟨W, env, S, Q0, X1, ok, sl, hw, cv, cx⟩ => ⟨W, env, S, _, X1, ok, sl, hw, fun ds S1 vs W1 H1 ⟨hz, h1⟩ s1 ok1 r1 =>
    ⟨by rw [r1.length]; exact hz, fun p hp => cv _ _ _ _ _ (h1 p (ok1.fresh hp).2) (s1.trans (ok1.stS hp)) (ok1.newS hp ⟨vs, rfl, r1⟩) rfl⟩, cx⟩⟩
theorem pd_tup {z : Nat} (h : PDa X es r) : PD X (.Tuple es z pos) (wTup r) :=
  ⟨fun Wx tk => PE.imp (pe_tup (h.run Wx tk)) fun σ H Q ⟨W, env, S, Q0, X1, ok, sl, hw, cv, cx⟩ => ⟨W, env, S, _, X1, ok, sl, hw, fun ds S1 vs W1 H1 ⟨hz, h1⟩ s1 ok1 r1 =>
    ⟨by rw [r1.length]; exact hz, fun p hp => cv _ S1 _ _ _ h1 (s1.trans (ok1.stW hp)) (ok1.newW hp) ⟨p, vs, rfl, SqT.of upd_same, r1.mono (same_new (ok1.fresh hp).1)⟩⟩, cx⟩⟩
end

/-! ### calls of own defs -/
abbrev FnD (P : Program) (w : World) (K : PySem.W.Frag) (mg : Str → Option Value) (base : Heap) (k : Nat) (f : Addr) (fd : FuncData) (ps : List Str) (spec : Ctr) : Prop := FnOk P w K mg base (L2.CX P w) k f fd ps (lSp K spec)
def wCall (spec : Ctr) (wa : WPa) : WPe := fun env S Q X => wa env S (fun ds S1 => spec ds S1 Q X) X
/-- an instance of C whose fields are N -/
def isIns (C : Addr) (N : List Str) (S : Sto) (d : D) : Prop := match d with
  | .ref a => match S a with
    | some (.ins C' N' _) => C' = C ∧ N' = N
    | _ => False
  | .obj C' N' _ => C' = C ∧ N' = N
  | _ => False
def wMeth (C : Addr) (N : List Str) (spec : Ctr) (wo : WPe) (wa : WPa) : WPe := fun env S Q X => wo env S (fun o S1 => isIns C N S1 o ∧ wa env S1 (fun ds S2 => spec (o :: ds) S2 Q X) X) X
def noneV : List Str → DE
  | [] => []
  | _ :: r => none :: noneV r
def wMake (C : Addr) (N : List Str) (spec : Ctr) (wa : WPa) : WPe := fun env S Q X => wa env S (fun ds S1 => ∀ x, S1 x = none → spec (.ref x :: ds) (put S1 x (.ins C N (noneV N))) (fun r S2 => r = .non ∧ Q (.ref x) S2) X) X
theorem getV_noneV : ∀ {N : List Str} {i : Nat}, getV (noneV N) i = none
  | [], _ => rfl
  | _ :: _, 0 => rfl
  | _ :: r, i + 1 => getV_noneV (N := r) (i := i)
theorem noneV_length : ∀ {N : List Str}, (noneV N).length = N.length
  | [] => rfl
  | _ :: r => congrArg (· + 1) (noneV_length (N := r))
theorem frep_new {K : PySem.W.Frag} {W : Hp} {N : List Str} (hn : N.Nodup) (hf : N.length ≤ 900) : FRep K W N (noneV N) [] :=
  ⟨hn, hf, noneV_length, (fun i f d _ h => by
    rw [getV_noneV] at h
    cases h), (fun _ _ _ _ => rfl), (fun _ _ => rfl), Nat.zero_le _⟩
theorem Ok.junk {K : PySem.W.Frag} {W : Hp} {S : Sto} {H : Hp} {p : Addr} {o : HO} (ok : Ok K W S H) (h : H p = none) : Ok K W S (upd H p o) :=
  ⟨fun b x e => by rw [upd_ne (ne_of_none (ok.vis _ _ e) h)]; exact ok.vis _ _ e, fun a m e => by
    obtain ⟨x, e1, e2⟩ := ok.sto _ _ e
    exact ⟨x, by rw [upd_ne (ne_of_none e1 h)]; exact e1, e2⟩, ok.sep⟩
theorem isIns_rep {K : PySem.W.Frag} {W : Hp} {S : Sto} {H : Hp} {C : Addr} {N : List Str} {d : D} {v : V} (ok : Ok K W S H) (r : Rep K W d v) (h : isIns C N S d) {m : Str} (hm : m ∉ N) : ∃ a dx fs, v = .ref a ∧ H a = some (.ins C dx fs) ∧ fs.lookup m = none := by
  cases d with
  | ref a =>
    have h' : (match S a with | some (.ins C' N' _) => C' = C ∧ N' = N | _ => False) := h
    cases q : S a with
    | none => rw [q] at h'; exact h'.elim
    | some mo =>
      rw [q] at h'
      cases mo with
      | ins C' N' xs =>
        obtain ⟨e1, e2⟩ := h'
        subst e1 e2
        obtain ⟨o, e3, dx, gs, e4, fr⟩ := ok.sto _ _ q
        subst e4
        exact ⟨a, dx, gs, r, e3, fr.out m hm⟩
      | _ => exact h'.elim
  | obj C' N' xs =>
    obtain ⟨e1, e2⟩ := h
    subst e1 e2
    obtain ⟨a, dx, gs, vs, e1, e2, _, e4, _⟩ := r
    exact ⟨a, dx, gs, e1, ok.vis _ _ e2, e4 m hm⟩
  | _ => exact h.elim
section
variable {X : Cx} {k : Nat} {f C : Addr} {fd : FuncData} {ps : List Str} {spec : Ctr} {x m : Str} {p pos apos : Pos} {e o : Expr} {es : List Expr} {wo : WPe} {wa : WPa}
theorem call_go {Wx : WX} {σ : L2.St} {H : Hp} {Q : VK} {K : PySem.W.Frag} (h : lE K Wx (wCall spec wa) σ H Q) : tCallS (lSp K spec) (WE Wx) (lA K Wx wa) σ H Q := by
  obtain ⟨W, env, S, Q0, X1, ok, sl, hw, cv, cx⟩ := h
  exact ⟨W, env, S, _, X1, ok, sl, hw, fun ds S1 vs W1 H1 h1 s1 ok1 r1 => ⟨W1, S1, ds, Q0, X1, ok1, r1, h1, cv.mono s1, cx.mono s1⟩, cx⟩
theorem pd_call (F : FnD X.prog X.w X.K X.mg X.base k f fd ps spec) (hr : Room k X.A) (hm : X.mg x = some (.ref f)) (hk : PySem.W.keepIn X.K (.ref f) = true) (hb : Binds X.K fd ps [])
    (ha : PDa X (e :: es) wa) (hg : Gl X x := by rfl) (hdb : (x == ("__debug__" : Str)) = false := by decide) (he : starEach (e :: es) X.env = (false, eval e X.env) :: starEach es X.env := by rfl) (hpl : (backTo pos (starEach es X.env)).any (·.1) = false := by rfl) :
    PD X (.Call (.Name x p) (e :: es) [] pos) (wCall spec wa) :=
  ⟨fun Wx tk => PE.imp (pe_callS F hr hg hm hk hb (fun σ => passAt tk σ) (ha.run Wx tk) hdb he hpl) fun _ _ _ h => call_go h⟩
theorem pd_call0 (F : FnD X.prog X.w X.K X.mg X.base k f fd ps spec) (hr : Room k X.A) (hm : X.mg x = some (.ref f)) (hk : PySem.W.keepIn X.K (.ref f) = true) (hb : Binds X.K fd ps [])
    (hg : Gl X x := by rfl) (hdb : (x == ("__debug__" : Str)) = false := by decide) : PD X (.Call (.Name x p) [] [] pos) (wCall spec wNil) :=
  ⟨fun Wx tk => PE.imp (pe_call0S F hr hg hm hk hb (fun σ => passAt tk σ) hdb) fun σ H Q h => by
    obtain ⟨W, env, S, Q0, X1, ok, sl, hw, cv, cx⟩ := h
    exact ⟨W, S, [], Q0, X1, ok, rfl, hw, cv, cx⟩⟩
theorem pd_meth {N : List Str} {pl : Sem Bool} (c : Cls X.K C) (hm : Meth X.K C m f) (hN : m ∉ N) (F : FnD X.prog X.w X.K X.mg X.base k f fd ps spec) (hr : Room k X.A) (hb : Binds X.K fd ps []) (ho : PD X o wo) (ha : PDa X (e :: es) wa)
    (hst : starEach (e :: es) X.env = (false, eval e X.env) :: starEach es X.env := by rfl) (hpl : (backTo pos (starEach es X.env)).any (·.1) = false := by rfl)
    (ht : eval (.Call (.Attribute o m apos) (e :: es) [] pos) X.env = (do
      let ov ← eval o X.env
      standAt apos.atName
      let (f, first) ← holding [ov] (getMethod ov m pl)
      callWith pos f first (backTo pos (starEach (e :: es) X.env)) (backToKw pos (keywordEach [] X.env))) := by rfl) : PD X (.Call (.Attribute o m apos) (e :: es) [] pos) (wMeth C N spec wo wa) :=
  ⟨fun Wx tk => PE.imp (pe_methS (E := WE Wx) (ho.run Wx tk) c hm F hr hb (fun σ => passAt tk σ) (ha.run Wx tk) hst hpl ht) fun σ H Q ⟨W, env, S, Q0, X1, ok, sl, hw, cv, cx⟩ => ⟨W, env, S, _, X1, ok, sl, hw, fun d S1 v W1 H1 ⟨hi, h1⟩ s1 ok1 r1 => by
    obtain ⟨a, dx, fs, e1, e2, e3⟩ := isIns_rep ok1 r1 hi hN
    exact ⟨a, dx, fs, e1, e2, e3, W1, env, S1, _, X1, ok1, sl.mono s1.vis, h1, fun ds S2 vs W2 H2 h2 s2 ok2 r2 => ⟨W2, S2, d :: ds, Q0, X1, ok2, ⟨v, vs, rfl, r1.mono s2.vis, r2⟩, h2, cv.mono (s1.trans s2), cx.mono (s1.trans s2)⟩, cx.mono s1⟩, cx⟩⟩
theorem pd_meth0 {N : List Str} {pl : Sem Bool} (c : Cls X.K C) (hm : Meth X.K C m f) (hN : m ∉ N) (F : FnD X.prog X.w X.K X.mg X.base k f fd ps spec) (hr : Room k X.A) (hb : Binds X.K fd ps []) (ho : PD X o wo)
    (ht : eval (.Call (.Attribute o m apos) [] [] pos) X.env = (do
      let ov ← eval o X.env
      standAt apos.atName
      let (f, first) ← holding [ov] (getMethod ov m pl)
      callWith pos f first (backTo pos (starEach [] X.env)) (backToKw pos (keywordEach [] X.env))) := by rfl) : PD X (.Call (.Attribute o m apos) [] [] pos) (wMeth C N spec wo wNil) :=
  ⟨fun Wx tk => PE.imp (pe_meth0S (E := WE Wx) (ho.run Wx tk) c hm F hr hb (fun σ => passAt tk σ) ht) fun σ H Q ⟨W, env, S, Q0, X1, ok, sl, hw, cv, cx⟩ => ⟨W, env, S, _, X1, ok, sl, hw, fun d S1 v W1 H1 ⟨hi, h1⟩ s1 ok1 r1 => by
    obtain ⟨a, dx, fs, e1, e2, e3⟩ := isIns_rep ok1 r1 hi hN
    exact ⟨a, dx, fs, e1, e2, e3, W1, S1, [d], Q0, X1, ok1, ⟨v, [], rfl, r1, rfl⟩, h1, cv.mono s1, cx.mono s1⟩, cx⟩⟩
theorem pd_make {N : List Str} (M : Mk X.K C f) (hN : N.Nodup) (hl : N.length ≤ 900) (F : FnD X.prog X.w X.K X.mg X.base k f fd ps spec) (hr : Room (k + 1) X.A) (hm : X.mg x = some (.ref C)) (hb : Binds X.K fd ps [])
    (ha : PDa X (e :: es) wa) (hg : Gl X x := by rfl) (hdb : (x == ("__debug__" : Str)) = false := by decide) (he : starEach (e :: es) X.env = (false, eval e X.env) :: starEach es X.env := by rfl) (hpl : (backTo pos (starEach es X.env)).any (·.1) = false := by rfl) :
    PD X (.Call (.Name x p) (e :: es) [] pos) (wMake C N spec wa) :=
  ⟨fun Wx tk => PE.imp (pe_makeS (E := WE Wx) M F hr hg hm hb (fun σ => passAt tk σ) (ha.run Wx tk) hdb he hpl) fun σ H Q ⟨W, env, S, Q0, X1, ok, sl, hw, cv, cx⟩ => ⟨W, env, S, _, X1, ok, sl, hw, fun ds S1 vs W1 H1 h1 s1 ok1 r1 y dy hy hdy hne => by
    have hy2 : (upd H1 dy (HO.own y)) y = none := by rw [upd_ne (Ne.symm hne)]; exact hy
    have ok2 := (ok1.junk (o := .own y) hdy).newS (m := .ins C N (noneV N)) (o := .ins C dy []) hy2 ⟨dy, [], rfl, frep_new hN hl⟩
    have st := (ok1.stJ (o := .own y) hdy).trans (Ok.stS (m := .ins C N (noneV N)) (o := .ins C dy []) (ok1.junk (o := .own y) hdy) hy2)
    exact ⟨W1, _, .ref y :: ds, _, X1, ok2, ⟨_, _, rfl, rfl, r1⟩, h1 y (ok1.fresh hy).2, fun d S2 v W2 H2 ⟨hd, h2⟩ s2 ok3 r2 => by
      subst hd
      exact ⟨r2, cv _ S2 _ W2 H2 h2 (s1.trans (st.trans s2)) ok3 rfl⟩, cx.mono (s1.trans st)⟩, cx⟩⟩
end

/-! ### a mutable object as data from now on; a mutable list lent as data -/
def allV : DE → Option (List D)
  | [] => some []
  | none :: _ => none
  | some d :: r => (allV r).map (d :: ·)
def frzD (S : Sto) (d : D) (Q : Qd) : Prop := match d with
  | .ref a => match S a with
    | some (.lst xs) => Q (.lst xs) (del S a)
    | some (.ins C N xs) => some! (allV xs) fun ys => Q (.obj C N ys) (del S a)
    | _ => False
  | _ => Q d S
def wFrz (w : WPe) : WPe := fun env S Q X => w env S (fun d S1 => frzD S1 d Q) X
theorem allV_get : ∀ {xs : DE} {ys : List D}, allV xs = some ys → ys.length = xs.length ∧ ∀ i, getV xs i = ys[i]?
  | [], ys, h => by
    cases h
    exact ⟨rfl, fun i => by simp [getV]⟩
  | none :: _, ys, h => by cases h
  | some d :: r, ys, h => by
    have h' : (allV r).map (d :: ·) = some ys := h
    cases q : allV r with
    | none => rw [q] at h'; cases h'
    | some zs =>
      rw [q] at h'
      cases h'
      obtain ⟨a, b⟩ := allV_get q
      refine ⟨congrArg (· + 1) a, fun i => ?_⟩
      cases i with
      | zero => rfl
      | succ i => exact b i
theorem reps_of_get {K : PySem.W.Frag} {W : Hp} : ∀ {ys : List D} {g : Nat → Option V}, (∀ i d, ys[i]? = some d → ∃ v, g i = some v ∧ Rep K W d v) → (∀ i, ys.length ≤ i → g i = none) → ∃ vs : List V, Reps K W ys vs ∧ ∀ i, g i = vs[i]?
  | [], g, _, h2 => ⟨[], rfl, fun i => by rw [h2 i (Nat.zero_le _)]; simp⟩
  | d :: r, g, h1, h2 => by
    obtain ⟨v, e, rv⟩ := h1 0 d rfl
    obtain ⟨vs, rr, q⟩ := reps_of_get (ys := r) (g := fun i => g (i + 1)) (fun i d h => h1 (i + 1) d h) (fun i h => h2 (i + 1) (Nat.succ_le_succ h))
    refine ⟨v :: vs, ⟨v, vs, rfl, rv, rr⟩, fun i => ?_⟩
    cases i with
    | zero => exact e
    | succ i => exact q i
theorem frz_go {K : PySem.W.Frag} {W : Hp} {S : Sto} {H : Hp} {d : D} {v : V} {Q0 : Qd} {Q : VK} (ok : Ok K W S H) (r : Rep K W d v) (h : frzD S d Q0) (cv : CV K W S H Q0 Q) : Q v H := by
  cases d with
  | ref a =>
    have r' : v = .ref a := r
    subst r'
    cases q : S a with
    | none => unfold frzD at h; simp only [q] at h
    | some mo =>
      obtain ⟨o, e1, e2⟩ := ok.sto _ _ q
      have hW := ok.sep _ _ q
      cases mo with
      | lst xs =>
        unfold frzD at h
        simp only [q] at h
        obtain ⟨vs, e3, e4⟩ := e2
        subst e3
        exact cv _ _ _ _ _ h (ok.stF q) (ok.frz q e1) ⟨a, vs, rfl, upd_same, e4.mono (same_new hW)⟩
      | ins C N xs =>
        unfold frzD at h
        simp only [q] at h
        obtain ⟨ys, e5, h⟩ := some!_ex h
        obtain ⟨dx, gs, e3, fr⟩ := e2
        subst e3
        obtain ⟨l1, g1⟩ := allV_get e5
        have hlen : N.length = ys.length := by rw [l1, fr.len]
        obtain ⟨vs, rv, gv⟩ := reps_of_get (K := K) (W := W) (ys := ys) (g := fun i => (N[i]?).bind fun f => gs.lookup f) (fun i d hd => by
          have hi : i < N.length := by rw [hlen]; exact lt_of_some hd
          obtain ⟨v, c, rr⟩ := fr.is i N[i] d (List.getElem?_eq_getElem hi) (by rw [g1]; exact hd)
          exact ⟨v, by rw [List.getElem?_eq_getElem hi]; exact c, rr⟩) (fun i hi => by
          rw [List.getElem?_eq_none (by omega)]; rfl)
        refine cv _ _ _ _ _ h (ok.stF q) (ok.frz q e1) ⟨a, dx, gs, vs, rfl, upd_same, fun i f hf => ?_, fr.out, rv.mono (same_new hW)⟩
        rw [← gv i]
        show _ = (N[i]?).bind _
        rw [hf]; rfl
      | _ =>
        unfold frzD at h
        simp only [q] at h
  | _ => exact cv _ _ _ _ _ h Stp.refl ok r
section
variable {X : Cx} {e : Expr} {w : WPe}
theorem pd_frz (h : PD X e w) : PD X e (wFrz w) := ⟨fun Wx tk => PE.imp (h.run Wx tk) fun σ H Q ⟨W, env, S, Q0, X1, ok, sl, hw, cv, cx⟩ => ⟨W, env, S, _, X1, ok, sl, hw, fun d S1 v W1 H1 h1 s1 ok1 r1 => frz_go ok1 r1 h1 (cv.mono s1), cx⟩⟩
end
end DL
set_option Elab.async false
set_option linter.all false
set_option maxRecDepth 100000
set_option maxHeartbeats 2000000
/-! The data layer, part d: operations of values. -/
namespace DL
open PySem PySem.Spec PyProof.Rows L2

/-! ### lists and tuples, however held -/
def seqM (S : Sto) (d : D) : Option (List D) := match d with
  | .lst xs => some xs
  | .ref a => match S a with
    | some (.lst xs) => some xs
    | _ => none
  | _ => none
def seqL (S : Sto) (d : D) : Option (List D) := match d with
  | .fro xs => some xs
  | d => seqM S d
/-- a list or a tuple -/
def seqA (S : Sto) (d : D) : Option (List D) := match d with
  | .tup xs => some xs
  | d => seqL S d
section
variable {K : PySem.W.Frag} {W : Hp} {S : Sto} {H : Hp} {d : D} {v : V} {xs : List D}
theorem seqM_rep (ok : Ok K W S H) (r : Rep K W d v) (h : seqM S d = some xs) : ∃ a vs, v = .ref a ∧ H a = some (.lst vs) ∧ Reps K W xs vs := by
  cases d with
  | lst ys =>
    cases h
    obtain ⟨a, vs, e1, e2, e3⟩ := r
    exact ⟨a, vs, e1, ok.vis _ _ e2, e3⟩
  | ref a =>
    have h' : (match S a with | some (.lst xs) => some xs | _ => none) = some xs := h
    cases q : S a with
    | none => rw [q] at h'; cases h'
    | some m =>
      rw [q] at h'
      cases m with
      | lst ys =>
        cases h'
        obtain ⟨o, e1, vs, e2, e3⟩ := ok.sto _ _ q
        subst e2
        exact ⟨a, vs, r, e1, e3⟩
      | _ => cases h'
  | _ => cases h
theorem seqL_rep (ok : Ok K W S H) (r : Rep K W d v) (h : seqL S d = some xs) : ∃ a vs, v = .ref a ∧ SqL K H a vs ∧ Reps K W xs vs := by
  cases d with
  | fro ys =>
    cases h
    obtain ⟨a, vs, e1, e2, e3⟩ := r
    exact ⟨a, vs, e1, sqL_mono ok.vis e2, e3⟩
  | lst ys =>
    obtain ⟨a, vs, e1, e2, e3⟩ := seqM_rep ok r h
    exact ⟨a, vs, e1, SqL.of e2, e3⟩
  | ref a =>
    obtain ⟨a, vs, e1, e2, e3⟩ := seqM_rep ok r h
    exact ⟨a, vs, e1, SqL.of e2, e3⟩
  | _ => cases h
theorem seqA_rep (ok : Ok K W S H) (r : Rep K W d v) (h : seqA S d = some xs) : ∃ a vs, v = .ref a ∧ (SqL K H a vs ∨ SqT K H a vs) ∧ Reps K W xs vs := by
  cases d with
  | tup ys =>
    cases h
    obtain ⟨a, vs, e1, e2, e3⟩ := r
    exact ⟨a, vs, e1, .inr (sqT_mono ok.vis e2), e3⟩
  | fro ys =>
    obtain ⟨a, vs, e1, e2, e3⟩ := seqL_rep ok r h
    exact ⟨a, vs, e1, .inl e2, e3⟩
  | lst ys =>
    obtain ⟨a, vs, e1, e2, e3⟩ := seqL_rep ok r h
    exact ⟨a, vs, e1, .inl e2, e3⟩
  | ref a =>
    obtain ⟨a, vs, e1, e2, e3⟩ := seqL_rep ok r h
    exact ⟨a, vs, e1, .inl e2, e3⟩
  | _ => cases h
theorem seqM_put {p : Addr} {m : MO} (h : seqM S d = some xs) (hp : S p = none) : seqM (put S p m) d = some xs := by
  cases d with
  | ref a =>
    have h' : (match S a with | some (.lst xs) => some xs | _ => none) = some xs := h
    have ne : a ≠ p := fun e => by subst e; rw [hp] at h'; cases h'
    show (match put S p m a with | some (.lst xs) => some xs | _ => none) = some xs
    rw [put_ne ne]; exact h'
  | _ => exact h
theorem seqL_put {p : Addr} {m : MO} (h : seqL S d = some xs) (hp : S p = none) : seqL (put S p m) d = some xs := by
  cases d with
  | fro ys => exact h
  | ref a => exact seqM_put (d := .ref a) h hp
  | lst ys => exact h
  | _ => cases h
theorem seqA_put {p : Addr} {m : MO} (h : seqA S d = some xs) (hp : S p = none) : seqA (put S p m) d = some xs := by
  cases d with
  | tup ys => exact h
  | fro ys => exact h
  | ref a => exact seqM_put (d := .ref a) h hp
  | lst ys => exact h
  | _ => cases h
/-- a change at p, which is not this list -/
theorem seqA_chg {p : Addr} {m : MO} (h : seqA S d = some xs) (hp : ∀ a, d = .ref a → a ≠ p) : seqA (put S p m) d = some xs := by
  cases d with
  | ref a =>
    have h' : (match S a with | some (.lst xs) => some xs | _ => none) = some xs := h
    show (match put S p m a with | some (.lst xs) => some xs | _ => none) = some xs
    rw [put_ne (hp a rfl)]; exact h'
  | _ => exact h
theorem vals_le {P : Program} {w : World} {h : Heap} {a : Addr} {vs : List V} (hok : HOk P w H h) (e : H a = some (.lst vs)) : vs.length ≤ sizeLine := (hok a _ e).1
end

/-! ### ints in data -/
def toInts : List D → Option (List Int)
  | [] => some []
  | .int i :: r => (toInts r).map (i :: ·)
  | _ :: _ => none
theorem toInts_map : ∀ ns : List Int, toInts (ns.map D.int) = some ns
  | [] => rfl
  | i :: r => by
    show (toInts (r.map D.int)).map (i :: ·) = some (i :: r)
    rw [toInts_map r]; rfl
theorem toInts_rep {K : PySem.W.Frag} {W : Hp} : ∀ {xs : List D} {ns : List Int} {vs : List V}, toInts xs = some ns → Reps K W xs vs → vs = ns.map V.int
  | [], ns, vs, h, r => by
    cases h
    exact r
  | .int i :: xs, ns, vs, h, ⟨v, q, e1, e2, e3⟩ => by
    have h' : (toInts xs).map (i :: ·) = some ns := h
    cases z : toInts xs with
    | none => rw [z] at h'; cases h'
    | some ms =>
      rw [z] at h'
      cases h'
      subst e1
      have e2' : v = .int i := e2
      rw [toInts_rep z e3, e2']; rfl
  | .non :: _, _, _, h, _ => by cases h
  | .bl _ :: _, _, _, h, _ => by cases h
  | .str _ :: _, _, _, h, _ => by cases h
  | .ref _ :: _, _, _, h, _ => by cases h
  | .lst _ :: _, _, _, h, _ => by cases h
  | .tup _ :: _, _, _, h, _ => by cases h
  | .fro _ :: _, _, _, h, _ => by cases h
  | .obj _ _ _ :: _, _, _, h, _ => by cases h
  | .exc _ _ _ _ _ :: _, _, _, h, _ => by cases h
def toBls : List D → Option (List Bool)
  | [] => some []
  | .bl i :: r => (toBls r).map (i :: ·)
  | _ :: _ => none
theorem toBls_map : ∀ ns : List Bool, toBls (ns.map D.bl) = some ns
  | [] => rfl
  | i :: r => by
    show (toBls (r.map D.bl)).map (i :: ·) = some (i :: r)
    rw [toBls_map r]; rfl
theorem toBls_rep {K : PySem.W.Frag} {W : Hp} : ∀ {xs : List D} {ns : List Bool} {vs : List V}, toBls xs = some ns → Reps K W xs vs → vs = ns.map V.bl
  | [], ns, vs, h, r => by
    cases h
    exact r
  | .bl i :: xs, ns, vs, h, ⟨v, q, e1, e2, e3⟩ => by
    have h' : (toBls xs).map (i :: ·) = some ns := h
    cases z : toBls xs with
    | none => rw [z] at h'; cases h'
    | some ms =>
      rw [z] at h'
      cases h'
      subst e1
      have e2' : v = .bl i := e2
      rw [toBls_rep z e3, e2']; rfl
  | .non :: _, _, _, h, _ => by cases h
  | .int _ :: _, _, _, h, _ => by cases h
  | .str _ :: _, _, _, h, _ => by cases h
  | .ref _ :: _, _, _, h, _ => by cases h
  | .lst _ :: _, _, _, h, _ => by cases h
  | .tup _ :: _, _, _, h, _ => by cases h
  | .fro _ :: _, _, _, h, _ => by cases h
  | .obj _ _ _ :: _, _, _, h, _ => by cases h
  | .exc _ _ _ _ _ :: _, _, _, h, _ => by cases h

/-! ### operators on ints -/
section
variable {X : Cx}
def oI (C : Int → Int → Prop) (g : Int → Int → D) : O2 := fun S x y Q => match x, y with
  | .int i, .int j => C i j ∧ Q (g i j) S
  | _, _ => False
def oI0 (g : Int → Int → D) : O2 := fun S x y Q => match x, y with
  | .int i, .int j => Q (g i j) S
  | _, _ => False
theorem OpR.imp {f : Value → Value → Sem Value} {r r' : R2} (h : OpR X f r) (i : ∀ x y H Q, r' x y H Q → r x y H Q) : OpR X f r' := fun pins s σ H x y v u Q I rx ry q => h pins s σ H x y v u Q I rx ry (i _ _ _ _ q)
theorem opI_of {f : Value → Value → Sem Value} {C : Int → Int → Prop} {g : Int → Int → D} {gv : Int → Int → V} (h : OpR X f (rI C gv)) (r : ∀ i j W, Rep X.K W (g i j) (gv i j)) : OpR X f (lOp X.K (oI C g)) :=
  OpR.imp h fun x y H Q ⟨W, S, a, b, Q0, ok, ra, rb, ho, cv⟩ => by
    cases a with
    | int i =>
      cases b with
      | int j => exact ⟨i, j, ra, rb, ho.1, cv _ S _ W H ho.2 Stp.refl ok (r i j W)⟩
      | _ => exact ho.elim
    | _ => exact ho.elim
theorem opI0_of {f : Value → Value → Sem Value} {g : Int → Int → D} {gv : Int → Int → V} (h : OpR X f (rI0 gv)) (r : ∀ i j W, Rep X.K W (g i j) (gv i j)) : OpR X f (lOp X.K (oI0 g)) :=
  OpR.imp h fun x y H Q ⟨W, S, a, b, Q0, ok, ra, rb, ho, cv⟩ => by
    cases a with
    | int i =>
      cases b with
      | int j => exact ⟨i, j, ra, rb, cv _ S _ W H ho Stp.refl ok (r i j W)⟩
      | _ => exact ho.elim
    | _ => exact ho.elim
abbrev oSub : O2 := oI0 fun i j => .int (i - j)
abbrev oMul : O2 := oI CMulW fun i j => .int (i * j)
abbrev oDiv : O2 := oI CDivW fun i j => .int (i / j)
abbrev oMod : O2 := oI (fun _ j => 0 < j) fun i j => .int (i % j)
abbrev oPow : O2 := oI CPow fun i j => .int (i ^ j.toNat)
abbrev oLt : O2 := oI0 fun i j => .bl (decide (i < j))
abbrev oLe : O2 := oI0 fun i j => .bl (decide (i ≤ j))
abbrev oGt : O2 := oI0 fun i j => .bl (decide (j < i))
abbrev oGe : O2 := oI0 fun i j => .bl (decide (j ≤ i))
theorem opd_sub : OpR X (binaryOp .Sub) (lOp X.K oSub) := opI0_of op_sub fun _ _ _ => rfl
theorem opd_mul : OpR X (binaryOp .Mult) (lOp X.K oMul) := opI_of op_mulW fun _ _ _ => rfl
theorem opd_div : OpR X (binaryOp .FloorDiv) (lOp X.K oDiv) := opI_of op_fdivW fun _ _ _ => rfl
theorem opd_mod : OpR X (binaryOp .Mod) (lOp X.K oMod) := opI_of op_mod fun _ _ _ => rfl
theorem opd_pow : OpR X (binaryOp .Pow) (lOp X.K oPow) := opI_of op_pow fun _ _ _ => rfl
theorem opd_lt : OpR X (compareOp .Lt) (lOp X.K oLt) := opI0_of op_lt fun _ _ _ => rfl
theorem opd_le : OpR X (compareOp .LtE) (lOp X.K oLe) := opI0_of op_le fun _ _ _ => rfl
theorem opd_gt : OpR X (compareOp .Gt) (lOp X.K oGt) := opI0_of op_gt fun _ _ _ => rfl
theorem opd_ge : OpR X (compareOp .GtE) (lOp X.K oGe) := opI0_of op_ge fun _ _ _ => rfl
theorem iopd_add : OpR X (inplaceOp .Add) (lOp X.K (oI0 fun i j => .int (i + j))) := opI0_of iop_add fun _ _ _ => rfl
theorem iopd_sub : OpR X (inplaceOp .Sub) (lOp X.K oSub) := opI0_of iop_sub fun _ _ _ => rfl
/-- -i -/
def oNeg : O1 := fun S x Q => match x with
  | .int i => Q (.int (-i)) S
  | _ => False
theorem und_neg : UnR X (unaryOp .USub) (lU X.K oNeg) := fun pins s σ H x v Q I rx h => by
  obtain ⟨W, S, a, Q0, ok, ra, ho, cv⟩ := h
  cases a with
  | int i => exact un_neg pins s σ H x v Q I rx ⟨i, ra, cv _ S _ W H ho Stp.refl ok rfl⟩
  | _ => exact ho.elim

/-! ### + of ints, texts, lists, tuples -/
def oCatL : O2 := fun S x y Q => some! (seqM S x) fun xs => some! (seqM S y) fun ys => xs.length + ys.length ≤ sizeLine ∧ Q (.lst (xs ++ ys)) S
def oAdd : O2 := fun S x y Q => match x, y with
  | .int i, .int j => Q (.int (i + j)) S
  | .str a, .str b => a.length + b.length ≤ sizeLine ∧ Q (.str (a ++ b)) S
  | .tup xs, .tup ys => xs.length + ys.length ≤ sizeLine ∧ Q (.tup (xs ++ ys)) S
  | x, y => oCatL S x y Q
theorem opd_add : OpR X (binaryOp .Add) (lOp X.K oAdd) := fun pins s σ H x y v u Q I rx ry h => by
  obtain ⟨W, S, a, b, Q0, ok, ra, rb, ho, cv⟩ := h
  have catL : oCatL S a b Q0 → wpAny (model X.prog X.w) X.A (binaryOp .Add v u) (EP X pins σ Q) X.xe s := fun z => by
    obtain ⟨xs, e1, z⟩ := some!_ex z
    obtain ⟨ys, e2, hz, z⟩ := some!_ex z
    obtain ⟨p, vs, rfl, hp, r1⟩ := seqM_rep ok ra e1
    obtain ⟨q, ws, rfl, hq, r2⟩ := seqM_rep ok rb e2
    refine op_cat pins s σ H _ _ v u Q I rx ry ⟨p, q, vs, ws, rfl, rfl, hp, hq, by rw [r1.length, r2.length]; exact hz, fun o no => ?_⟩
    have n := ok.fresh no
    exact cv _ S _ _ _ z (ok.stW no) (ok.newW no) ⟨o, _, rfl, upd_same, (r1.append r2).mono (same_new n.1)⟩
  cases a with
  | int i =>
    cases b with
    | int j => exact op_add pins s σ H _ _ v u Q I rx ry ⟨i, j, ra, rb, cv _ S _ W H ho Stp.refl ok rfl⟩
    | _ => exact catL ho
  | str i =>
    cases b with
    | str j => exact op_add_str pins s σ H _ _ v u Q I rx ry ⟨i, j, ra, rb, ho.1, cv _ S _ W H ho.2 Stp.refl ok rfl⟩
    | _ => exact catL ho
  | tup xs =>
    cases b with
    | tup ys =>
      obtain ⟨p, vs, rfl, hp, r1⟩ := id ra
      obtain ⟨q, ws, rfl, hq, r2⟩ := id rb
      have hp' := sqT_mono ok.vis hp
      have hq' := sqT_mono ok.vis hq
      refine op_catA pins s σ H _ _ v u Q I rx ry ⟨p, q, vs, ws, rfl, rfl, hp', hq', by rw [r1.length, r2.length]; exact ho.1, fun z => ?_, fun z1 z2 => ?_, fun z1 z2 o no => ?_⟩
      · subst z
        have e : xs = [] := List.eq_nil_of_length_eq_zero (by rw [← r1.length]; rfl)
        subst e
        exact cv _ S _ W H ho.2 Stp.refl ok ⟨q, ws, rfl, hq, r2⟩
      · subst z2
        have e : ys = [] := List.eq_nil_of_length_eq_zero (by rw [← r2.length]; rfl)
        subst e
        refine cv _ S _ W H ho.2 Stp.refl ok ⟨p, vs, rfl, hp, ?_⟩
        rw [List.append_nil]; exact r1
      · have n := ok.fresh no
        exact cv _ S _ _ _ ho.2 (ok.stW no) (ok.newW no) ⟨o, _, rfl, SqT.of upd_same, (r1.append r2).mono (same_new n.1)⟩
    | _ => exact catL ho
  | _ => exact catL ho

/-! ### == and != of data -/
mutual
def toP : D → PyData
  | .non => .none
  | .bl b => .bool b
  | .int i => .int i
  | .str x => .str x
  | .lst xs => .list (toPs xs)
  | .fro xs => .list (toPs xs)
  | .tup xs => .tuple (toPs xs)
  | .ref _ => .dict []
  | .obj _ _ _ => .dict []
  | .exc _ _ _ _ _ => .dict []
def toPs : List D → List PyData
  | [] => []
  | d :: r => toP d :: toPs r
end
mutual
theorem dp_of {K : PySem.W.Frag} {W H : Hp} (e : Same W H) : ∀ {d : D} {v : V}, Rep K W d v → (toP d).canLay0 = true → Dp K H v (toP d)
  | .non, _, h, _ => by rw [show _ = V.non from h]; exact .non
  | .bl b, _, h, _ => by rw [show _ = V.bl b from h]; exact .bl b
  | .int i, _, h, _ => by rw [show _ = V.int i from h]; exact .int i
  | .str x, _, h, _ => by rw [show _ = V.str x from h]; exact .str x
  | .lst xs, _, ⟨a, vs, e1, e2, e3⟩, c => by subst e1; exact .lst (SqL.of (e _ _ e2)) (dps_of e e3 c)
  | .fro xs, _, ⟨a, vs, e1, e2, e3⟩, c => by subst e1; exact .lst (sqL_mono e e2) (dps_of e e3 c)
  | .tup xs, _, ⟨a, vs, e1, e2, e3⟩, c => by subst e1; exact .tup (sqT_mono e e2) (dps_of e e3 c)
  | .ref _, _, _, c => by cases c
  | .obj _ _ _, _, _, c => by cases c
  | .exc _ _ _ _ _, _, _, c => by cases c
theorem dps_of {K : PySem.W.Frag} {W H : Hp} (e : Same W H) : ∀ {d : List D} {v : List V}, Reps K W d v → PyData.canLayAll0 (toPs d) = true → DpAll K H v (toPs d)
  | [], _, h, _ => by rw [show _ = ([] : List V) from h]; exact .nil
  | d :: ds, _, ⟨v, r, e1, e2, e3⟩, c => by
    subst e1
    have c' : ((toP d).canLay0 && PyData.canLayAll0 (toPs ds)) = true := c
    rw [Bool.and_eq_true] at c'
    exact .cons (dp_of e e2 c'.1) (dps_of e e3 c'.2)
end
/-- a mutable list by what it holds -/
def resD (S : Sto) (d : D) : D := match d with
  | .ref a => match S a with
    | some (.lst xs) => .lst xs
    | _ => .ref a
  | _ => d
theorem dp_res {K : PySem.W.Frag} {W H : Hp} {S : Sto} (ok : Ok K W S H) {d : D} {v : V} (r : Rep K W d v) (c : SeqAt.shaped (toP (resD S d)) = true) : Dp K H v (toP (resD S d)) := by
  have c0 := SeqAt.canLay_of_shaped c
  cases d with
  | ref a =>
    have e : resD S (.ref a) = (match S a with | some (.lst xs) => .lst xs | _ => .ref a) := rfl
    cases q : S a with
    | none => rw [e, q] at c0; cases c0
    | some m =>
      cases m with
      | lst xs =>
        rw [e, q] at c0 ⊢
        obtain ⟨o, e1, vs, e2, e3⟩ := ok.sto _ _ q
        subst e2
        have r' : v = .ref a := r
        subst r'
        exact .lst (SqL.of e1) (dps_of ok.vis e3 c0)
      | _ => rw [e, q] at c0; cases c0
  | _ => exact dp_of ok.vis r c0
def eqD (S : Sto) (x y : D) : Bool := PyData.eqv (toP (resD S x)) (toP (resD S y))
def shD (S : Sto) (x : D) : Bool := SeqAt.shaped (toP (resD S x))
def oEq : O2 := fun S x y Q => shD S x = true ∧ shD S y = true ∧ Q (.bl (eqD S x y)) S
def oNe : O2 := fun S x y Q => shD S x = true ∧ shD S y = true ∧ Q (.bl (!eqD S x y)) S
theorem opd_eq (hu : X.A.units + 64 < cLine) : OpR X (compareOp .Eq) (lOp X.K oEq) := OpR.imp (op_eqD hu) fun x y H Q ⟨W, S, a, b, Q0, ok, ra, rb, ho, cv⟩ =>
  ⟨_, _, dp_res ok ra ho.1, dp_res ok rb ho.2.1, ho.1, ho.2.1, cv _ S _ W H ho.2.2 Stp.refl ok rfl⟩
theorem opd_ne (hu : X.A.units + 64 < cLine) : OpR X (compareOp .NotEq) (lOp X.K oNe) := OpR.imp (op_neD hu) fun x y H Q ⟨W, S, a, b, Q0, ok, ra, rb, ho, cv⟩ =>
  ⟨_, _, dp_res ok ra ho.1, dp_res ok rb ho.2.1, ho.1, ho.2.1, cv _ S _ W H ho.2.2 Stp.refl ok rfl⟩
/-- x is None, x is not None -/
def isNon : D → Bool
  | .non => true
  | _ => false
def oIsN : O2 := fun S x y Q => match y with
  | .non => Q (.bl (isNon x)) S
  | _ => False
def oNotN : O2 := fun S x y Q => match y with
  | .non => Q (.bl (!isNon x)) S
  | _ => False
theorem isNon_rep {K : PySem.W.Frag} {W : Hp} {d : D} {v : V} (r : Rep K W d v) : decide (v = .non) = isNon d := by
  cases d with
  | non => rw [show v = V.non from r]; rfl
  | bl b => rw [show v = V.bl b from r]; rfl
  | int b => rw [show v = V.int b from r]; rfl
  | str b => rw [show v = V.str b from r]; rfl
  | ref b => rw [show v = V.ref b from r]; rfl
  | lst xs => obtain ⟨a, vs, e1, _⟩ := r; rw [e1]; rfl
  | fro xs => obtain ⟨a, vs, e1, _⟩ := r; rw [e1]; rfl
  | tup xs => obtain ⟨a, vs, e1, _⟩ := r; rw [e1]; rfl
  | obj C N xs => obtain ⟨a, dx, gs, vs, e1, _⟩ := r; rw [e1]; rfl
  | exc a dd C f x => rw [show v = V.ref a from r.1]; rfl
theorem opd_isN : OpR X (compareOp .Is) (lOp X.K oIsN) := OpR.imp op_isN fun x y H Q ⟨W, S, a, b, Q0, ok, ra, rb, ho, cv⟩ => by
  cases b with
  | non => exact ⟨rb, by rw [isNon_rep ra]; exact cv _ S _ W H ho Stp.refl ok rfl⟩
  | _ => exact ho.elim
theorem opd_notN : OpR X (compareOp .IsNot) (lOp X.K oNotN) := OpR.imp op_notN fun x y H Q ⟨W, S, a, b, Q0, ok, ra, rb, ho, cv⟩ => by
  cases b with
  | non => exact ⟨rb, by rw [isNon_rep ra]; exact cv _ S _ W H ho Stp.refl ok rfl⟩
  | _ => exact ho.elim

/-! ### items, slices -/
def oIx : O2 := fun S x y Q => match y with
  | .int i => some! (seqA S x) fun xs => some! (atI xs i) fun d => Q d S
  | _ => False
theorem reps_at {K : PySem.W.Frag} {W : Hp} {xs : List D} {vs : List V} {i : Int} {d : D} (r : Reps K W xs vs) (h : atI xs i = some d) : ∃ v, atI vs i = some v ∧ Rep K W d v := by
  unfold atI at h ⊢
  rw [r.length]
  cases q : ixN xs.length i with
  | none => rw [q] at h; cases h
  | some j =>
    rw [q] at h
    obtain ⟨v, e, rv⟩ := r.get (i := j) (d := d) h
    exact ⟨v, e, rv⟩
theorem IxR.imp {r r' : R2} (h : IxR X r) (i : ∀ x y H Q, r' x y H Q → r x y H Q) : IxR X r' := fun va sl pins s σ H x y v u Q I rx ry q hs => h va sl pins s σ H x y v u Q I rx ry (i _ _ _ _ q) hs
theorem ixd : IxR X (lOp X.K oIx) := IxR.imp (ix_list.or ix_tup) fun x y H Q ⟨W, S, a, b, Q0, ok, ra, rb, ho, cv⟩ => by
  cases b with
  | int i =>
    obtain ⟨xs, e1, ho⟩ := some!_ex ho
    obtain ⟨d, e2, ho⟩ := some!_ex ho
    obtain ⟨p, vs, rfl, hq, r1⟩ := seqA_rep ok ra e1
    obtain ⟨v, e3, rv⟩ := reps_at r1 e2
    rcases hq with hq | hq
    · exact .inl ⟨p, vs, i, v, rfl, rb, hq, e3, cv d S v W H ho Stp.refl ok rv⟩
    · exact .inr ⟨p, vs, i, v, rfl, rb, hq, e3, cv d S v W H ho Stp.refl ok rv⟩
  | _ => exact ho.elim
def cutD (xs : List D) (lo hi : Option Int) : List D := (xs.drop (HT.sIx xs.length 0 lo)).take (HT.sIx xs.length xs.length hi - HT.sIx xs.length 0 lo)
theorem reps_cut {K : PySem.W.Frag} {W : Hp} {xs : List D} {vs : List V} {lo hi : Option Int} (r : Reps K W xs vs) : Reps K W (cutD xs lo hi) (cutV vs lo hi) := by
  unfold cutD cutV
  rw [r.length]
  exact (r.drop _).take _
/-- a slice: of a list a new list, of a tuple a tuple -/
def oSl (S : Sto) (x : D) (lo hi : Option Int) (Q : Qd) : Prop := match x with
  | .tup xs => Q (.tup (cutD xs lo hi)) S
  | x => some! (seqL S x) fun xs => Q (.lst (cutD xs lo hi)) S
def lSl (K : PySem.W.Frag) : V → Option Int → Option Int → Hp → VK → Prop := fun x lo hi H Q => ∃ W S a Q0, Ok K W S H ∧ Rep K W a x ∧ oSl S a lo hi Q0 ∧ CV K W S H Q0 Q
theorem sld : SlR X (lSl X.K) := by
  intro pins s σ H x v vl vu lo hi sl Q I rx hs pl pu h
  obtain ⟨W, S, a, Q0, ok, ra, ho, cv⟩ := h
  have onL : some! (seqL S a) (fun xs => Q0 (.lst (cutD xs lo hi)) S) → ∃ T id, typeLookup (.type T) "__getitem__" = pure (some (.builtin id)) ∧ s.TypeIs v T ∧ wpAny (model X.prog X.w) X.A (getItem v (.ref sl)) (EP X pins σ Q) X.xe s := fun z => by
    obtain ⟨xs, e1, z⟩ := some!_ex z
    obtain ⟨p, vs, rfl, hp, r1⟩ := seqL_rep ok ra e1
    refine sl_list pins s σ H _ v vl vu lo hi sl Q I rx hs pl pu ⟨p, vs, rfl, hp, fun o no => ?_⟩
    have n := ok.fresh no
    exact cv _ S _ _ _ z (ok.stW no) (ok.newW no) ⟨o, _, rfl, upd_same, (reps_cut r1).mono (same_new n.1)⟩
  cases a with
  | tup xs =>
    obtain ⟨p, vs, rfl, hp, r1⟩ := id ra
    have hp' := sqT_mono ok.vis hp
    refine sl_tupA pins s σ H _ v vl vu lo hi sl Q I rx hs pl pu ⟨p, vs, rfl, hp', fun z => ?_, fun z o no => ?_⟩
    · refine cv _ S _ W H ho Stp.refl ok ⟨p, vs, rfl, hp, ?_⟩
      have e : cutD xs lo hi = xs := by
        unfold cutD
        rw [r1.length] at z
        rw [z.1, z.2, Nat.sub_zero, List.drop_zero, List.take_length]
      rw [e]; exact r1
    · have n := ok.fresh no
      exact cv _ S _ _ _ ho (ok.stW no) (ok.newW no) ⟨o, _, rfl, SqT.of upd_same, (reps_cut r1).mono (same_new n.1)⟩
  | _ => exact onL ho
end
end DL
set_option Elab.async false
set_option linter.all false
set_option maxRecDepth 100000
set_option maxHeartbeats 400000
/-! The data layer, part e: slices' parts, built-in functions. -/
namespace DL
open PySem PySem.Spec PyProof.Rows L2
section
variable {X : Cx}
/-- the parts of a slice -/
abbrev WPo := DE → Sto → (Option Int → Sto → Prop) → XQ → Prop
def lO (K : PySem.W.Frag) (Wx : WX) (w : WPo) : TO := fun σ H Q => ∃ W env S Q0 X0, Ok K W S H ∧ Sl K W env σ ∧ w env S Q0 X0 ∧ (∀ o S' W' H', Q0 o S' → Stp W S H W' S' H' → Ok K W' S' H' → Q o H') ∧ CXc K W S H X0 (fun c d H' => Wx c d σ H')
structure PDo (X : Cx) (e : Option Expr) (w : WPo) : Prop where
  run : ∀ Wx, Takes X Wx → PO X e (lO X.K Wx w)
def wNoP : WPo := fun _ S Q _ => Q none S
def wP (w : WPe) : WPo := fun env S Q X => w env S (fun d S1 => match d with | .int i => Q (some i) S1 | _ => False) X
theorem PO.imp {e : Option Expr} {t t' : TO} (h : PO X e t) (i : ∀ σ H Q, t' σ H Q → t σ H Q) : PO X e t' := ⟨fun pins s σ H Q I q => h.run pins s σ H Q I (i σ H Q q)⟩
theorem pdo_none : PDo X none wNoP := ⟨fun Wx tk => PO.imp po_none fun σ H Q ⟨W, env, S, Q0, X1, ok, sl, hw, cv, cx⟩ => cv none S W H hw Stp.refl ok⟩
variable {e : Expr} {w : WPe} {wl wu : WPo} {lo hi : Option Expr} {pos p2 : Pos}
theorem pdo_some (h : PD X e w) : PDo X (some e) (wP w) := ⟨fun Wx tk => PO.imp (po_some (h.run Wx tk)) fun σ H Q ⟨W, env, S, Q0, X1, ok, sl, hw, cv, cx⟩ => ⟨W, env, S, _, X1, ok, sl, hw, fun d S1 v W1 H1 h1 s1 ok1 r1 => by
  cases d with
  | int i => exact ⟨i, r1, cv (some i) S1 W1 H1 h1 s1 ok1⟩
  | _ => exact h1.elim, cx⟩⟩
def wSl (we : WPe) (wl wu : WPo) : WPe := fun env S Q X => we env S (fun x S1 => wl env S1 (fun lo S2 => wu env S2 (fun hi S3 => oSl S3 x lo hi Q) X) X) X
theorem pd_slice (he : PD X e w) (hl : PDo X lo wl) (hu : PDo X hi wu) : PD X (.Subscript e (.Slice lo hi none p2) pos) (wSl w wl wu) :=
  ⟨fun Wx tk => PE.imp (pe_slice sld (he.run Wx tk) (hl.run Wx tk) (hu.run Wx tk)) fun σ H Q ⟨W, env, S, Q0, X1, ok, sl, hw, cv, cx⟩ => ⟨W, env, S, _, X1, ok, sl, hw, fun d S1 v W1 H1 h1 s1 ok1 r1 =>
    ⟨W1, env, S1, _, X1, ok1, sl.mono s1.vis, h1, fun o S2 W2 H2 h2 s2 ok2 => ⟨W2, env, S2, _, X1, ok2, sl.mono (s1.trans s2).vis, h2, fun o2 S3 W3 H3 h3 s3 ok3 =>
      ⟨W3, S3, d, Q0, ok3, r1.mono (s2.trans s3).vis, h3, cv.mono (s1.trans (s2.trans s3))⟩, cx.mono (s1.trans s2)⟩, cx.mono s1⟩, cx⟩⟩

/-! ### built-in functions -/
def wCB (o : OC) (wa : WPa) : WPe := fun env S Q X => wa env S (fun ds S1 => o S1 ds Q) X
variable {x : Str} {p : Pos} {es : List Expr} {wa : WPa} {fid T : String} {o : OC}
theorem cb_go {K : PySem.W.Frag} {Wx : WX} {σ : L2.St} {H : Hp} {Q : VK} (h : lE K Wx (wCB o wa) σ H Q) : tCB (lC K o) (lA K Wx wa) σ H Q := by
  obtain ⟨W, env, S, Q0, X1, ok, sl, hw, cv, cx⟩ := h
  exact ⟨W, env, S, _, X1, ok, sl, hw, fun ds S1 vs W1 H1 h1 s1 ok1 r1 => ⟨W1, S1, ds, Q0, ok1, r1, h1, cv.mono s1⟩, cx⟩
theorem pd_callB (hc : CallR X (.builtin fid) (lC X.K o)) (hm : X.mg x = none) (hv : bootBuiltins x = some (.builtin fid)) (ha : PDa X (e :: es) wa) (hg : Gl X x := by rfl) (hn : x ≠ "__name__" := by decide) (hdb : (x == ("__debug__" : Str)) = false := by decide)
    (he : starEach (e :: es) X.env = (false, eval e X.env) :: starEach es X.env := by rfl) (hpl : (backTo pos (starEach es X.env)).any (·.1) = false := by rfl) : PD X (.Call (.Name x p) (e :: es) [] pos) (wCB o wa) :=
  ⟨fun Wx tk => PE.imp (pe_callB hc hg hm hv (ha.run Wx tk) hn hdb he hpl) fun _ _ _ h => cb_go h⟩
theorem pd_callTy (hc : CallR X (.type T) (lC X.K o)) (hm : X.mg x = none) (hv : bootBuiltins x = some (.type T)) (ha : PDa X (e :: es) wa) (hg : Gl X x := by rfl) (hn : x ≠ "__name__" := by decide) (hdb : (x == ("__debug__" : Str)) = false := by decide)
    (he : starEach (e :: es) X.env = (false, eval e X.env) :: starEach es X.env := by rfl) (hpl : (backTo pos (starEach es X.env)).any (·.1) = false := by rfl) : PD X (.Call (.Name x p) (e :: es) [] pos) (wCB o wa) :=
  ⟨fun Wx tk => PE.imp (pe_callTy hc hg hm hv (ha.run Wx tk) hn hdb he hpl) fun _ _ _ h => cb_go h⟩
theorem CallR.imp {f : Value} {r r' : List V → Hp → VK → Prop} (h : CallR X f r) (i : ∀ xs H Q, r' xs H Q → r xs H Q) : CallR X f r' := fun pins s σ H xs us Q I rv q => h pins s σ H xs us Q I rv (i _ _ _ q)
theorem reps1 {K : PySem.W.Frag} {W : Hp} {d : D} {vs : List V} (r : Reps K W [d] vs) : ∃ v, vs = [v] ∧ Rep K W d v := by
  obtain ⟨v, q, e1, e2, e3⟩ := r
  have e3' : q = [] := e3
  subst e1 e3'
  exact ⟨v, rfl, e2⟩
theorem reps2 {K : PySem.W.Frag} {W : Hp} {d e : D} {vs : List V} (r : Reps K W [d, e] vs) : ∃ v u, vs = [v, u] ∧ Rep K W d v ∧ Rep K W e u := by
  obtain ⟨v, q, e1, e2, e3⟩ := r
  obtain ⟨u, rfl, e4⟩ := reps1 e3
  exact ⟨v, u, e1, e2, e4⟩
def one (ds : List D) (k : D → Prop) : Prop := match ds with
  | [d] => k d
  | _ => False
def two (ds : List D) (k : D → D → Prop) : Prop := match ds with
  | [d, e] => k d e
  | _ => False
def asI (d : D) (k : Int → Prop) : Prop := match d with
  | .int i => k i
  | _ => False
theorem one_ex {ds : List D} {k : D → Prop} (h : one ds k) : ∃ d, ds = [d] ∧ k d := by
  cases ds with
  | nil => exact h.elim
  | cons d r =>
    cases r with
    | nil => exact ⟨d, rfl, h⟩
    | cons e r => exact h.elim
theorem two_ex {ds : List D} {k : D → D → Prop} (h : two ds k) : ∃ d e, ds = [d, e] ∧ k d e := by
  cases ds with
  | nil => exact h.elim
  | cons d r =>
    cases r with
    | nil => exact h.elim
    | cons e r =>
      cases r with
      | nil => exact ⟨d, e, rfl, h⟩
      | cons f r => exact h.elim
theorem asI_ex {d : D} {k : Int → Prop} (h : asI d k) : ∃ i, d = .int i ∧ k i := by
  cases d with
  | int i => exact ⟨i, rfl, h⟩
  | _ => exact h.elim
/-- len of a list, a tuple, a text -/
def oLen : OC := fun S ds Q => one ds fun d => match d with
  | .str x => x.length ≤ sizeLine ∧ Q (.int (x.length : Nat)) S
  | d => some! (seqA S d) fun xs => Q (.int (xs.length : Nat)) S
theorem cd_len : CallR X (.builtin "len") (lC X.K oLen) := CallR.imp (call_len_seq.or call_len_str) fun vs H Q ⟨W, S, ds, Q0, ok, r, ho, cv⟩ => by
  obtain ⟨d, rfl, ho⟩ := one_ex ho
  obtain ⟨v, rfl, rv⟩ := reps1 r
  have key : some! (seqA S d) (fun xs => Q0 (.int (xs.length : Nat)) S) → (∃ p ys, [v] = [.ref p] ∧ (SqL X.K H p ys ∨ SqT X.K H p ys) ∧ Q (.int ys.length) H) := fun z => by
    obtain ⟨xs, e1, z⟩ := some!_ex z
    obtain ⟨q, ws, rfl, hq, r1⟩ := seqA_rep ok rv e1
    refine ⟨q, ws, rfl, hq, ?_⟩
    rw [r1.length]
    exact cv _ S _ W H z Stp.refl ok rfl
  cases d with
  | str x => exact .inr ⟨x, by rw [show v = .str x from rv], ho.1, cv _ S _ W H ho.2 Stp.refl ok rfl⟩
  | _ => exact .inl (key ho)
/-- int(n) -/
def oInt : OC := fun S ds Q => one ds fun d => match d with
  | .int i => Q (.int i) S
  | .bl k => Q (.int (if k = true then 1 else 0)) S
  | _ => False
theorem cd_int : CallR X (.type "int") (lC X.K oInt) := CallR.imp call_int1 fun vs H Q ⟨W, S, ds, Q0, ok, r, ho, cv⟩ => by
  obtain ⟨d, rfl, ho⟩ := one_ex ho
  obtain ⟨v, rfl, rv⟩ := reps1 r
  cases d with
  | int i => exact .inl ⟨i, by rw [show v = .int i from rv], cv _ S _ W H ho Stp.refl ok rfl⟩
  | bl k =>
    refine .inr ⟨k, by rw [show v = .bl k from rv], cv _ S _ W H ho Stp.refl ok ?_⟩
    cases k <;> rfl
  | _ => exact ho.elim
/-- max, min of two ints -/
def oMax2 : OC := fun S ds Q => two ds fun a b => asI a fun i => asI b fun j => Q (.int (max i j)) S
def oMin2 : OC := fun S ds Q => two ds fun a b => asI a fun i => asI b fun j => Q (.int (min i j)) S
theorem cd_max2 (hc : X.calm = true) : CallR X (.builtin "max") (lC X.K oMax2) := CallR.imp (call_max2 hc) fun vs H Q ⟨W, S, ds, Q0, ok, r, ho, cv⟩ => by
  obtain ⟨a, b, rfl, ho⟩ := two_ex ho
  obtain ⟨i, rfl, ho⟩ := asI_ex ho
  obtain ⟨j, rfl, ho⟩ := asI_ex ho
  obtain ⟨v, u, rfl, rv, ru⟩ := reps2 r
  have e : (if j > i then j else i) = max i j := by
    by_cases h : j > i
    · rw [if_pos h]; omega
    · rw [if_neg h]; omega
  exact ⟨i, j, by rw [show v = .int i from rv, show u = .int j from ru], by rw [e]; exact cv _ S _ W H ho Stp.refl ok rfl⟩
theorem cd_min2 (hc : X.calm = true) : CallR X (.builtin "min") (lC X.K oMin2) := CallR.imp (call_min2 hc) fun vs H Q ⟨W, S, ds, Q0, ok, r, ho, cv⟩ => by
  obtain ⟨a, b, rfl, ho⟩ := two_ex ho
  obtain ⟨i, rfl, ho⟩ := asI_ex ho
  obtain ⟨j, rfl, ho⟩ := asI_ex ho
  obtain ⟨v, u, rfl, rv, ru⟩ := reps2 r
  have e : (if j < i then j else i) = min i j := by
    by_cases h : j < i
    · rw [if_pos h]; omega
    · rw [if_neg h]; omega
  exact ⟨i, j, by rw [show v = .int i from rv, show u = .int j from ru], by rw [e]; exact cv _ S _ W H ho Stp.refl ok rfl⟩
/-- list(xs), tuple(xs) -/
def oList : OC := fun S ds Q => one ds fun d => some! (seqA S d) fun xs => Q (.lst xs) S
def oListM : OC := fun S ds Q => one ds fun d => some! (seqA S d) fun xs => ∀ p, S p = none → Q (.ref p) (put S p (.lst xs))
def oTuple : OC := fun S ds Q => one ds fun d => some! (seqA S d) fun xs => Q (.tup xs) S
theorem cd_list : CallR X (.type "list") (lC X.K oList) := CallR.imp call_list_of fun vs H Q ⟨W, S, ds, Q0, ok, r, ho, cv⟩ => by
  obtain ⟨d, rfl, ho⟩ := one_ex ho
  obtain ⟨v, rfl, rv⟩ := reps1 r
  obtain ⟨xs, e1, z⟩ := some!_ex ho
  obtain ⟨q, ws, rfl, hq, r1⟩ := seqA_rep ok rv e1
  refine ⟨q, ws, rfl, hq, fun l hl => ?_⟩
  have n := ok.fresh hl
  exact cv _ S _ _ _ z (ok.stW hl) (ok.newW hl) ⟨l, ws, rfl, upd_same, r1.mono (same_new n.1)⟩
theorem cd_listM : CallR X (.type "list") (lC X.K oListM) := CallR.imp call_list_of fun vs H Q ⟨W, S, ds, Q0, ok, r, ho, cv⟩ => by
  obtain ⟨d, rfl, ho⟩ := one_ex ho
  obtain ⟨v, rfl, rv⟩ := reps1 r
  obtain ⟨xs, e1, z⟩ := some!_ex ho
  obtain ⟨q, ws, rfl, hq, r1⟩ := seqA_rep ok rv e1
  refine ⟨q, ws, rfl, hq, fun l hl => ?_⟩
  exact cv _ _ _ _ _ (z l (ok.fresh hl).2) (ok.stS hl) (ok.newS hl ⟨ws, rfl, r1⟩) rfl
theorem cd_tuple : CallR X (.type "tuple") (lC X.K oTuple) := CallR.imp call_tuple_of fun vs H Q ⟨W, S, ds, Q0, ok, r, ho, cv⟩ => by
  obtain ⟨d, rfl, ho⟩ := one_ex ho
  obtain ⟨v, rfl, rv⟩ := reps1 r
  obtain ⟨xs, e1, z⟩ := some!_ex ho
  have onL : seqL S d = some xs → ∃ p ys, [v] = [.ref p] ∧ ((SqL X.K H p ys ∧ ∀ l, H l = none → Q (.ref l) (upd H l (.tup ys))) ∨ (SqT X.K H p ys ∧ Q (.ref p) H)) := fun e2 => by
    obtain ⟨q, ws, rfl, hq, r1⟩ := seqL_rep ok rv e2
    refine ⟨q, ws, rfl, .inl ⟨hq, fun l hl => ?_⟩⟩
    have n := ok.fresh hl
    exact cv _ S _ _ _ z (ok.stW hl) (ok.newW hl) ⟨l, ws, rfl, SqT.of upd_same, r1.mono (same_new n.1)⟩
  cases d with
  | tup ys =>
    cases e1
    obtain ⟨q, ws, rfl, hq, r1⟩ := id rv
    exact ⟨q, ws, rfl, .inr ⟨sqT_mono ok.vis hq, cv _ S _ W H z Stp.refl ok rv⟩⟩
  | _ => exact onL e1
/-- all, any of a list of bools; sum, max, min, sorted of a list of ints -/
def oAll : OC := fun S ds Q => one ds fun d => some! (seqL S d) fun xs => some! (toBls xs) fun bs => Q (.bl (bs.all id)) S
def oAny : OC := fun S ds Q => one ds fun d => some! (seqL S d) fun xs => some! (toBls xs) fun bs => Q (.bl (bs.any id)) S
def oSum : OC := fun S ds Q => one ds fun d => some! (seqL S d) fun xs => some! (toInts xs) fun bs => Q (.int bs.sum) S
def oMaxL : OC := fun S ds Q => one ds fun d => some! (seqL S d) fun xs => some! (toInts xs) fun bs => 0 < bs.length ∧ ∀ m, m ∈ bs → (∀ y, y ∈ bs → y ≤ m) → Q (.int m) S
def oMinL : OC := fun S ds Q => one ds fun d => some! (seqL S d) fun xs => some! (toInts xs) fun bs => 0 < bs.length ∧ ∀ m, m ∈ bs → (∀ y, y ∈ bs → m ≤ y) → Q (.int m) S
def oSorted : OC := fun S ds Q => one ds fun d => some! (seqL S d) fun xs => some! (toInts xs) fun bs => ∀ ms : List Int, ms.Perm bs → ms.Pairwise (· ≤ ·) → Q (.lst (ms.map D.int)) S
theorem reps_ints {K : PySem.W.Frag} {W : Hp} : ∀ {ns : List Int}, Reps K W (ns.map D.int) (ns.map V.int)
  | [] => rfl
  | i :: r => ⟨_, _, rfl, rfl, reps_ints⟩
theorem listI {K : PySem.W.Frag} {W : Hp} {S : Sto} {H : Hp} {d : D} {v : V} {k : List Int → Prop} (ok : Ok K W S H) (r : Rep K W d v) (h : some! (seqL S d) fun xs => some! (toInts xs) k) : ∃ a ns, v = .ref a ∧ SqL K H a (ns.map V.int) ∧ k ns := by
  obtain ⟨xs, e1, h⟩ := some!_ex h
  obtain ⟨ns, e2, h⟩ := some!_ex h
  obtain ⟨q, ws, rfl, hq, r1⟩ := seqL_rep ok r e1
  rw [toInts_rep e2 r1] at hq
  exact ⟨q, ns, rfl, hq, h⟩
theorem listB {K : PySem.W.Frag} {W : Hp} {S : Sto} {H : Hp} {d : D} {v : V} {k : List Bool → Prop} (ok : Ok K W S H) (r : Rep K W d v) (h : some! (seqL S d) fun xs => some! (toBls xs) k) : ∃ a ns, v = .ref a ∧ SqL K H a (ns.map V.bl) ∧ k ns := by
  obtain ⟨xs, e1, h⟩ := some!_ex h
  obtain ⟨ns, e2, h⟩ := some!_ex h
  obtain ⟨q, ws, rfl, hq, r1⟩ := seqL_rep ok r e1
  rw [toBls_rep e2 r1] at hq
  exact ⟨q, ns, rfl, hq, h⟩
theorem cd_all (hc : X.calm = true) : CallR X (.builtin "all") (lC X.K oAll) := CallR.imp (cr_all hc) fun vs H Q ⟨W, S, ds, Q0, ok, r, ho, cv⟩ => by
  obtain ⟨d, rfl, ho⟩ := one_ex ho
  obtain ⟨v, rfl, rv⟩ := reps1 r
  obtain ⟨a, bs, rfl, h1, h2⟩ := listB ok rv ho
  exact ⟨a, bs, rfl, h1, cv _ S _ W H h2 Stp.refl ok rfl⟩
theorem cd_any (hc : X.calm = true) : CallR X (.builtin "any") (lC X.K oAny) := CallR.imp (cr_any hc) fun vs H Q ⟨W, S, ds, Q0, ok, r, ho, cv⟩ => by
  obtain ⟨d, rfl, ho⟩ := one_ex ho
  obtain ⟨v, rfl, rv⟩ := reps1 r
  obtain ⟨a, bs, rfl, h1, h2⟩ := listB ok rv ho
  exact ⟨a, bs, rfl, h1, cv _ S _ W H h2 Stp.refl ok rfl⟩
theorem cd_sum (hc : X.calm = true) : CallR X (.builtin "sum") (lC X.K oSum) := CallR.imp (cr_sum hc) fun vs H Q ⟨W, S, ds, Q0, ok, r, ho, cv⟩ => by
  obtain ⟨d, rfl, ho⟩ := one_ex ho
  obtain ⟨v, rfl, rv⟩ := reps1 r
  obtain ⟨a, bs, rfl, h1, h2⟩ := listI ok rv ho
  exact ⟨a, bs, rfl, h1, cv _ S _ W H h2 Stp.refl ok rfl⟩
theorem cd_maxL (hc : X.calm = true) : CallR X (.builtin "max") (lC X.K oMaxL) := CallR.imp (cr_max hc) fun vs H Q ⟨W, S, ds, Q0, ok, r, ho, cv⟩ => by
  obtain ⟨d, rfl, ho⟩ := one_ex ho
  obtain ⟨v, rfl, rv⟩ := reps1 r
  obtain ⟨a, bs, rfl, h1, h2, h3⟩ := listI ok rv ho
  exact ⟨a, bs, rfl, h1, h2, fun m q1 q2 => cv _ S _ W H (h3 m q1 q2) Stp.refl ok rfl⟩
theorem cd_minL (hc : X.calm = true) : CallR X (.builtin "min") (lC X.K oMinL) := CallR.imp (cr_min hc) fun vs H Q ⟨W, S, ds, Q0, ok, r, ho, cv⟩ => by
  obtain ⟨d, rfl, ho⟩ := one_ex ho
  obtain ⟨v, rfl, rv⟩ := reps1 r
  obtain ⟨a, bs, rfl, h1, h2, h3⟩ := listI ok rv ho
  exact ⟨a, bs, rfl, h1, h2, fun m q1 q2 => cv _ S _ W H (h3 m q1 q2) Stp.refl ok rfl⟩
theorem cd_sorted : CallR X (.builtin "sorted") (lC X.K oSorted) := CallR.imp cr_sortedI fun vs H Q ⟨W, S, ds, Q0, ok, r, ho, cv⟩ => by
  obtain ⟨d, rfl, ho⟩ := one_ex ho
  obtain ⟨v, rfl, rv⟩ := reps1 r
  obtain ⟨a, bs, rfl, h1, h2⟩ := listI ok rv ho
  refine ⟨a, bs, rfl, h1, fun ms p q1 q2 hp => ?_⟩
  have n := ok.fresh hp
  exact cv _ S _ _ _ (h2 ms q1 q2) (ok.stW hp) (ok.newW hp) ⟨p, _, rfl, upd_same, reps_ints⟩

/-! ### isinstance of a built-in class -/
/-- the name of a value's type -/
def tyN (S : Sto) (d : D) : Option String := match d with
  | .non => some "NoneType"
  | .bl _ => some "bool"
  | .int _ => some "int"
  | .str _ => some "str"
  | .tup _ => some "tuple"
  | d => (seqL S d).map fun _ => "list"
theorem tyN_rep {K : PySem.W.Frag} {W : Hp} {S : Sto} {H : Hp} {d : D} {v : V} {n : String} (ok : Ok K W S H) (r : Rep K W d v) (h : tyN S d = some n) : TyX K H v (.type n) := by
  have onL : (seqL S d).map (fun _ => "list") = some n → TyX K H v (.type n) := fun z => by
    cases q : seqL S d with
    | none => rw [q] at z; cases z
    | some xs =>
      rw [q] at z
      cases z
      obtain ⟨a, vs, rfl, hq, _⟩ := seqL_rep ok r q
      rcases hq with (hq | ⟨o, hq⟩) | ⟨o, its, m, hk, hc, _⟩
      · exact .base (.lst hq)
      · exact .base (.frz hq)
      · exact .kList hk hc
  cases d with
  | non => cases h; rw [show v = V.non from r]; exact .base .non
  | bl b => cases h; rw [show v = V.bl b from r]; exact .base (.bl b)
  | int b => cases h; rw [show v = V.int b from r]; exact .base (.int b)
  | str b => cases h; rw [show v = V.str b from r]; exact .base (.str b)
  | tup xs =>
    cases h
    obtain ⟨a, vs, rfl, hq, _⟩ := r
    have hq' := sqT_mono ok.vis hq
    rcases hq' with (hq | ⟨o, hq⟩) | ⟨o, its, m, hk, hc, _⟩
    · exact .base (.tup hq)
    · exact .fTuple hq
    · exact .kTuple hk hc
  | _ => exact onL h
/-- isinstance(e, T) -/
def wIsi (T : String) (w : WPe) : WPe := fun env S Q X => w env S (fun d S1 => some! (tyN S1 d) fun n => some! (kitB n T) fun b => Q (.bl b) S1) X
theorem pd_isi {e2 : Expr} (he : PD X e w) (hc : PE X e2 (tC (.ty T))) (hm : X.mg "isinstance" = none) (hg : Gl X "isinstance" := by rfl)
    (hs : starEach [e, e2] X.env = (false, eval e X.env) :: starEach [e2] X.env := by rfl) (hs2 : starEach [e2] X.env = [(false, eval e2 X.env)] := by rfl) (hpl : (backTo pos (starEach [e2] X.env)).any (·.1) = false := by rfl) :
    PD X (.Call (.Name "isinstance" p) [e, e2] [] pos) (wIsi T w) :=
  ⟨fun Wx tk => PE.imp (pe_callB call_isi hg hm (by decide +kernel) (pa_cons (he.run Wx tk) (pa_cons hc pa_nil hs2) hs) (by decide) (by decide) hs hpl) fun σ H Q ⟨W, env, S, Q0, X1, ok, sl, hw, cv, cx⟩ => ⟨W, env, S, _, X1, ok, sl, hw, fun d S1 v W1 H1 h1 s1 ok1 r1 => by
    obtain ⟨n, e1, h1⟩ := some!_ex h1
    obtain ⟨b, e2, h1⟩ := some!_ex h1
    exact ⟨v, .ty T, _, _, b, rfl, .ty T, tyN_rep ok1 r1 e1, kit_ty e2, cv _ S1 _ W1 H1 h1 s1 ok1 rfl⟩, cx⟩⟩
end
end DL
set_option Elab.async false
set_option linter.all false
set_option maxRecDepth 100000
set_option maxHeartbeats 1000000
/-! The data layer, part f: fields, methods of lists, statements, defs. -/
namespace DL
open PySem PySem.Spec PyProof.Rows L2

/-! ### chains -/
section
variable {X : Cx} {a b c : Expr} {pos : Pos} {wa wb wc : WPe} {o o' : O2} {op op' : CmpOp}
theorem chain_go {K : PySem.W.Frag} {Wx : WX} {σ : L2.St} {H : Hp} {Q : VK} (h : lE K Wx (wChain o o' wa wb wc) σ H Q) : tChain (lOp K o) (lOp K o') (lE K Wx wa) (lE K Wx wb) (lE K Wx wc) σ H Q := by
  obtain ⟨W, env, S, Q0, X1, ok, sl, hw, cv, cx⟩ := h
  refine ⟨W, env, S, _, X1, ok, sl, hw, fun x S1 v W1 H1 h1 s1 ok1 r1 => ?_, cx⟩
  refine ⟨W1, env, S1, _, X1, ok1, sl.mono s1.vis, h1, fun y S2 u W2 H2 h2 s2 ok2 r2 => ?_, cx.mono s1⟩
  refine ⟨W2, S2, x, y, _, ok2, r1.mono s2.vis, r2, h2, fun k S3 t W3 H3 h3 s3 ok3 r3 => ?_⟩
  cases k with
  | bl k =>
    refine ⟨k, r3, ?_⟩
    cases k with
    | true =>
      refine iteT ⟨W3, env, S3, _, X1, ok3, sl.mono (s1.trans (s2.trans s3)).vis, (if_pos rfl).mp h3, fun z S4 v4 W4 H4 h4 s4 ok4 r4 => ?_, cx.mono (s1.trans (s2.trans s3))⟩
      exact ⟨W4, S4, y, z, Q0, ok4, r2.mono (s3.trans s4).vis, r4, h4, cv.mono (s1.trans (s2.trans (s3.trans s4)))⟩
    | false => exact iteF (cv _ S3 _ W3 H3 ((if_neg Bool.false_ne_true).mp h3) (s1.trans (s2.trans s3)) ok3 rfl)
  | _ => exact h3.elim
theorem pd_chain (ho : OpR X (compareOp op) (lOp X.K o)) (ho' : OpR X (compareOp op') (lOp X.K o')) (ha : PD X a wa) (hb : PD X b wb) (hc : PD X c wc) (hm : lastMarks [op, op'] [b, c] = false := by with_unfolding_all rfl) :
    PD X (.Compare a [op, op'] [b, c] pos) (wChain o o' wa wb wc) := ⟨fun Wx tk => PE.imp (pe_chain ho ho' (ha.run Wx tk) (hb.run Wx tk) (hc.run Wx tk) hm) fun _ _ _ h => chain_go h⟩
theorem pdt_chain (ho : OpR X (compareOp op) (lOp X.K o)) (ho' : OpR X (compareOp op') (lOp X.K o')) (ha : PD X a wa) (hb : PD X b wb) (hc : PD X c wc) (hm : lastMarks [op, op'] [b, c] = false := by with_unfolding_all rfl) :
    PDt X (.Compare a [op, op'] [b, c] pos) (wTest (wChain o o' wa wb wc)) := ⟨fun Wx tk => PT.imp (pt_chain ho ho' (ha.run Wx tk) (hb.run Wx tk) (hc.run Wx tk) hm) fun σ H Q ⟨W, env, S, Q0, X1, ok, sl, hw, cv, cx⟩ => chain_go ⟨W, env, S, _, X1, ok, sl, hw, fun d S1 v W1 H1 h1 s1 ok1 r1 => by
    cases d with
    | bl k =>
      have e : v = .bl k := r1
      exact ⟨k, e, cv k S1 W1 H1 h1 s1 ok1⟩
    | _ => exact h1.elim, cx⟩⟩
end

/-! ### fields -/
/-- field i of an instance of C with the fields N -/
def fldD (C : Addr) (N : List Str) (i : Nat) (S : Sto) (d : D) (k : D → Prop) : Prop := match d with
  | .ref a => match S a with
    | some (.ins C' N' xs) => (C' = C ∧ N' = N) ∧ some! (getV xs i) k
    | _ => False
  | .obj C' N' xs => (C' = C ∧ N' = N) ∧ some! xs[i]? k
  | _ => False
theorem fldD_rep {K : PySem.W.Frag} {W : Hp} {S : Sto} {H : Hp} {C : Addr} {N : List Str} {i : Nat} {f : Str} {d : D} {v : V} {k : D → Prop} (ok : Ok K W S H) (r : Rep K W d v) (hi : N[i]? = some f) (h : fldD C N i S d k) :
    ∃ a dx gs x u, v = .ref a ∧ H a = some (.ins C dx gs) ∧ gs.lookup f = some u ∧ Rep K W x u ∧ k x := by
  cases d with
  | ref a =>
    have h' : (match S a with | some (.ins C' N' xs) => (C' = C ∧ N' = N) ∧ some! (getV xs i) k | _ => False) := h
    cases q : S a with
    | none => rw [q] at h'; exact h'.elim
    | some mo =>
      rw [q] at h'
      cases mo with
      | ins C' N' xs =>
        obtain ⟨⟨rfl, rfl⟩, h'⟩ := h'
        obtain ⟨x, e, h'⟩ := some!_ex h'
        obtain ⟨o, e3, dx, gs, rfl, fr⟩ := ok.sto _ _ q
        obtain ⟨u, e5, ru⟩ := fr.is i f x hi e
        exact ⟨a, dx, gs, x, u, r, e3, e5, ru, h'⟩
      | _ => exact h'.elim
  | obj C' N' xs =>
    obtain ⟨⟨rfl, rfl⟩, h'⟩ := h
    obtain ⟨x, e, h'⟩ := some!_ex h'
    obtain ⟨a, dx, gs, vs, rfl, e2, e3, _, rr⟩ := r
    obtain ⟨u, e5, ru⟩ := rr.get e
    exact ⟨a, dx, gs, x, u, rfl, ok.vis _ _ e2, (e3 i f hi).trans e5, ru, h'⟩
  | _ => exact h.elim
def wFld (C : Addr) (N : List Str) (i : Nat) (w : WPe) : WPe := fun env S Q X => w env S (fun o S1 => fldD C N i S1 o fun d => Q d S1) X
/-- o.f = e -/
def setD (C : Addr) (N : List Str) (i : Nat) (S : Sto) (o : D) (d : D) (k : Sto → Prop) : Prop := match o with
  | .ref a => match S a with
    | some (.ins C' N' xs) => (C' = C ∧ N' = N) ∧ k (put S a (.ins C N (setV xs i d)))
    | _ => False
  | _ => False
theorem setD_rep {K : PySem.W.Frag} {W : Hp} {S : Sto} {H : Hp} {C : Addr} {N : List Str} {i : Nat} {f : Str} {o d : D} {v u : V} {k : Sto → Prop} (ok : Ok K W S H) (r : Rep K W o v) (rd : Rep K W d u) (hi : N[i]? = some f) (h : setD C N i S o d k) :
    ∃ a dx gs S', v = .ref a ∧ H a = some (.ins C dx gs) ∧ gs.length < 1000 ∧ Stp W S H W S' (upd H a (.ins C dx (putF f u gs))) ∧ Ok K W S' (upd H a (.ins C dx (putF f u gs))) ∧ k S' := by
  cases o with
  | ref a =>
    have h' : (match S a with | some (.ins C' N' xs) => (C' = C ∧ N' = N) ∧ k (put S a (.ins C N (setV xs i d))) | _ => False) := h
    cases q : S a with
    | none => rw [q] at h'; exact h'.elim
    | some mo =>
      rw [q] at h'
      cases mo with
      | ins C' N' xs =>
        obtain ⟨⟨rfl, rfl⟩, h'⟩ := h'
        obtain ⟨o, e3, dx, gs, rfl, fr⟩ := ok.sto _ _ q
        exact ⟨a, dx, gs, _, r, e3, fr.lt, ok.stC (m := .ins C' N' (setV xs i d)) q, ok.chg (m := .ins C' N' (setV xs i d)) q ⟨dx, _, rfl, fr.put hi rd⟩, h'⟩
      | _ => exact h'.elim
  | _ => exact h.elim

/-! ### statements -/
def wSeq (w u : WPs) : WPs := fun env S q => w env S { q with nx := fun e s => u e s q }
def wNext : WPs := fun env S q => q.nx env S
def xcQ (q : QS) (env : DE) : XQ := fun C fs S => q.xc C fs env S
def wSet (i : Nat) (w : WPe) : WPs := fun env S q => w env S (fun d S1 => q.nx (setV env i d) S1) (xcQ q env)
def wDrop (w : WPe) : WPs := fun env S q => w env S (fun _ S1 => q.nx env S1) (xcQ q env)
def wRet (w : WPe) : WPs := fun env S q => w env S q.rt (xcQ q env)
def wRetN : WPs := fun _ S q => q.rt .non S
def wIf (t : WPt) (u v : WPs) : WPs := fun env S q => t env S (fun k S1 => if k = true then u env S1 q else v env S1 q) (xcQ q env)
def wBreak : WPs := fun env S q => q.bk env S
def wCont : WPs := fun env S q => q.ct env S
def wAug (i : Nat) (o : O2) (w : WPe) : WPs := fun env S q => some! (getV env i) fun x => w env S (fun y S1 => o S1 x y fun z S2 => q.nx (setV env i z) S2) (xcQ q env)
def wSetF (C : Addr) (N : List Str) (i : Nat) (wo we : WPe) : WPs := fun env S q => we env S (fun d S1 => wo env S1 (fun o S2 => setD C N i S2 o d fun S3 => q.nx env S3) (xcQ q env)) (xcQ q env)
def wAugF (C : Addr) (N : List Str) (i : Nat) (op : O2) (wo we : WPe) : WPs := fun env S q => wo env S (fun o S1 => fldD C N i S1 o fun x => we env S1 (fun y S2 => op S2 x y fun z S3 => setD C N i S3 o z fun S4 => q.nx env S4) (xcQ q env)) (xcQ q env)
/-- o[i] = e for a list -/
def setIx (S : Sto) (o i d : D) (k : Sto → Prop) : Prop := match o, i with
  | .ref a, .int j => match S a with
    | some (.lst xs) => some! (ixN xs.length j) fun n => k (put S a (.lst (xs.set n d)))
    | _ => False
  | _, _ => False
def wSetI (wo wi we : WPe) : WPs := fun env S q => we env S (fun d S1 => wo env S1 (fun o S2 => wi env S2 (fun i S3 => setIx S3 o i d fun S4 => q.nx env S4) (xcQ q env)) (xcQ q env)) (xcQ q env)
section
variable {X : Cx} {e o i' : Expr} {st : Stmt} {rest : List Stmt} {pos pos' tpos : Pos} {w we wo wi : WPe} {ws u v : WPs} {t : WPt} {i : Nat} {x f : Str} {C : Addr} {N : List Str}
theorem CXc.of {K : PySem.W.Frag} {W : Hp} {S : Sto} {H : Hp} {Wx : WX} {q : QS} {D : Ends} {env : DE} {σ : L2.St} (h : CS K Wx W S H q D) (sl : Sl K W env σ) : CXc K W S H (xcQ q env) (fun c d H' => Wx c d σ H') :=
  fun C fs S' dd gs W' H' q1 s1 ok1 e1 r1 => h.xc C fs env S' dd gs σ W' H' q1 s1 ok1 (sl.mono s1.vis) e1 r1
theorem pss_nilD : PDss X [] wNext := ⟨fun Wx tk => PSs.imp pss_nil fun D σ H ⟨W, env, S, q, ok, sl, hl, hw, cs⟩ => cs.nx env S σ W H hw Stp.refl ok sl hl⟩
theorem pss_consD (h1 : PDs X st ws) (h2 : PDss X rest u) : PDss X (st :: rest) (wSeq ws u) :=
  ⟨fun Wx tk => PSs.imp (pss_cons (h1.run Wx tk) (h2.run Wx tk)) fun D σ H ⟨W, env, S, q, ok, sl, hl, hw, cs⟩ =>
    ⟨W, env, S, _, ok, sl, hl, hw, fun e S1 σ1 W1 H1 h1 s1 ok1 sl1 hl1 => ⟨W1, e, S1, q, ok1, sl1, hl1, h1, cs.mono s1⟩, cs.rt, cs.bk, cs.ct, cs.xc⟩⟩
theorem pss_oneD (h1 : PDs X st ws) : PDss X [st] ws := ⟨fun Wx tk => pss_one (h1.run Wx tk)⟩
theorem pds_set (hN : X.N.Nodup) (hi : X.N[i]? = some x) (hx : Loc X.env.scope x) (he : PD X e w) (hs : swapsWith e (some (.Name x pos')) pos.line X.env = pure false := by rfl) (hf : X.fn x = true ∨ X.env.scope.names.lookup x = some .local := by first | exact .inl rfl | exact .inr rfl | assumption) :
    PDs X (.Assign [.Name x pos'] e pos) (wSet i w) :=
  ⟨fun Wx tk => PS.imp (ps_set hN hi hx (he.run Wx tk) hs hf) fun D σ H ⟨W, env, S, q, ok, sl, hl, hw, cs⟩ => ⟨W, env, S, _, _, ok, sl, hw, fun d S1 v W1 H1 h1 s1 ok1 r1 =>
    cs.nx _ S1 _ W1 H1 h1 s1 ok1 ((sl.mono s1.vis).set (by rw [hl]; exact lt_of_some hi) r1) (by rw [List.length_set]; exact hl), CXc.of cs sl⟩⟩
theorem pds_drop (he : PD X e w) (hs : swapsWith e none pos.line X.env = pure false := by rfl) : PDs X (.Expr e pos) (wDrop w) :=
  ⟨fun Wx tk => PS.imp (ps_expr (he.run Wx tk) hs) fun D σ H ⟨W, env, S, q, ok, sl, hl, hw, cs⟩ => ⟨W, env, S, _, _, ok, sl, hw, fun d S1 v W1 H1 h1 s1 ok1 r1 => cs.nx _ S1 _ W1 H1 h1 s1 ok1 (sl.mono s1.vis) hl, CXc.of cs sl⟩⟩
theorem pds_ret (he : PD X e w) : PDs X (.Return (some e) pos) (wRet w) :=
  ⟨fun Wx tk => PS.imp (ps_ret (he.run Wx tk)) fun D σ H ⟨W, env, S, q, ok, sl, hl, hw, cs⟩ => ⟨W, env, S, _, _, ok, sl, hw, fun d S1 v W1 H1 h1 s1 ok1 r1 => cs.rt d S1 v W1 H1 h1 s1 ok1 r1, CXc.of cs sl⟩⟩
theorem pds_retN : PDs X (.Return none pos) wRetN := ⟨fun Wx tk => PS.imp ps_retN fun D σ H ⟨W, env, S, q, ok, sl, hl, hw, cs⟩ => cs.rt .non S .non W H hw Stp.refl ok rfl⟩
theorem pds_pass : PDs X (.Pass pos) wNext := ⟨fun Wx tk => PS.imp ps_pass fun D σ H ⟨W, env, S, q, ok, sl, hl, hw, cs⟩ => cs.nx env S σ W H hw Stp.refl ok sl hl⟩
theorem pds_doc {y : Str} {j : Nat} : PDs X (.Expr (.Constant (.str y) j pos) pos') wNext := ⟨fun Wx tk => PS.imp ps_doc fun D σ H ⟨W, env, S, q, ok, sl, hl, hw, cs⟩ => cs.nx env S σ W H hw Stp.refl ok sl hl⟩
theorem pds_break : PDs X (.Break pos) wBreak := ⟨fun Wx tk => PS.imp ps_break fun D σ H ⟨W, env, S, q, ok, sl, hl, hw, cs⟩ => cs.bk env S σ W H hw Stp.refl ok sl hl⟩
theorem pds_cont : PDs X (.Continue pos) wCont := ⟨fun Wx tk => PS.imp ps_continue fun D σ H ⟨W, env, S, q, ok, sl, hl, hw, cs⟩ => cs.ct env S σ W H hw Stp.refl ok sl hl⟩
theorem pds_if {a b : List Stmt} (hc : PDt X e t) (ha : PDss X a u) (hb : PDss X b v) : PDs X (.If e a b pos) (wIf t u v) :=
  ⟨fun Wx tk => PS.imp (ps_if (hc.run Wx tk) (ha.run Wx tk) (hb.run Wx tk)) fun D σ H ⟨W, env, S, q, ok, sl, hl, hw, cs⟩ => ⟨W, env, S, _, _, ok, sl, hw, fun k S1 W1 H1 h1 s1 ok1 => by
    cases k with
    | true => exact iteT ⟨W1, env, S1, q, ok1, sl.mono s1.vis, hl, (if_pos rfl).mp h1, cs.mono s1⟩
    | false => exact iteF ⟨W1, env, S1, q, ok1, sl.mono s1.vis, hl, (if_neg Bool.false_ne_true).mp h1, cs.mono s1⟩, CXc.of cs sl⟩⟩
theorem pds_aug {op : Operator} {ob : O2} (hN : X.N.Nodup) (hi : X.N[i]? = some x) (hx : Loc X.env.scope x) (he : PD X e w) (ho : OpR X (inplaceOp op) (lOp X.K ob)) (hf : X.fn x = true ∨ X.env.scope.names.lookup x = some .local := by first | exact .inl rfl | exact .inr rfl | assumption) :
    PDs X (.AugAssign (.Name x pos') op e pos) (wAug i ob w) :=
  ⟨fun Wx tk => PS.imp (ps_aug hN hi hx (he.run Wx tk) ho hf) fun D σ H ⟨W, env, S, q, ok, sl, hl, hw, cs⟩ => by
    obtain ⟨d, e1, hw⟩ := some!_ex hw
    obtain ⟨v, e2, rv⟩ := sl i d e1
    refine ⟨v, e2, W, env, S, _, _, ok, sl, hw, fun y S1 u W1 H1 h1 s1 ok1 r1 => ?_, CXc.of cs sl⟩
    refine ⟨W1, S1, d, y, _, ok1, rv.mono s1.vis, r1, h1, fun z S2 t W2 H2 h2 s2 ok2 r2 => ?_⟩
    exact cs.nx _ S2 _ W2 H2 h2 (s1.trans s2) ok2 ((sl.mono (s1.trans s2).vis).set (by rw [hl]; exact lt_of_some hi) r2) (by rw [List.length_set]; exact hl)⟩
theorem pd_fld (c : Cls X.K C) (n : NoAttr X.K C f) (hi : N[i]? = some f) (he : PD X e w) (hb : attributeBase e f X.env (eval e X.env) = eval e X.env := by rfl) : PD X (.Attribute e f pos) (wFld C N i w) :=
  ⟨fun Wx tk => PE.imp (pe_fld (he.run Wx tk) hb) fun σ H Q ⟨W, env, S, Q0, X1, ok, sl, hw, cv, cx⟩ => ⟨W, env, S, _, X1, ok, sl, hw, fun d S1 v W1 H1 h1 s1 ok1 r1 => by
    obtain ⟨a, dx, gs, y, u, rfl, e1, e2, ru, h2⟩ := fldD_rep ok1 r1 hi h1
    exact ⟨a, C, dx, gs, u, rfl, e1, c, n, e2, cv y S1 u W1 H1 h2 s1 ok1 ru⟩, cx⟩⟩
theorem pds_setF (c : Cls X.K C) (n : NoAttr X.K C f) (hi : N[i]? = some f) (ho : PD X o wo) (he : PD X e we) (hs : swapsWith e (some (.Attribute o f pos')) pos.line X.env = pure false := by rfl) : PDs X (.Assign [.Attribute o f pos'] e pos) (wSetF C N i wo we) :=
  ⟨fun Wx tk => PS.imp (ps_fld (ho.run Wx tk) (he.run Wx tk) hs) fun D σ H ⟨W, env, S, q, ok, sl, hl, hw, cs⟩ => ⟨W, env, S, _, _, ok, sl, hw, fun d S1 v W1 H1 h1 s1 ok1 r1 =>
    ⟨W1, env, S1, _, _, ok1, sl.mono s1.vis, h1, fun y S2 u W2 H2 h2 s2 ok2 r2 => by
      obtain ⟨a, dx, gs, S3, rfl, e1, e2, st3, ok3, h3⟩ := setD_rep ok2 r2 (r1.mono s2.vis) hi h2
      exact ⟨a, C, dx, gs, rfl, e1, c, n, e2, cs.nx _ S3 _ W2 _ h3 (s1.trans (s2.trans st3)) ok3 (sl.mono (s1.trans s2).vis) hl⟩, CXc.of (cs.mono s1) (sl.mono s1.vis)⟩, CXc.of cs sl⟩⟩
theorem inop_of {op : Operator} {rd : V → V → Hp → VK → Prop} (h : OpR X (inplaceOp op) rd) : InOp X op rd := fun pins s σ H x y u v Q I rx ry q => h pins s σ H x y u v Q I rx ry q
theorem pds_augF {op : Operator} {ob : O2} (c : Cls X.K C) (n : NoAttr X.K C f) (hi : N[i]? = some f) (ho : PD X o wo) (he : PD X e we) (hop : OpR X (inplaceOp op) (lOp X.K ob)) : PDs X (.AugAssign (.Attribute o f tpos) op e pos) (wAugF C N i ob wo we) :=
  ⟨fun Wx tk => PS.imp (ps_fldaug (ho.run Wx tk) (he.run Wx tk) (inop_of hop)) fun D σ H ⟨W, env, S, q, ok, sl, hl, hw, cs⟩ => ⟨W, env, S, _, _, ok, sl, hw, fun d S1 v W1 H1 h1 s1 ok1 r1 => by
    obtain ⟨a, dx, gs, y, u, rfl, e1, e2, ru, h2⟩ := fldD_rep ok1 r1 hi h1
    refine ⟨a, C, dx, gs, u, rfl, e1, c, n, e2, W1, env, S1, _, _, ok1, sl.mono s1.vis, h2, fun z S2 t W2 H2 h3 s2 ok2 r2 => ?_, CXc.of (cs.mono s1) (sl.mono s1.vis)⟩
    refine ⟨W2, S2, y, z, _, ok2, ru.mono s2.vis, r2, h3, fun z2 S3 t2 W3 H3 h4 s3 ok3 r3 => ?_⟩
    obtain ⟨a2, dx2, gs2, S4, e3, e4, e5, st4, ok4, h5⟩ := setD_rep ok3 (r1.mono (s2.trans s3).vis) r3 hi h4
    cases e3
    exact ⟨dx2, gs2, e4, e5, cs.nx _ S4 _ W3 _ h5 (s1.trans (s2.trans (s3.trans st4))) ok4 (sl.mono (s1.trans (s2.trans s3)).vis) hl⟩, CXc.of cs sl⟩⟩
theorem setIx_rep {K : PySem.W.Frag} {W : Hp} {S : Sto} {H : Hp} {o i d : D} {v vi u : V} {k : Sto → Prop} (ok : Ok K W S H) (r : Rep K W o v) (ri : Rep K W i vi) (rd : Rep K W d u) (h : setIx S o i d k) :
    ∃ a xs n j S', v = .ref a ∧ vi = .int j ∧ H a = some (.lst xs) ∧ ixN xs.length j = some n ∧ Stp W S H W S' (upd H a (.lst (xs.set n u))) ∧ Ok K W S' (upd H a (.lst (xs.set n u))) ∧ k S' := by
  cases o with
  | ref a =>
    cases i with
    | int j =>
      have h' : (match S a with | some (.lst xs) => some! (ixN xs.length j) fun n => k (put S a (.lst (xs.set n d))) | _ => False) := h
      cases q : S a with
      | none => rw [q] at h'; exact h'.elim
      | some mo =>
        rw [q] at h'
        cases mo with
        | lst xs =>
          obtain ⟨n, e1, h'⟩ := some!_ex h'
          obtain ⟨o, e3, vs, rfl, rv⟩ := ok.sto _ _ q
          exact ⟨a, vs, n, j, _, r, ri, e3, by rw [rv.length]; exact e1, ok.stC (m := .lst (xs.set n d)) q, ok.chg (m := .lst (xs.set n d)) q ⟨_, rfl, rv.set rd n⟩, h'⟩
        | _ => exact h'.elim
    | _ => exact h.elim
  | _ => exact h.elim
theorem pds_setI {ip : Expr} {p2 : Pos} (ho : PD X o wo) (hi : PD X ip wi) (he : PD X e we) (hs : swapsWithSole [.Subscript o ip p2] e pos.line X.env = pure false := by rfl) (hw : swappedStores [.Subscript o ip p2] e X.env = pure none := by rfl)
    (h1 : (assignEach [.Subscript o ip p2] X.env).map (·.2) = [assign (.Subscript o ip p2) X.env] := by rfl)
    (ha : ∀ v, assign (.Subscript o ip p2) X.env v = (do
      let ov ← holding [v] (eval o X.env)
      let iv ← holding [v, ov] (eval ip X.env)
      standAt p2
      holding [v, ov, iv] (setItem ov iv v)
      release [v, ov, iv] []) := by intro _; rfl) : PDs X (.Assign [.Subscript o ip p2] e pos) (wSetI wo wi we) :=
  ⟨fun Wx tk => PS.imp (ps_asg (he.run Wx tk) (pg_sub (ho.run Wx tk) (hi.run Wx tk) set_list ha) hs hw h1) fun D σ H ⟨W, env, S, q, ok, sl, hl, hw, cs⟩ => ⟨W, env, S, _, _, ok, sl, hw, fun d S1 v W1 H1 h1 s1 ok1 r1 =>
    ⟨W1, env, S1, _, _, ok1, sl.mono s1.vis, h1, fun o1 S2 u W2 H2 h2 s2 ok2 r2 => ⟨W2, env, S2, _, _, ok2, sl.mono (s1.trans s2).vis, h2, fun i1 S3 t W3 H3 h3 s3 ok3 r3 => by
      obtain ⟨a, xs, n, j, S4, rfl, rfl, e1, e2, st4, ok4, h4⟩ := setIx_rep ok3 (r2.mono s3.vis) r3 (r1.mono (s2.trans s3).vis) h3
      exact ⟨a, xs, j, n, rfl, rfl, e1, e2, cs.nx _ S4 _ W3 _ h4 (s1.trans (s2.trans (s3.trans st4))) ok4 (sl.mono (s1.trans (s2.trans s3)).vis) hl⟩, CXc.of (cs.mono (s1.trans s2)) (sl.mono (s1.trans s2).vis)⟩, CXc.of (cs.mono s1) (sl.mono s1.vis)⟩, CXc.of cs sl⟩⟩
end

/-! ### methods of a mutable list -/
def mutL (S : Sto) (d : D) (k : Addr → List D → Prop) : Prop := match d with
  | .ref a => match S a with
    | some (.lst xs) => k a xs
    | _ => False
  | _ => False
theorem mutL_rep {K : PySem.W.Frag} {W : Hp} {S : Sto} {H : Hp} {d : D} {v : V} {k : Addr → List D → Prop} (ok : Ok K W S H) (r : Rep K W d v) (h : mutL S d k) : ∃ a xs vs, d = .ref a ∧ v = .ref a ∧ S a = some (.lst xs) ∧ H a = some (.lst vs) ∧ Reps K W xs vs ∧ k a xs := by
  cases d with
  | ref a =>
    have h' : (match S a with | some (.lst xs) => k a xs | _ => False) := h
    cases q : S a with
    | none => rw [q] at h'; exact h'.elim
    | some mo =>
      rw [q] at h'
      cases mo with
      | lst xs =>
        obtain ⟨o, e3, vs, rfl, rv⟩ := ok.sto _ _ q
        exact ⟨a, xs, vs, rfl, r, q, e3, rv, h'⟩
      | _ => exact h'.elim
  | _ => exact h.elim
def lM (K : PySem.W.Frag) (o : OM) : V → List V → Hp → VK → Prop := fun x xs H Q => ∃ W S d ds Q0, Ok K W S H ∧ Rep K W d x ∧ Reps K W ds xs ∧ o S d ds Q0 ∧ CV K W S H Q0 Q
def wMt (o : OM) (wo : WPe) (wa : WPa) : WPe := fun env S Q X => wo env S (fun x S1 => mutL S1 x fun _ _ => wa env S1 (fun ds S2 => o S2 x ds Q) X) X
theorem MtR.imp {X : Cx} {id : String} {r r' : V → List V → Hp → VK → Prop} (h : MtR X id r) (i : ∀ x xs H Q, r' x xs H Q → r x xs H Q) : MtR X id r' := fun pins s σ H x xs v us Q I rx rs q => h pins s σ H x xs v us Q I rx rs (i _ _ _ _ q)
section
variable {X : Cx} {o e : Expr} {es : List Expr} {name : Str} {apos cpos : Pos} {mid : String} {om : OM} {wo : WPe} {wa : WPa}
theorem pd_lm (slot : Slot "list" name mid) (hty : typeOf (.builtin mid) = pure (.type "method_descriptor")) (hm : MtR X mid (lM X.K om)) (ho : PD X o wo) (ha : PDa X (e :: es) wa)
    (hbase : attributeBase o name X.env (eval o X.env) = eval o X.env := by rfl)
    (hfew : ((backTo cpos (starEach (e :: es) X.env)).all (fun x => !x.1) && (backToKw cpos (keywordEach [] X.env)).all (fun x => x.1.isSome)
      && decide ((e :: es).length + ([] : List Keyword).length + (if ([] : List Keyword).isEmpty then 0 else 1) < 30)) = true := by rfl)
    (hline : (apos.endLine == cpos.line) = true := by rfl) (hs : starEach (e :: es) X.env = (false, eval e X.env) :: starEach es X.env := by rfl) (hplain : (backTo cpos (starEach es X.env)).any (·.1) = false := by rfl) :
    PD X (.Call (.Attribute o name apos) (e :: es) [] cpos) (wMt om wo wa) :=
  ⟨fun Wx tk => PE.imp (pe_bm PySem.F.plainAttrs_list slot hty hm (ho.run Wx tk) (ha.run Wx tk) hbase hfew hline hs hplain) fun σ H Q ⟨W, env, S, Q0, X1, ok, sl, hw, cv, cx⟩ => ⟨W, env, S, _, X1, ok, sl, hw, fun d S1 v W1 H1 h1 s1 ok1 r1 => by
    obtain ⟨a, xs, vs, rfl, rfl, e1, e2, rv, h2⟩ := mutL_rep ok1 r1 h1
    exact ⟨.inl ⟨rfl, vs, SqL.of e2⟩, W1, env, S1, _, X1, ok1, sl.mono s1.vis, h2, fun ds S2 us W2 H2 h3 s2 ok2 r2 => ⟨W2, S2, _, ds, Q0, ok2, r1.mono s2.vis, r2, h3, cv.mono (s1.trans s2)⟩, cx.mono s1⟩, cx⟩⟩
theorem pd_lm0 (slot : Slot "list" name mid) (hty : typeOf (.builtin mid) = pure (.type "method_descriptor")) (hm : MtR X mid (lM X.K om)) (ho : PD X o wo)
    (hbase : attributeBase o name X.env (eval o X.env) = eval o X.env := by rfl) (hline : (apos.endLine == cpos.line) = true := by rfl) :
    PD X (.Call (.Attribute o name apos) [] [] cpos) (wMt om wo wNil) :=
  ⟨fun Wx tk => PE.imp (pe_bm0 PySem.F.plainAttrs_list slot hty hm (ho.run Wx tk) hbase hline) fun σ H Q ⟨W, env, S, Q0, X1, ok, sl, hw, cv, cx⟩ => ⟨W, env, S, _, X1, ok, sl, hw, fun d S1 v W1 H1 h1 s1 ok1 r1 => by
    obtain ⟨a, xs, vs, rfl, rfl, e1, e2, rv, h2⟩ := mutL_rep ok1 r1 h1
    exact ⟨.inl ⟨rfl, vs, SqL.of e2⟩, W1, S1, _, [], Q0, ok1, r1, rfl, h2, cv.mono s1⟩, cx⟩⟩
def oAppend : OM := fun S d ds Q => mutL S d fun a xs => one ds fun e => xs.length < sizeLine ∧ Q .non (put S a (.lst (xs ++ [e])))
theorem md_append : MtR X "list.append" (lM X.K oAppend) := MtR.imp mt_append fun x vs H Q ⟨W, S, d, ds, Q0, ok, r, rs, ho, cv⟩ => by
  obtain ⟨a, xs, us, rfl, rfl, e1, e2, rv, h⟩ := mutL_rep ok r ho
  obtain ⟨y, rfl, hz, h⟩ := one_ex h
  obtain ⟨t, rfl, rt⟩ := reps1 rs
  exact ⟨a, us, t, rfl, rfl, e2, by rw [rv.length]; exact hz, cv _ _ _ _ _ h (ok.stC e1) (ok.chg e1 ⟨_, rfl, rv.append (Reps.one rt)⟩) rfl⟩
def oExtend : OM := fun S d ds Q => mutL S d fun a xs => one ds fun e => some! (seqM S e) fun ys => xs.length + ys.length ≤ sizeLine ∧ Q .non (put S a (.lst (xs ++ ys)))
theorem md_extend : MtR X "list.extend" (lM X.K oExtend) := MtR.imp mt_extend fun x vs H Q ⟨W, S, d, ds, Q0, ok, r, rs, ho, cv⟩ => by
  obtain ⟨a, xs, us, rfl, rfl, e1, e2, rv, h⟩ := mutL_rep ok r ho
  obtain ⟨y, rfl, h⟩ := one_ex h
  obtain ⟨ys, e3, hz, h⟩ := some!_ex h
  obtain ⟨t, rfl, rt⟩ := reps1 rs
  obtain ⟨b, zs, rfl, e4, rz⟩ := seqM_rep ok rt e3
  exact ⟨a, b, us, zs, rfl, rfl, e2, e4, by rw [rv.length, rz.length]; exact hz, cv _ _ _ _ _ h (ok.stC e1) (ok.chg e1 ⟨_, rfl, rv.append rz⟩) rfl⟩
theorem reps_dropLast {K : PySem.W.Frag} {W : Hp} {xs : List D} {vs : List V} (r : Reps K W xs vs) : Reps K W xs.dropLast vs.dropLast := by
  rw [List.dropLast_eq_take, List.dropLast_eq_take, r.length]
  exact r.take _
def oPop : OM := fun S d ds Q => mutL S d fun a xs => ds = [] ∧ some! xs[xs.length - 1]? fun y => Q y (put S a (.lst xs.dropLast))
theorem md_pop : MtR X "list.pop" (lM X.K oPop) := MtR.imp mt_pop fun x vs H Q ⟨W, S, d, ds, Q0, ok, r, rs, ho, cv⟩ => by
  obtain ⟨a, xs, us, rfl, rfl, e1, e2, rv, rfl, h⟩ := mutL_rep ok r ho
  obtain ⟨y, e3, h⟩ := some!_ex h
  obtain ⟨t, e4, rt⟩ := rv.get e3
  have e5 : vs = [] := rs
  exact ⟨a, us, t, rfl, e5, e2, by rw [rv.length]; exact e4, cv _ _ _ _ _ h (ok.stC e1) (ok.chg e1 ⟨_, rfl, reps_dropLast rv⟩) rt⟩
end

/-! ### defs -/
section
variable {P : Program} {w : World} {K : PySem.W.Frag} {mg : Str → Option Value} {base : Heap}
def startD (N : List Str) (ds : List D) : DE := ds.map some ++ List.replicate (N.length - ds.length) none
theorem getV_map : ∀ {ds : List D} {m : Nat} {i : Nat} {d : D}, getV (ds.map some ++ List.replicate m none) i = some d → ds[i]? = some d
  | [], 0, i, d, h => by cases h
  | [], m + 1, 0, d, h => by cases h
  | [], m + 1, i + 1, d, h => by
    have h' := getV_map (ds := []) (m := m) (i := i) h
    simp at h'
  | x :: r, m, 0, d, h => h
  | x :: r, m, i + 1, d, h => getV_map (ds := r) (m := m) (i := i) h
theorem sl_start {W : Hp} {N : List Str} {ds : List D} {vs : List V} (r : Reps K W ds vs) : Sl K W (startD N ds) (L2.start N vs) := fun i d h => by
  obtain ⟨v, e, rv⟩ := r.get (getV_map h)
  refine ⟨v, ?_, rv⟩
  unfold L2.start
  rw [List.getElem?_append_left (by rw [List.length_map]; exact lt_of_some e), List.getElem?_map, e]
  rfl
/-- THE RULE for a def: its body as a derivation, and its reading over data -/
theorem Fun.okD {x qual : Str} {st : Stmt} {f : Addr} {fd : FuncData} {N ps : List Str} {k : Nat} {spec : Ctr} (F : Fun K x qual st f fd) (S : FnScope N ps (defScope st)) (hle : ps.length ≤ N.length)
    (len : ∀ ds S Q E, spec ds S Q E → ds.length = ps.length)
    (hbody : ∀ (cdv : Value) (A : Around) (outer : List Env) (s : Shared) (H : Hp) (E : XK), Room k (A.deeper (envOfC qual (defScope st) s.heap.objs.size f cdv)) →
      ∃ ws, PDss (cxOf (L2.CX P w) P w K mg base N qual (defScope st) f cdv A outer s H E) (defBody st) ws ∧ ∀ ds S Q X1, spec ds S Q X1 → ws (startD N ds) S { nx := fun _ S' => Q .non S', rt := Q, bk := fun _ _ => False, ct := fun _ _ => False, xc := fun C fs _ S' => X1 C fs S' }) :
    FnD P w K mg base (k + 1) f fd ps spec := by
  refine F.okX S (fun vs H Q E ⟨W, S', ds, Q0, X1, ok, r, h, _⟩ => ?_) (fun cdv A outer s H vs Q E hr ⟨W, S', ds, Q0, X1, ok, r, h, cv, cx⟩ => ?_)
  · rw [r.length]; exact len ds S' Q0 X1 h
  · obtain ⟨ws, hp, hq⟩ := hbody cdv A outer s H E hr
    refine ⟨_, hp.run (fun c d σ H' => E c d H') (takes_of rfl rfl rfl rfl), W, _, S', _, ok, sl_start r, ?_, hq ds S' Q0 X1 h, ?_, ?_, ?_, ?_, ?_⟩
    · have e := r.length
      have e2 := len ds S' Q0 X1 h
      show (L2.start N vs).length = N.length
      unfold L2.start
      rw [List.length_append, List.length_map, List.length_replicate]
      omega
    · exact fun _ S1 σ1 W1 H1 h1 s1 ok1 _ _ => cv .non S1 .non W1 H1 h1 s1 ok1 rfl
    · exact fun d S1 v W1 H1 h1 s1 ok1 r1 => cv d S1 v W1 H1 h1 s1 ok1 r1
    · exact fun _ _ _ _ _ h1 _ _ _ => h1.elim
    · exact fun _ _ _ _ _ h1 _ _ _ => h1.elim
    · exact fun C fs _ S1 dd gs _ W1 H1 h1 s1 ok1 _ e1 r1 => cx C fs S1 dd gs W1 H1 h1 s1 ok1 e1 r1
end
end DL
set_option Elab.async false
set_option linter.all false
set_option maxRecDepth 100000
set_option maxHeartbeats 1000000
/-! The data layer, part g: targets, loops, comprehensions. -/
namespace DL
open PySem PySem.Spec PyProof.Rows L2

/-! ### targets: names and tuples of names -/
abbrev WPg := D → DE → (DE → Prop) → Prop
def gN (i : Nat) : WPg := fun d env k => k (setV env i d)
def gAll : List WPg → List D → DE → (DE → Prop) → Prop
  | [], [], env, k => k env
  | g :: gs, d :: ds, env, k => g d env fun e => gAll gs ds e k
  | _, _, _, _ => False
def gT (gs : List WPg) : WPg := fun d env k => match d with
  | .tup xs => xs.length = gs.length ∧ gAll gs xs env k
  | _ => False
def lG (K : PySem.W.Frag) (n : Nat) (vs : List Nat) (t : WPg) : TG := fun v σ H Q => ∃ W S env d k, Ok K W S H ∧ Sl K W env σ ∧ σ.length = n ∧ Rep K W d v ∧ t d env k ∧
  ∀ e σ', k e → Sl K W e σ' → σ'.length = n → wipe σ' vs = wipe σ vs → Q σ' H
def lGs (K : PySem.W.Frag) (n : Nat) (vs : List Nat) (ts : List WPg) : TGs := fun v σ H Q => ∃ W S env d k, Ok K W S H ∧ Sl K W env σ ∧ σ.length = n ∧ Reps K W d v ∧ gAll ts d env k ∧
  ∀ e σ', k e → Sl K W e σ' → σ'.length = n → wipe σ' vs = wipe σ vs → Q σ' H
structure PDg (X : Cx) (tg : Expr) (vs : List Nat) (t : WPg) : Prop where
  run : PG X tg (lG X.K X.N.length vs t)
structure PDgs (X : Cx) (tg : List Expr) (vs : List Nat) (t : List WPg) : Prop where
  run : PGs X tg (lGs X.K X.N.length vs t)
theorem wipe_set : ∀ {vs : List Nat} {σ : L2.St} {i : Nat} {o : Option V}, i ∈ vs → wipe (σ.set i o) vs = wipe σ vs
  | [], _, _, _, h => by cases h
  | v :: vs, σ, i, o, h => by
    show (wipe (σ.set i o) vs).set v none = (wipe σ vs).set v none
    by_cases hi : i ∈ vs
    · rw [wipe_set hi]
    · have e : i = v := by
        cases h with
        | head => rfl
        | tail _ h => exact absurd h hi
      subst e
      have key : ∀ {us : List Nat} {τ : L2.St}, i ∉ us → wipe (τ.set i o) us = (wipe τ us).set i o := fun {us τ} => by
        induction us with
        | nil => intro _; rfl
        | cons u us ih =>
          intro hu
          have h1 : i ≠ u := fun z => hu (by rw [z]; exact List.mem_cons_self)
          show (wipe (τ.set i o) us).set u none = ((wipe τ us).set u none).set i o
          rw [ih (fun z => hu (List.mem_cons_of_mem _ z)), List.set_comm _ _ h1]
      rw [key hi, List.set_set]
theorem PG.imp {X : Cx} {tg : Expr} {g g' : TG} (h : PG X tg g) (i : ∀ v σ H Q, g' v σ H Q → g v σ H Q) : PG X tg g' := ⟨fun pins s σ H v u Q I r q => h.run pins s σ H v u Q I r (i _ _ _ _ q)⟩
theorem PGs.imp {X : Cx} {tg : List Expr} {g g' : TGs} (h : PGs X tg g) (i : ∀ v σ H Q, g' v σ H Q → g v σ H Q) : PGs X tg g' := ⟨fun pins s σ H v u Q I r q => h.run pins s σ H v u Q I r (i _ _ _ _ q)⟩
section
variable {X : Cx} {pos : Pos} {vs : List Nat} {x : Str} {i : Nat} {e : Expr} {es : List Expr} {t : WPg} {ts : List WPg}
theorem pdg_name (hN : X.N.Nodup) (hi : X.N[i]? = some x) (hx : Loc X.env.scope x) (hv : i ∈ vs) (hf : X.fn x = true ∨ X.env.scope.names.lookup x = some .local := by first | exact .inl rfl | exact .inr rfl | assumption) : PDg X (.Name x pos) vs (gN i) :=
  ⟨PG.imp (pg_name hN hi hx hf) fun v σ H Q ⟨W, S, env, d, k, ok, sl, hl, r, ht, hq⟩ => hq _ _ ht (sl.set (by rw [hl]; exact lt_of_some hi) r) (by rw [List.length_set]; exact hl) (wipe_set hv)⟩
theorem pdgs_nil : PDgs X [] vs [] := ⟨PGs.imp pgs_nil fun v σ H Q ⟨W, S, env, d, k, ok, sl, hl, r, ht, hq⟩ => by
  cases d with
  | nil => exact ⟨r, hq _ _ ht sl hl rfl⟩
  | cons _ _ => exact ht.elim⟩
theorem pdgs_cons (h1 : PDg X e vs t) (h2 : PDgs X es vs ts) (hs : (assignEach (e :: es) X.env).map (·.2) = assign e X.env :: (assignEach es X.env).map (·.2) := by rfl) : PDgs X (e :: es) vs (t :: ts) :=
  ⟨PGs.imp (pgs_cons h1.run h2.run hs) fun v σ H Q ⟨W, S, env, d, k, ok, sl, hl, r, ht, hq⟩ => by
    cases d with
    | nil => exact ht.elim
    | cons d ds =>
      obtain ⟨u, us, e1, r1, r2⟩ := r
      refine ⟨u, us, e1, W, S, env, d, _, ok, sl, hl, r1, ht, fun e σ1 h1 sl1 hl1 hw1 => ⟨W, S, e, ds, k, ok, sl1, hl1, r2, h1, fun e2 σ2 h2 sl2 hl2 hw2 => hq e2 σ2 h2 sl2 hl2 (hw2.trans hw1)⟩⟩⟩
theorem pdg_tup {z : Nat} (hc : X.calm = true) (h : PDgs X es vs ts) (hn : (assignEach es X.env).length = ts.length := by rfl) (hst : (assignEach es X.env).findIdx? (·.1) = none := by rfl) : PDg X (.Tuple es z pos) vs (gT ts) :=
  ⟨PG.imp (pg_tup hc h.run hn hst) fun v σ H Q ⟨W, S, env, d, k, ok, sl, hl, r, ht, hq⟩ => by
    cases d with
    | tup xs =>
      obtain ⟨a, us, e1, e2, e3⟩ := r
      exact ⟨a, us, e1, sqT_mono ok.vis e2, by rw [e3.length]; exact ht.1, W, S, env, xs, k, ok, sl, hl, e3, ht.2, hq⟩
    | _ => exact ht.elim⟩
end

/-! ### what is walked -/
abbrev WPi := DE → Sto → (List D → (Sto → Prop) → Sto → Prop) → XQ → Prop
structure JOk (K : PySem.W.Frag) (J : It) (W0 : Hp) (items : List D) (g : Sto → Prop) : Prop where
  step : ∀ (i : Nat) W S H d, items[i]? = some d → Same W0 W → Ok K W S H → g S → J.go i H ∧ ∀ x H', J.yld i H x H' → ∃ W', Stp W S H W' S H' ∧ Ok K W' S H' ∧ Rep K W' d x
  stop : ∀ W S H, Same W0 W → Ok K W S H → g S → J.stop items.length H
def lI (K : PySem.W.Frag) (Wx : WX) (w : WPi) : TI := fun σ H R => ∃ W env S Q0 X0, Ok K W S H ∧ Sl K W env σ ∧ w env S Q0 X0 ∧
  (∀ items g S' W' H' J, Q0 items g S' → Stp W S H W' S' H' → Ok K W' S' H' → JOk K J W' items g → R J H') ∧ CXc K W S H X0 (fun c d H' => Wx c d σ H')
structure PDi (X : Cx) (tg e : Expr) (w : WPi) : Prop where
  run : ∀ Wx, Takes X Wx → PI X tg e (lI X.K Wx w)
theorem PI.imp {X : Cx} {tg e : Expr} {t t' : TI} (h : PI X tg e t) (i : ∀ σ H R, t' σ H R → t σ H R) : PI X tg e t' := ⟨fun pins s σ H R I q => h.run pins s σ H R I (i _ _ _ q)⟩
/-- a list or a tuple -/
def iSeq (K : PySem.W.Frag) (tl : TE) : TI := fun σ H R => tl σ H fun x H1 => ∃ a, x = .ref a ∧ (((∃ xs, SqL K H1 a xs) ∧ R (Itl K a) H1) ∨ ((∃ xs, SqT K H1 a xs) ∧ R (Itt K a) H1))
theorem pi_seq {X : Cx} {tg l : Expr} {tl : TE} (hl : PE X l tl) : PI X tg l (iSeq X.K tl) := by
  refine ⟨fun pins s σ H R I h => ?_⟩
  refine thn (hl.run pins s σ H _ I h) fun v s1 ⟨x, H1, I1, r1, q1⟩ => ?_
  obtain ⟨a, e, ⟨⟨xs, hq⟩, q⟩ | ⟨⟨xs, hq⟩, q⟩⟩ := q1
  · subst e
    cases r1
    obtain ⟨its, rv, p, hz⟩ := I1.list hq
    refine wpAny_pyIter_list p.isList ?_
    refine ⟨s1.heap.objs.size, [s1.heap.objs.size], _, _, H1, rfl, I1.kept (t' := s1.toks) fun b o e => Heap.get?_push_of_some _ e, turn_list a _, ⟨_, Heap.get?_push_size _ rfl, rfl, rfl⟩, fun b hb => ?_, q⟩
    have e : b = s1.heap.objs.size := by simpa using hb
    subst e
    exact I1.fpOk (Nat.le_refl _) (I1.hok.fresh (Nat.le_refl _))
  · subst e
    cases r1
    obtain ⟨its, rv, p, hz⟩ := I1.tuple hq
    refine wpAny_pyIter_tuple (show s1.heap.IsTuple a its.toArray from p) ?_
    refine ⟨s1.heap.objs.size, [s1.heap.objs.size], _, _, H1, rfl, I1.kept (t' := s1.toks) fun b o e => Heap.get?_push_of_some _ e, turn_tuple a _, ⟨_, Heap.get?_push_size _ rfl, rfl, rfl⟩, fun b hb => ?_, q⟩
    have e : b = s1.heap.objs.size := by simpa using hb
    subst e
    exact I1.fpOk (Nat.le_refl _) (I1.hok.fresh (Nat.le_refl _))
def wIt (w : WPe) : WPi := fun env S Q X => w env S (fun d S1 => some! (seqA S1 d) fun xs => Q xs (fun S' => seqA S' d = some xs) S1) X
section
variable {K : PySem.W.Frag}
theorem jok_list {W0 : Hp} {S0 : Sto} {H0 : Hp} {d : D} {a : Addr} {xs : List D} (ok : Ok K W0 S0 H0) (r : Rep K W0 d (.ref a)) (hL : seqL S0 d = some xs) (hA : ∀ {S}, seqA S d = seqL S d) :
    (∃ vs, SqL K H0 a vs) ∧ JOk K (Itl K a) W0 xs (fun S' => seqA S' d = some xs) := by
  obtain ⟨b, ws, e1, e2, e3⟩ := seqL_rep ok r hL
  cases e1
  refine ⟨⟨ws, e2⟩, ⟨fun i W S H d hd s1 ok1 g => ?_, fun W S H s1 ok1 g => ?_⟩⟩
  · rw [hA] at g
    obtain ⟨c, zs, e7, e8, e9⟩ := seqL_rep ok1 (r.mono s1) g
    cases e7
    obtain ⟨u, hu, ru⟩ := e9.get hd
    refine ⟨⟨zs, u, e8, hu⟩, fun x H' ⟨e4, e5⟩ => ?_⟩
    subst e4
    have e6 := e5 zs e8
    rw [hu] at e6
    cases e6
    exact ⟨W, Stp.refl, ok1, ru⟩
  · rw [hA] at g
    obtain ⟨c, zs, e7, e8, e9⟩ := seqL_rep ok1 (r.mono s1) g
    cases e7
    exact ⟨zs, e8, Nat.le_of_eq e9.length⟩
theorem jok_seq {W0 : Hp} {S0 : Sto} {H0 : Hp} {d : D} {v : V} {xs : List D} (ok : Ok K W0 S0 H0) (r : Rep K W0 d v) (h : seqA S0 d = some xs) :
    ∃ a, v = .ref a ∧ (((∃ vs, SqL K H0 a vs) ∧ JOk K (Itl K a) W0 xs (fun S' => seqA S' d = some xs)) ∨ ((∃ vs, SqT K H0 a vs) ∧ JOk K (Itt K a) W0 xs (fun S' => seqA S' d = some xs))) := by
  obtain ⟨a, vs, rfl, hq, rv⟩ := seqA_rep ok r h
  refine ⟨a, rfl, ?_⟩
  cases d with
  | tup ys =>
    cases h
    obtain ⟨b, ws, e1, e2, e3⟩ := r
    cases e1
    refine .inr ⟨⟨ws, sqT_mono ok.vis e2⟩, ⟨fun i W S H d hd s1 ok1 _ => ?_, fun W S H s1 ok1 _ => ?_⟩⟩
    · obtain ⟨u, hu, ru⟩ := e3.get hd
      have hT := sqT_mono (s1.trans ok1.vis) e2
      refine ⟨⟨ws, u, hT, hu⟩, fun x H' ⟨e4, e5⟩ => ?_⟩
      subst e4
      have e6 := e5 ws hT
      rw [hu] at e6
      cases e6
      exact ⟨W, Stp.refl, ok1, ru.mono s1⟩
    · exact ⟨ws, sqT_mono (s1.trans ok1.vis) e2, Nat.le_of_eq e3.length⟩
  | lst ys => exact .inl (jok_list ok r h rfl)
  | fro ys => exact .inl (jok_list ok r h rfl)
  | ref b => exact .inl (jok_list ok r h rfl)
  | _ => cases h
end
section
variable {X : Cx} {tg e a b : Expr} {w wa wb : WPe} {p pos : Pos}
theorem pdi_seq (h : PD X e w) : PDi X tg e (wIt w) :=
  ⟨fun Wx tk => PI.imp (pi_seq (h.run Wx tk)) fun σ H R ⟨W, env, S, Q0, X1, ok, sl, hw, cv, cx⟩ => ⟨W, env, S, _, X1, ok, sl, hw, fun d S1 v W1 H1 h1 s1 ok1 r1 => by
    obtain ⟨xs, e1, h1⟩ := some!_ex h1
    obtain ⟨a, rfl, ⟨q, j⟩ | ⟨q, j⟩⟩ := jok_seq ok1 r1 e1
    · exact ⟨a, rfl, .inl ⟨q, cv _ _ S1 W1 H1 _ h1 s1 ok1 j⟩⟩
    · exact ⟨a, rfl, .inr ⟨q, cv _ _ S1 W1 H1 _ h1 s1 ok1 j⟩⟩, cx⟩⟩
def rngD (lo : Int) (n : Nat) : List D := (List.range n).map fun (i : Nat) => D.int (lo + (i : Int))
theorem rngD_get {lo : Int} {n i : Nat} {d : D} (h : (rngD lo n)[i]? = some d) : i < n ∧ d = .int (lo + (i : Int)) := by
  unfold rngD at h
  rw [List.getElem?_map] at h
  by_cases hi : i < n
  · rw [List.getElem?_range hi] at h
    exact ⟨hi, (Option.some.inj h).symm⟩
  · rw [List.getElem?_eq_none (by rw [List.length_range]; omega)] at h
    cases h
theorem rngD_length {lo : Int} {n : Nat} : (rngD lo n).length = n := by
  unfold rngD
  rw [List.length_map, List.length_range]
theorem jok_rng {K : PySem.W.Frag} {W0 : Hp} {lo : Int} {n : Nat} : JOk K (Itr lo n) W0 (rngD lo n) (fun _ => True) :=
  ⟨fun i W S H d hd s1 ok1 _ => by
    obtain ⟨hi, rfl⟩ := rngD_get hd
    exact ⟨hi, fun x H' ⟨e1, e2⟩ => by subst e1; exact ⟨W, Stp.refl, ok1, e2⟩⟩, fun W S H _ _ _ => by rw [rngD_length]; exact Nat.le_refl _⟩
def wRg1 (wa : WPe) : WPi := fun env S Q X => wa env S (fun a S1 => asI a fun j => (-(2 ^ 62) ≤ j ∧ j < 2 ^ 62) ∧ Q (rngD 0 j.toNat) (fun _ => True) S1) X
def wRg2 (wa wb : WPe) : WPi := fun env S Q X => wa env S (fun a S1 => asI a fun i => wb env S1 (fun b S2 => asI b fun j => (-(2 ^ 62) ≤ i ∧ i < 2 ^ 62 ∧ -(2 ^ 62) ≤ j ∧ j < 2 ^ 62) ∧ Q (rngD i (j - i).toNat) (fun _ => True) S2) X) X
theorem pdi_rg1 (hm : X.mg "range" = none) (ha : PD X a wa) (hg : Gl X "range" := by rfl) (hs : starEach [a] X.env = [(false, eval a X.env)] := by rfl) : PDi X tg (.Call (.Name "range" p) [a] [] pos) (wRg1 wa) :=
  ⟨fun Wx tk => PI.imp (pi_range1 hg hm (pa_cons (ha.run Wx tk) pa_nil hs) hs) fun σ H R ⟨W, env, S, Q0, X1, ok, sl, hw, cv, cx⟩ => ⟨W, env, S, _, X1, ok, sl, hw, fun d S1 v W1 H1 h1 s1 ok1 r1 => by
    obtain ⟨j, rfl, ⟨h2, h3⟩, h4⟩ := asI_ex h1
    exact ⟨j, by rw [show v = .int j from r1], h2, h3, cv _ _ S1 W1 H1 _ h4 s1 ok1 jok_rng⟩, cx⟩⟩
theorem pdi_rg2 (hm : X.mg "range" = none) (ha : PD X a wa) (hb : PD X b wb) (hg : Gl X "range" := by rfl) (hs : starEach [a, b] X.env = [(false, eval a X.env), (false, eval b X.env)] := by rfl) (hs2 : starEach [b] X.env = [(false, eval b X.env)] := by rfl) :
    PDi X tg (.Call (.Name "range" p) [a, b] [] pos) (wRg2 wa wb) :=
  ⟨fun Wx tk => PI.imp (pi_range2 hg hm (pa_cons (ha.run Wx tk) (pa_cons (hb.run Wx tk) pa_nil hs2) (by rw [hs, hs2])) hs hs2) fun σ H R ⟨W, env, S, Q0, X1, ok, sl, hw, cv, cx⟩ => ⟨W, env, S, _, X1, ok, sl, hw, fun d S1 v W1 H1 h1 s1 ok1 r1 => by
    obtain ⟨i, rfl, h1⟩ := asI_ex h1
    refine ⟨W1, env, S1, _, X1, ok1, sl.mono s1.vis, h1, fun d2 S2 u W2 H2 h2 s2 ok2 r2 => ?_, cx.mono s1⟩
    obtain ⟨j, rfl, h3, h4⟩ := asI_ex h2
    exact ⟨i, j, by rw [show v = .int i from r1, show u = .int j from r2], h3, cv _ _ S2 W2 H2 _ h4 (s1.trans s2) ok2 jok_rng⟩, cx⟩⟩
end

/-! ### for -/
/-- by an invariant over (turn, slots, store) -/
def forI (t : WPg) (body : WPs) (g : Sto → Prop) (items : List D) (env : DE) (S : Sto) (q : QS) : Prop := ∃ P : Nat → DE → Sto → Prop, P 0 env S ∧ (∀ i e S, i ≤ items.length → P i e S → g S) ∧
  (∀ i d e S, items[i]? = some d → P i e S → t d e fun e1 => body e1 S { q with nx := P (i + 1), ct := P (i + 1), bk := q.nx }) ∧ ∀ e S, P items.length e S → q.nx e S
/-- turn by turn -/
def forL (t : WPg) (body : WPs) (g : Sto → Prop) : List D → WPs
  | [], env, S, q => g S ∧ q.nx env S
  | d :: r, env, S, q => g S ∧ t d env fun e => body e S { q with nx := fun e2 S2 => forL t body g r e2 S2 q, ct := fun e2 S2 => forL t body g r e2 S2 q, bk := q.nx }
theorem forI_of {t : WPg} {body : WPs} {g : Sto → Prop} {items : List D} {env : DE} {S : Sto} {q : QS} (h : forL t body g items env S q) : forI t body g items env S q := by
  refine ⟨fun i e S => forL t body g (items.drop i) e S q, h, fun i e S hi h => ?_, fun i d e S hd h => ?_, fun e S h => ?_⟩
  · dsimp only at h
    by_cases hlt : i < items.length
    · rw [List.drop_eq_getElem_cons hlt] at h
      exact h.1
    · rw [List.drop_eq_nil_of_le (by omega)] at h
      exact h.1
  · dsimp only at h
    obtain ⟨hlt, e1⟩ := List.getElem?_eq_some_iff.mp hd
    subst e1
    rw [List.drop_eq_getElem_cons hlt] at h
    exact h.2
  · dsimp only at h
    rw [List.drop_length] at h
    exact h.2
/-- a fold -/
theorem forI_fold {α : Type} {t : WPg} {body : WPs} {g : Sto → Prop} {items : List D} {env : DE} {S : Sto} {q : QS} (st : α → DE → Sto → Prop) (step : α → D → α) (init : α) (h0 : st init env S) (hg : ∀ a e S, st a e S → g S)
    (hs : ∀ i d a e S, items[i]? = some d → a = (items.take i).foldl step init → st a e S → t d e fun e1 => body e1 S { q with nx := st (step a d), ct := st (step a d), bk := q.nx }) (hd : ∀ e S, st (items.foldl step init) e S → q.nx e S) : forI t body g items env S q := by
  refine ⟨fun i e S => st ((items.take i).foldl step init) e S, by simpa using h0, fun i e S _ h => hg _ e S h, fun i d e S hi h => ?_, fun e S h => hd e S (by simpa using h)⟩
  have key : (items.take (i + 1)).foldl step init = step ((items.take i).foldl step init) d := by
    rw [List.take_add_one, hi]
    simp
  dsimp only
  rw [key]
  exact hs i d _ e S hi rfl h
/-- .. what follows the body told by what it wants -/
theorem forI_foldq {α : Type} {t : WPg} {body : WPs} {g : Sto → Prop} {items : List D} {env : DE} {S : Sto} {q : QS} (st : α → DE → Sto → Prop) (step : α → D → α) (init : α) (h0 : st init env S) (hg : ∀ a e S, st a e S → g S)
    (hs : ∀ i d a e S, items[i]? = some d → a = (items.take i).foldl step init → st a e S → ∀ q' : QS, (∀ e S, st (step a d) e S → q'.nx e S) → q'.rt = q.rt → q'.bk = q.nx → q'.ct = q'.nx → q'.xc = q.xc → t d e fun e1 => body e1 S q') (hd : ∀ e S, st (items.foldl step init) e S → q.nx e S) : forI t body g items env S q :=
  forI_fold st step init h0 hg (fun i d a e S hi ha h => hs i d a e S hi ha h _ (fun _ _ z => z) rfl rfl rfl rfl) hd
/-- .. by an invariant -/
theorem forI_invq {t : WPg} {body : WPs} {g : Sto → Prop} {items : List D} {env : DE} {S : Sto} {q : QS} (P : Nat → DE → Sto → Prop) (h0 : P 0 env S) (hg : ∀ i e S, P i e S → g S)
    (hs : ∀ i d e S, items[i]? = some d → P i e S → ∀ q' : QS, (∀ e S, P (i + 1) e S → q'.nx e S) → q'.rt = q.rt → q'.bk = q.nx → q'.ct = q'.nx → q'.xc = q.xc → t d e fun e1 => body e1 S q') (hd : ∀ e S, P items.length e S → q.nx e S) : forI t body g items env S q :=
  ⟨P, h0, fun i e S _ h => hg i e S h, fun i d e S hi h => hs i d e S hi h _ (fun _ _ z => z) rfl rfl rfl rfl, hd⟩
def wFor (wi : WPi) (t : WPg) (body : WPs) : WPs := fun env S q => wi env S (fun items g S1 => forI t body g items env S1 q) (xcQ q env)
section
variable {X : Cx} {tg iter : Expr} {body : List Stmt} {wi : WPi} {t : WPg} {ws : WPs} {pos : Pos} {vs : List Nat}
theorem pds_for (hc : X.calm = true) (hp : PassesOwn (model X.prog X.w) X.A X.env X.xe) (hi : PDi X tg iter wi) (hg : PDg X tg vs t) (hb : PDss X body ws) (hs : ∀ x, foldedSetIterable iter X.env x = pure x := by intro _; rfl) : PDs X (.For tg iter body [] pos) (wFor wi t ws) :=
  ⟨fun Wx tk => PS.imp (ps_for hp hc (hi.run Wx tk) hg.run (hb.run Wx tk) hs) fun D σ H ⟨W, env, S, q, ok, sl, hl, hw, cs⟩ => by
    refine ⟨W, env, S, _, _, ok, sl, hw, fun items g S1 W1 H1 J ⟨P, h0, hg0, hs0, hd0⟩ s1 ok1 jok => ?_, CXc.of cs sl⟩
    refine ⟨fun i m σ' H' => m = items.length - i ∧ i ≤ items.length ∧ σ'.length = X.N.length ∧ ∃ W' env' S', Stp W1 S1 H1 W' S' H' ∧ Ok X.K W' S' H' ∧ Sl X.K W' env' σ' ∧ P i env' S',
      ⟨items.length, rfl, Nat.zero_le _, hl, W1, env, S1, Stp.refl, ok1, sl.mono s1.vis, h0⟩, ?_⟩
    rintro i m σ' H' ⟨rfl, hi2, hl', W', env', S', s2, ok2, sl2, h2⟩
    have hgS := hg0 i env' S' hi2 h2
    by_cases hlt : i < items.length
    · have hd := List.getElem?_eq_getElem hlt
      obtain ⟨go, yl⟩ := jok.step i W' S' H' _ hd s2.vis ok2 hgS
      refine .inr ⟨go, fun σ2 H2 => σ2.length = X.N.length ∧ ∃ W2 env2 S2, Stp W1 S1 H1 W2 S2 H2 ∧ Ok X.K W2 S2 H2 ∧ Sl X.K W2 env2 σ2 ∧ P (i + 1) env2 S2,
        fun σ2 H2 ⟨hl2, h3⟩ => ⟨items.length - (i + 1), by omega, rfl, hlt, hl2, h3⟩, fun x H2 y => ?_⟩
      obtain ⟨W2, s3, ok3, rx⟩ := yl x H2 y
      refine ⟨W2, S', env', items[i], _, ok3, sl2.mono s3.vis, hl', rx, hs0 i _ env' S' hd h2, fun e2 σ3 h3 sl3 hl3 _ => ?_⟩
      have st := s1.trans (s2.trans s3)
      refine ⟨W2, e2, S', _, ok3, sl3, hl3, h3, ?_⟩
      have fin : ∀ {e4 : DE} {S4 : Sto} {σ4 : L2.St} {W4 H4 : Hp}, P (i + 1) e4 S4 → Stp W2 S' H2 W4 S4 H4 → Ok X.K W4 S4 H4 → Sl X.K W4 e4 σ4 → σ4.length = X.N.length →
          (σ4.length = X.N.length ∧ ∃ W2 env2 S2, Stp W1 S1 H1 W2 S2 H4 ∧ Ok X.K W2 S2 H4 ∧ Sl X.K W2 env2 σ4 ∧ P (i + 1) env2 S2) :=
        fun h4 s4 ok4 sl4 hl4 => ⟨hl4, _, _, _, s2.trans (s3.trans s4), ok4, sl4, h4⟩
      exact ⟨fun e4 S4 σ4 W4 H4 h4 s4 ok4 sl4 hl4 => fin h4 s4 ok4 sl4 hl4, (cs.mono st).rt, (cs.mono st).nx, fun e4 S4 σ4 W4 H4 h4 s4 ok4 sl4 hl4 => fin h4 s4 ok4 sl4 hl4, (cs.mono st).xc⟩
    · have e : i = items.length := by omega
      subst e
      exact .inl ⟨jok.stop W' S' H' s2.vis ok2 hgS, cs.nx env' S' σ' W' H' (hd0 _ _ h2) (s1.trans s2) ok2 sl2 hl'⟩⟩
end

/-! ### while -/
def wWhile (t : WPt) (body : WPs) : WPs := fun env S q => ∃ P : Nat → DE → Sto → Prop, (∃ m, P m env S) ∧ ∀ m e S, P m e S →
  t e S (fun b S1 => if b = true then body e S1 { q with nx := fun e2 S2 => ∃ m', m' < m ∧ P m' e2 S2, ct := fun e2 S2 => ∃ m', m' < m ∧ P m' e2 S2, bk := q.nx } else q.nx e S1) (xcQ q e)
theorem pds_while {X : Cx} {c : Expr} {body : List Stmt} {t : WPt} {ws : WPs} {pos : Pos} (hp : PassesOwn (model X.prog X.w) X.A X.env X.xe) (hc : PDt X c t) (hb : PDss X body ws) : PDs X (.While c body [] pos) (wWhile t ws) :=
  ⟨fun Wx tk => PS.imp (ps_while hp (hc.run Wx tk) (hb.run Wx tk)) fun D σ H ⟨W, env, S, q, ok, sl, hl, ⟨P, ⟨m0, h0⟩, hs⟩, cs⟩ => by
    refine ⟨fun m σ' H' => σ'.length = X.N.length ∧ ∃ W' env' S', Stp W S H W' S' H' ∧ Ok X.K W' S' H' ∧ Sl X.K W' env' σ' ∧ P m env' S', ⟨m0, hl, W, env, S, Stp.refl, ok, sl, h0⟩, ?_⟩
    rintro m σ' H' ⟨hl', W', env', S', s1, ok1, sl1, h1⟩
    refine ⟨W', env', S', _, _, ok1, sl1, hs m env' S' h1, fun b S2 W2 H2 h2 s2 ok2 => ?_, CXc.of (cs.mono s1) sl1⟩
    cases b with
    | true =>
      refine iteT ⟨fun σ3 H3 => ∃ m', m' < m ∧ σ3.length = X.N.length ∧ ∃ W' env' S', Stp W S H W' S' H3 ∧ Ok X.K W' S' H3 ∧ Sl X.K W' env' σ3 ∧ P m' env' S', fun σ3 H3 ⟨m', hm, h3⟩ => ⟨m', hm, h3⟩, W2, env', S2, _, ok2, sl1.mono s2.vis, hl', (if_pos rfl).mp h2, ?_⟩
      have st := s1.trans s2
      exact ⟨fun e4 S4 σ4 W4 H4 ⟨m', hm, h4⟩ s4 ok4 sl4 hl4 => ⟨m', hm, hl4, W4, e4, S4, st.trans s4, ok4, sl4, h4⟩, (cs.mono st).rt, (cs.mono st).nx, fun e4 S4 σ4 W4 H4 ⟨m', hm, h4⟩ s4 ok4 sl4 hl4 => ⟨m', hm, hl4, W4, e4, S4, st.trans s4, ok4, sl4, h4⟩, (cs.mono st).xc⟩
    | false => exact iteF (cs.nx env' S2 σ' W2 H2 ((if_neg Bool.false_ne_true).mp h2) (s1.trans s2) ok2 (sl1.mono s2.vis) hl')⟩

/-! ### list comprehensions -/
def wYes : WPt := fun _ S Q _ => Q true S
structure PDts (X : Cx) (ifs : List Expr) (w : WPt) : Prop where
  run : ∀ Wx, Takes X Wx → PTs X ifs (lT X.K Wx w)
theorem pdts_nil {X : Cx} : PDts X [] wYes := ⟨fun Wx tk => ⟨fun pins s σ H Q I ⟨W, env, S, Q0, X1, ok, sl, hw, cv, cx⟩ => pts_nil.run pins s σ H Q I (cv true S W H hw Stp.refl ok)⟩⟩
theorem pdts_one {X : Cx} {c : Expr} {w : WPt} (h : PDt X c w) : PDts X [c] w := ⟨fun Wx tk => pts_one (h.run Wx tk)⟩
def delVs (env : DE) : List Nat → DE
  | [] => env
  | v :: vs => delV (delVs env vs) v
theorem sl_wipe {K : PySem.W.Frag} {W : Hp} {env : DE} {σ : L2.St} (h : Sl K W env σ) : ∀ vs : List Nat, Sl K W (delVs env vs) (wipe σ vs)
  | [] => h
  | v :: vs => fun i d q => by
    obtain ⟨a, b⟩ := getV_delV q
    obtain ⟨u, c, r⟩ := sl_wipe h vs i d b
    refine ⟨u, ?_, r⟩
    show ((wipe σ vs).set v none)[i]? = _
    rw [List.getElem?_set_ne (Ne.symm a)]; exact c
theorem delVs_len {σ : L2.St} {vs : List Nat} {n : Nat} (h : σ.length = n) : (wipe σ vs).length = n := by rw [wipe_length]; exact h
theorem wipe_wipe {σ : L2.St} {vs : List Nat} : wipe (wipe σ vs) vs = wipe σ vs := by
  apply List.ext_getElem?
  intro i
  have key : ∀ {τ : L2.St} {us : List Nat}, (i ∈ us → i < τ.length → (wipe τ us)[i]? = some none) ∧ (i ∉ us → (wipe τ us)[i]? = τ[i]?) := fun {τ us} => by
    induction us with
    | nil => exact ⟨(fun h => by cases h), (fun _ => rfl)⟩
    | cons u us ih =>
      refine ⟨fun h hl => ?_, fun h => ?_⟩
      · show ((wipe τ us).set u none)[i]? = some none
        by_cases e : u = i
        · subst e
          exact List.getElem?_set_self (by rw [wipe_length]; exact hl)
        · rw [List.getElem?_set_ne e]
          exact ih.1 (by cases h with | head => exact absurd rfl e | tail _ h => exact h) hl
      · show ((wipe τ us).set u none)[i]? = _
        rw [List.getElem?_set_ne (fun e => h (by rw [e]; exact List.mem_cons_self))]
        exact ih.2 fun z => h (List.mem_cons_of_mem _ z)
  by_cases h : i ∈ vs
  · by_cases hl : i < σ.length
    · rw [(key (τ := wipe σ vs)).1 h (by rw [wipe_length]; exact hl), (key (τ := σ)).1 h hl]
    · rw [List.getElem?_eq_none (by rw [wipe_length, wipe_length]; omega), List.getElem?_eq_none (by rw [wipe_length]; omega)]
  · rw [(key (τ := wipe σ vs)).2 h]
def compI (t : WPg) (tt : WPt) (te : WPe) (g : Sto → Prop) (env : DE) (items : List D) (S : Sto) (Q : List D → Sto → Prop) : Prop := ∃ P : Nat → List D → Sto → Prop, P 0 [] S ∧ (∀ i acc S, i ≤ items.length → P i acc S → g S) ∧
  (∀ i d acc S, items[i]? = some d → P i acc S → t d env fun e => tt e S (fun b S1 => if b = true then te e S1 (fun y S2 => P (i + 1) (acc ++ [y]) S2) X0 else P (i + 1) acc S1) X0) ∧ ∀ acc S, P items.length acc S → Q acc S
/-- item by item -/
def compL (t : WPg) (tt : WPt) (te : WPe) (g : Sto → Prop) (env : DE) : List D → List D → Sto → (List D → Sto → Prop) → Prop
  | [], acc, S, Q => g S ∧ Q acc S
  | d :: r, acc, S, Q => g S ∧ t d env fun e => tt e S (fun b S1 => if b = true then te e S1 (fun y S2 => compL t tt te g env r (acc ++ [y]) S2 Q) X0 else compL t tt te g env r acc S1 Q) X0
theorem compI_of {t : WPg} {tt : WPt} {te : WPe} {g : Sto → Prop} {env : DE} {items : List D} {S : Sto} {Q : List D → Sto → Prop} (h : compL t tt te g env items [] S Q) : compI t tt te g env items S Q := by
  refine ⟨fun i acc S => compL t tt te g env (items.drop i) acc S Q, h, fun i acc S hi h => ?_, fun i d acc S hd h => ?_, fun acc S h => ?_⟩
  · dsimp only at h
    by_cases hlt : i < items.length
    · rw [List.drop_eq_getElem_cons hlt] at h
      exact h.1
    · rw [List.drop_eq_nil_of_le (by omega)] at h
      exact h.1
  · dsimp only at h
    obtain ⟨hlt, e1⟩ := List.getElem?_eq_some_iff.mp hd
    subst e1
    rw [List.drop_eq_getElem_cons hlt] at h
    exact h.2
  · dsimp only at h
    rw [List.drop_length] at h
    exact h.2
/-- each item's value told by a function -/
theorem compI_map {t : WPg} {tt : WPt} {te : WPe} {g : Sto → Prop} {env : DE} {items : List D} {S : Sto} {Q : List D → Sto → Prop} (f : D → Option D) (hg : g S)
    (h : ∀ d, d ∈ items → ∀ R : Option D → Sto → Prop, R (f d) S → t d env fun e => tt e S (fun b S1 => if b = true then te e S1 (fun y S2 => R (some y) S2) X0 else R none S1) X0) (hq : Q (items.filterMap f) S) : compI t tt te g env items S Q := by
  refine ⟨fun i acc S' => S' = S ∧ acc = (items.take i).filterMap f, ⟨rfl, by simp⟩, fun i acc S' _ h => by rw [h.1]; exact hg, fun i d acc S' hd ⟨e1, e2⟩ => ?_, fun acc S' ⟨e1, e2⟩ => ?_⟩
  · subst e1 e2
    refine h d (List.mem_of_getElem? hd) (fun o S2 => match o with
      | some y => S2 = S' ∧ (items.take i).filterMap f ++ [y] = (items.take (i + 1)).filterMap f
      | none => S2 = S' ∧ (items.take i).filterMap f = (items.take (i + 1)).filterMap f) ?_
    have key : (items.take (i + 1)).filterMap f = (items.take i).filterMap f ++ [d].filterMap f := by
      rw [List.take_add_one, hd]
      simp
    cases e : f d with
    | none =>
      refine ⟨rfl, ?_⟩
      rw [key]
      simp [e]
    | some y =>
      refine ⟨rfl, ?_⟩
      rw [key]
      simp [e]
  · subst e1 e2
    simpa using hq
/-- by an invariant of what is made so far -/
theorem compI_inv {t : WPg} {tt : WPt} {te : WPe} {g : Sto → Prop} {env : DE} {items : List D} {S : Sto} {Q : List D → Sto → Prop} (P : Nat → List D → Sto → Prop) (h0 : P 0 [] S) (hg : ∀ i acc S, P i acc S → g S)
    (hs : ∀ i d acc S, items[i]? = some d → P i acc S → t d env fun e => tt e S (fun b S1 => if b = true then te e S1 (fun y S2 => P (i + 1) (acc ++ [y]) S2) X0 else P (i + 1) acc S1) X0) (hd : ∀ acc S, P items.length acc S → Q acc S) : compI t tt te g env items S Q :=
  ⟨P, h0, fun i acc S _ h => hg i acc S h, hs, hd⟩
def wLc (wi : WPi) (t : WPg) (tt : WPt) (te : WPe) (vs : List Nat) : WPe := fun env S Q X => wi env S (fun items g S1 => items.length ≤ sizeLine ∧ compI t tt te g (delVs env vs) items S1 fun ds S2 => Q (.lst ds) S2) X
/-- .. a new mutable list -/
def wLcM (wi : WPi) (t : WPg) (tt : WPt) (te : WPe) (vs : List Nat) : WPe := fun env S Q X => wi env S (fun items g S1 => items.length ≤ sizeLine ∧ compI t tt te g (delVs env vs) items S1 fun ds S2 => ∀ p, S2 p = none → Q (.ref p) (put S2 p (.lst ds))) X
theorem takesF {X : Cx} {s : Shared} {H : Hp} {scope : Scope} {cenv : Env} {fp : List Addr} : Takes (X.blk s H scope cenv fp) (fun _ _ _ _ => False) := takes0
theorem Stp.see {W W' : Hp} {S S' : Sto} {H H' : Hp} {p : Addr} {o : HO} (st : Stp W S H W' S' H') (h : H p = none) (hW : W' p = none) : Stp W S H (upd W' p o) S' H' :=
  ⟨st.vis.trans (same_new hW), fun a x h1 h2 h3 => by
    have ne : a ≠ p := ne_of_none h1 h
    obtain ⟨y1, y2, y3⟩ := st.frm a x h1 h2 h3
    exact ⟨y1, by rw [upd_ne ne]; exact y2, y3⟩⟩
theorem Stp.see' {W W1 W' : Hp} {S S1 S' : Sto} {H H1 H' : Hp} {p : Addr} {o : HO} (st : Stp W S H W' S' H') (h : H1 p = none) (hW : W' p = none) (s1 : Stp W S H W1 S1 H1) : Stp W S H (upd W' p o) S' H' :=
  ⟨st.vis.trans (same_new hW), fun a x h1 h2 h3 => by
    have ne : a ≠ p := fun e => by
      subst e
      have := (s1.frm a x h1 h2 h3).1
      rw [h] at this; cases this
    obtain ⟨y1, y2, y3⟩ := st.frm a x h1 h2 h3
    exact ⟨y1, by rw [upd_ne ne]; exact y2, y3⟩⟩
theorem Stp.own {W W' : Hp} {S S' : Sto} {H H' : Hp} {p : Addr} {m : MO} (st : Stp W S H W' S' H') (h : H p = none) : Stp W S H W' (put S' p m) H' :=
  ⟨st.vis, fun a x h1 h2 h3 => by
    have ne : a ≠ p := ne_of_none h1 h
    obtain ⟨y1, y2, y3⟩ := st.frm a x h1 h2 h3
    exact ⟨y1, y2, by rw [put_ne ne]; exact y3⟩⟩
theorem Stp.out {W W' : Hp} {S S' : Sto} {H H' : Hp} {p : Addr} {o : HO} (st : Stp W S H W' S' H') (h : H p = none) : Stp W S H W' S' (upd H' p o) :=
  ⟨st.vis, fun a x h1 h2 h3 => by
    have ne : a ≠ p := ne_of_none h1 h
    obtain ⟨y1, y2, y3⟩ := st.frm a x h1 h2 h3
    exact ⟨by rw [upd_ne ne]; exact y1, y2, y3⟩⟩
theorem Ok.out {K : PySem.W.Frag} {W : Hp} {S : Sto} {H : Hp} {p : Addr} {o : HO} (ok : Ok K W S H) (hW : W p = none) (hS : S p = none) : Ok K W S (upd H p o) :=
  ⟨fun b x e => by rw [upd_ne (ne_of_none e hW)]; exact ok.vis _ _ e, fun a m e => by
    obtain ⟨x, e1, e2⟩ := ok.sto _ _ e
    exact ⟨x, by rw [upd_ne (ne_of_S e hS)]; exact e1, e2⟩, ok.sep⟩
theorem Ok.see {K : PySem.W.Frag} {W : Hp} {S : Sto} {H : Hp} {p : Addr} {o : HO} (ok : Ok K W S H) (hW : W p = none) (hS : S p = none) (hH : H p = some o) : Ok K (upd W p o) S H :=
  ⟨fun b x e => by
    by_cases q : b = p
    · subst q; rw [upd_same] at e; cases e; exact hH
    · rw [upd_ne q] at e; exact ok.vis _ _ e, fun a m e => by
    obtain ⟨x, e1, e2⟩ := ok.sto _ _ e
    exact ⟨x, e1, e2.mono (same_new hW)⟩, fun a m e => by
    rw [upd_ne (ne_of_S e hS)]; exact ok.sep _ _ e⟩
theorem Ok.own {K : PySem.W.Frag} {W : Hp} {S : Sto} {H : Hp} {p : Addr} {o : HO} {m : MO} (ok : Ok K W S H) (hW : W p = none) (hH : H p = some o) (r : MRep K W m o) : Ok K W (put S p m) H :=
  ⟨ok.vis, fun a n e => by
    by_cases q : a = p
    · subst q; rw [put_same] at e; cases e; exact ⟨o, hH, r⟩
    · rw [put_ne q] at e; exact ok.sto _ _ e, fun a n e => by
    by_cases q : a = p
    · subst q; exact hW
    · rw [put_ne q] at e; exact ok.sep _ _ e⟩
section
variable {X : Cx} {elt tg iter : Expr} {ifs : List Expr} {scope : Scope} {own : List (Str × Nat)} {pos : Pos} {wi : WPi} {t : WPg} {tt : WPt} {te : WPe}
/-- the made list stands at p, nobody else's -/
theorem lc_go {Wx : WX} {vs : List Nat} {σ : L2.St} {H : Hp} {Q : VK} {K : PySem.W.Frag} {n : Nat} {items : List D} {g : Sto → Prop} {env : DE} {W1 : Hp} {S1 : Sto} {H1 : Hp} {J : It} {Q1 : List D → Sto → Prop} (hl : σ.length = n) (hz : items.length ≤ sizeLine)
    (h : compI t tt te g (delVs env vs) items S1 Q1) (ok1 : Ok K W1 S1 H1) (sl : Sl K W1 env σ) (jok : JOk K J W1 items g)
    (fin : ∀ (p : Addr) acc ws W2 S2 H2, H1 p = none → Q1 acc S2 → Stp W1 S1 H1 W2 S2 H2 → Ok K W2 S2 H2 → W2 p = none → S2 p = none → H2 p = some (.lst ws) → Reps K W2 acc ws → Q (.ref p) H2) :
    ∀ p, H1 p = none → ∃ Wt : Nat → Nat → Hp → Prop, (∃ m, Wt 0 m (upd H1 p (.lst []))) ∧ ∀ i m H, Wt i m H →
      (J.stop i H ∧ Q (.ref p) H) ∨ (J.go i H ∧ ∃ Nx : Hp → Prop, (∀ H', Nx H' → ∃ m', m' < m ∧ Wt (i + 1) m' H') ∧ ∀ x H', J.yld i H x H' → lG K n vs t x (wipe σ vs) H' fun σ2 H2 => wipe σ2 vs = wipe σ vs ∧ lT K (fun _ _ _ _ => False) tt σ2 H2 fun b H3 =>
        if b = true then lE K (fun _ _ _ _ => False) te σ2 H3 fun y H4 => ∃ acc, H4 p = some (.lst acc) ∧ acc.length < sizeLine ∧ Nx (upd H4 p (.lst (acc ++ [y]))) else Nx H3) := by
  intro p hp
  obtain ⟨P, h0, hg, hs, hd⟩ := h
  have hf := ok1.fresh hp
  refine ⟨fun i m H' => m = items.length - i ∧ i ≤ items.length ∧ ∃ W' S' acc ws, Stp W1 S1 H1 W' S' H' ∧ Ok K W' S' H' ∧ W' p = none ∧ S' p = none ∧ H' p = some (.lst ws) ∧ Reps K W' acc ws ∧ acc.length ≤ i ∧ P i acc S',
    ⟨items.length, rfl, Nat.zero_le _, W1, S1, [], [], ok1.stJ hp, ok1.junk hp, hf.1, hf.2, upd_same, rfl, Nat.le_refl _, h0⟩, ?_⟩
  rintro i m H' ⟨rfl, hi, W', S', acc, ws, s2, ok2, hW', hS', hH', rw', hle, h2⟩
  have hgS := hg i acc S' hi h2
  by_cases hlt : i < items.length
  · have hdd := List.getElem?_eq_getElem hlt
    obtain ⟨go, yl⟩ := jok.step i W' S' H' _ hdd s2.vis ok2 hgS
    refine .inr ⟨go, fun H3 => ∃ W' S' acc ws, Stp W1 S1 H1 W' S' H3 ∧ Ok K W' S' H3 ∧ W' p = none ∧ S' p = none ∧ H3 p = some (.lst ws) ∧ Reps K W' acc ws ∧ acc.length ≤ i + 1 ∧ P (i + 1) acc S',
      fun H3 h3 => ⟨items.length - (i + 1), by omega, rfl, hlt, h3⟩, fun x H2 y => ?_⟩
    obtain ⟨W2, s3, ok3, rx⟩ := yl x H2 y
    obtain ⟨k1, k2, k3⟩ := s3.frm p _ hH' hW' hS'
    refine ⟨W2, S', delVs env vs, items[i], _, ok3, sl_wipe (sl.mono (s2.trans s3).vis) vs, delVs_len hl, rx, hs i _ acc S' hdd h2, fun e2 σ3 h3 sl3 hl3 hw3 => ⟨?_, ?_⟩⟩
    · rw [hw3]; exact wipe_wipe
    · refine ⟨W2, e2, S', _, _, ok3, sl3, h3, fun b S4 W4 H4 h4 s4 ok4 => ?_, CXc.no⟩
      obtain ⟨j1, j2, j3⟩ := s4.frm p _ k1 k2 k3
      cases b with
      | true =>
        refine iteT ⟨W4, e2, S4, _, _, ok4, sl3.mono s4.vis, (if_pos rfl).mp h4, fun d S5 v W5 H5 h5 s5 ok5 r5 => ?_, CXc.no⟩
        obtain ⟨l1, l2, l3⟩ := s5.frm p _ j1 j2 j3
        have st := s2.trans (s3.trans (s4.trans s5))
        have rlen := rw'.length
        refine ⟨ws, l1, by omega, W5, S5, acc ++ [d], ws ++ [v], st.out hp, ok5.out l2 l3, l2, l3, upd_same, (rw'.mono (s3.trans (s4.trans s5)).vis).append (Reps.one r5), ?_, h5⟩
        rw [List.length_append, List.length_singleton]; omega
      | false =>
        have st := s2.trans (s3.trans s4)
        exact iteF ⟨W4, S4, acc, ws, st, ok4, j2, j3, j1, rw'.mono (s3.trans s4).vis, by omega, (if_neg Bool.false_ne_true).mp h4⟩
  · have e : i = items.length := by omega
    subst e
    exact .inl ⟨jok.stop W' S' H' s2.vis ok2 hgS, fin p acc ws W' S' H' hp (hd _ _ h2) s2 ok2 hW' hS' hH' rw'⟩
theorem lc_lst {Wx : WX} {vs : List Nat} {σ : L2.St} {H : Hp} {Q : VK} {K : PySem.W.Frag} {n : Nat} (hl : σ.length = n) (h : lE K Wx (wLc wi t tt te vs) σ H Q) :
    tLc (lI K Wx wi) (lG K n vs t) (lT K (fun _ _ _ _ => False) tt) (lE K (fun _ _ _ _ => False) te) vs σ H Q := by
  obtain ⟨W, env, S, Q0, X1, ok, sl, hw, cv, cx⟩ := h
  refine ⟨W, env, S, _, X1, ok, sl, hw, fun items g S1 W1 H1 J ⟨hz, h1⟩ s1 ok1 jok => ?_, cx⟩
  exact lc_go (Wx := Wx) (H := H) hl hz h1 ok1 (sl.mono s1.vis) jok fun p acc ws W2 S2 H2 hp q s2 ok2 a b c r =>
    cv _ S2 _ _ H2 q ((s1.trans s2).see' hp a s1) (ok2.see a b c) ⟨p, ws, rfl, upd_same, r.mono (same_new a)⟩
theorem lc_lstM {Wx : WX} {vs : List Nat} {σ : L2.St} {H : Hp} {Q : VK} {K : PySem.W.Frag} {n : Nat} (hl : σ.length = n) (h : lE K Wx (wLcM wi t tt te vs) σ H Q) :
    tLc (lI K Wx wi) (lG K n vs t) (lT K (fun _ _ _ _ => False) tt) (lE K (fun _ _ _ _ => False) te) vs σ H Q := by
  obtain ⟨W, env, S, Q0, X1, ok, sl, hw, cv, cx⟩ := h
  refine ⟨W, env, S, _, X1, ok, sl, hw, fun items g S1 W1 H1 J ⟨hz, h1⟩ s1 ok1 jok => ?_, cx⟩
  exact lc_go (Wx := Wx) (H := H) hl hz h1 ok1 (sl.mono s1.vis) jok fun p acc ws W2 S2 H2 hp q s2 ok2 a b c r =>
    cv _ _ _ _ H2 (q p b) (s1.trans (s2.own hp)) (ok2.own (m := .lst acc) a c ⟨ws, rfl, r⟩) rfl
variable {pos2 : Pos} {i : Nat} {x : Str}
theorem pd_lcW {w : WPe} (hc : X.calm = true) (hN : X.N.Nodup) (hi : PDi X tg iter wi) (ok : BlkOk X.N X.env.scope scope own)
    (hg : ∀ (s : Shared) (H : Hp) (C : Addr) (cl : List (Str × Addr)) (fp : List Addr), PDg (X.blk s H scope (compEnvC scope cl C X.env) fp) tg (own.map (·.2)) t) (ht : ∀ (s : Shared) (H : Hp) (C : Addr) (cl : List (Str × Addr)) (fp : List Addr), PDts (X.blk s H scope (compEnvC scope cl C X.env) fp) ifs tt)
    (he : ∀ (s : Shared) (H : Hp) (C : Addr) (cl : List (Str × Addr)) (fp : List Addr), PD (X.blk s H scope (compEnvC scope cl C X.env) fp) elt te)
    (hw : ∀ Wx σ H Q, σ.length = X.N.length → lE X.K Wx w σ H Q → tLc (lI X.K Wx wi) (lG X.K X.N.length (own.map (·.2)) t) (lT X.K (fun _ _ _ _ => False) tt) (lE X.K (fun _ _ _ _ => False) te) (own.map (·.2)) σ H Q)
    (hs : ∀ x, foldedSetIterable iter X.env x = pure x := by intro _; rfl) : PD X (.ListComp elt [⟨tg, iter, ifs, 0⟩] scope pos) w :=
  ⟨fun Wx tk => ⟨fun pins s σ H Q I h => (pe_lc hc hN (hi.run Wx tk) ok (fun s H C cl fp => (hg s H C cl fp).run) (fun s H C cl fp => (ht s H C cl fp).run _ takesF) (fun s H C cl fp => (he s H C cl fp).run _ takesF) hs).run pins s σ H Q I (hw Wx σ H Q I.len h)⟩⟩
theorem pd_lc (hc : X.calm = true) (hN : X.N.Nodup) (hi : PDi X tg iter wi) (ok : BlkOk X.N X.env.scope scope own)
    (hg : ∀ (s : Shared) (H : Hp) (C : Addr) (cl : List (Str × Addr)) (fp : List Addr), PDg (X.blk s H scope (compEnvC scope cl C X.env) fp) tg (own.map (·.2)) t) (ht : ∀ (s : Shared) (H : Hp) (C : Addr) (cl : List (Str × Addr)) (fp : List Addr), PDts (X.blk s H scope (compEnvC scope cl C X.env) fp) ifs tt)
    (he : ∀ (s : Shared) (H : Hp) (C : Addr) (cl : List (Str × Addr)) (fp : List Addr), PD (X.blk s H scope (compEnvC scope cl C X.env) fp) elt te)
    (hs : ∀ x, foldedSetIterable iter X.env x = pure x := by intro _; rfl) : PD X (.ListComp elt [⟨tg, iter, ifs, 0⟩] scope pos) (wLc wi t tt te (own.map (·.2))) := pd_lcW hc hN hi ok hg ht he (fun _ _ _ _ hl h => lc_lst hl h) hs
theorem pd_lcM (hc : X.calm = true) (hN : X.N.Nodup) (hi : PDi X tg iter wi) (ok : BlkOk X.N X.env.scope scope own)
    (hg : ∀ (s : Shared) (H : Hp) (C : Addr) (cl : List (Str × Addr)) (fp : List Addr), PDg (X.blk s H scope (compEnvC scope cl C X.env) fp) tg (own.map (·.2)) t) (ht : ∀ (s : Shared) (H : Hp) (C : Addr) (cl : List (Str × Addr)) (fp : List Addr), PDts (X.blk s H scope (compEnvC scope cl C X.env) fp) ifs tt)
    (he : ∀ (s : Shared) (H : Hp) (C : Addr) (cl : List (Str × Addr)) (fp : List Addr), PD (X.blk s H scope (compEnvC scope cl C X.env) fp) elt te)
    (hs : ∀ x, foldedSetIterable iter X.env x = pure x := by intro _; rfl) : PD X (.ListComp elt [⟨tg, iter, ifs, 0⟩] scope pos) (wLcM wi t tt te (own.map (·.2))) := pd_lcW hc hN hi ok hg ht he (fun _ _ _ _ hl h => lc_lstM hl h) hs
/-- x = [..] on one line -/
theorem pds_setLcW {w : WPe} (hc : X.calm = true) (hN : X.N.Nodup) (hy : X.N[i]? = some x) (hyl : X.env.scope.names.lookup x = some .local) {px : Pos}
    (hsw : swapsWith (.ListComp elt [⟨tg, iter, ifs, 0⟩] scope pos) (some (.Name x px)) pos2.line X.env = pure true) (hi : PDi X tg iter wi) (ok : BlkOk X.N X.env.scope scope own)
    (hg : ∀ (s : Shared) (H : Hp) (C : Addr) (cl : List (Str × Addr)) (fp : List Addr), PDg (X.blk s H scope (compEnvC scope cl C X.env) fp) tg (own.map (·.2)) t) (ht : ∀ (s : Shared) (H : Hp) (C : Addr) (cl : List (Str × Addr)) (fp : List Addr), PDts (X.blk s H scope (compEnvC scope cl C X.env) fp) ifs tt)
    (he : ∀ (s : Shared) (H : Hp) (C : Addr) (cl : List (Str × Addr)) (fp : List Addr), PD (X.blk s H scope (compEnvC scope cl C X.env) fp) elt te)
    (hw : ∀ Wx σ H Q, σ.length = X.N.length → lE X.K Wx w σ H Q → tLc (lI X.K Wx wi) (lG X.K X.N.length (own.map (·.2)) t) (lT X.K (fun _ _ _ _ => False) tt) (lE X.K (fun _ _ _ _ => False) te) (own.map (·.2)) σ H Q)
    (hs : ∀ x, foldedSetIterable iter X.env x = pure x := by intro _; rfl) : PDs X (.Assign [.Name x px] (.ListComp elt [⟨tg, iter, ifs, 0⟩] scope pos) pos2) (wSet i w) :=
  ⟨fun Wx tk => PS.imp (ps_setLc hc hN hy hyl hsw (hi.run Wx tk) ok (fun s H C cl fp => (hg s H C cl fp).run) (fun s H C cl fp => (ht s H C cl fp).run _ takesF) (fun s H C cl fp => (he s H C cl fp).run _ takesF) hs) fun D σ H ⟨W, env, S, q, ok, sl, hl, hww, cs⟩ =>
    hw Wx σ H _ hl ⟨W, env, S, _, _, ok, sl, hww, fun d S1 v W1 H1 h1 s1 ok1 r1 => cs.nx _ S1 _ W1 H1 h1 s1 ok1 ((sl.mono s1.vis).set (by rw [hl]; exact lt_of_some hy) r1) (by rw [List.length_set]; exact hl), CXc.of cs sl⟩⟩
theorem pds_setLc (hc : X.calm = true) (hN : X.N.Nodup) (hy : X.N[i]? = some x) (hyl : X.env.scope.names.lookup x = some .local) {px : Pos}
    (hsw : swapsWith (.ListComp elt [⟨tg, iter, ifs, 0⟩] scope pos) (some (.Name x px)) pos2.line X.env = pure true) (hi : PDi X tg iter wi) (ok : BlkOk X.N X.env.scope scope own)
    (hg : ∀ (s : Shared) (H : Hp) (C : Addr) (cl : List (Str × Addr)) (fp : List Addr), PDg (X.blk s H scope (compEnvC scope cl C X.env) fp) tg (own.map (·.2)) t) (ht : ∀ (s : Shared) (H : Hp) (C : Addr) (cl : List (Str × Addr)) (fp : List Addr), PDts (X.blk s H scope (compEnvC scope cl C X.env) fp) ifs tt)
    (he : ∀ (s : Shared) (H : Hp) (C : Addr) (cl : List (Str × Addr)) (fp : List Addr), PD (X.blk s H scope (compEnvC scope cl C X.env) fp) elt te)
    (hs : ∀ x, foldedSetIterable iter X.env x = pure x := by intro _; rfl) : PDs X (.Assign [.Name x px] (.ListComp elt [⟨tg, iter, ifs, 0⟩] scope pos) pos2) (wSet i (wLc wi t tt te (own.map (·.2)))) :=
  pds_setLcW hc hN hy hyl hsw hi ok hg ht he (fun _ _ _ _ hl h => lc_lst hl h) hs
theorem pds_setLcM (hc : X.calm = true) (hN : X.N.Nodup) (hy : X.N[i]? = some x) (hyl : X.env.scope.names.lookup x = some .local) {px : Pos}
    (hsw : swapsWith (.ListComp elt [⟨tg, iter, ifs, 0⟩] scope pos) (some (.Name x px)) pos2.line X.env = pure true) (hi : PDi X tg iter wi) (ok : BlkOk X.N X.env.scope scope own)
    (hg : ∀ (s : Shared) (H : Hp) (C : Addr) (cl : List (Str × Addr)) (fp : List Addr), PDg (X.blk s H scope (compEnvC scope cl C X.env) fp) tg (own.map (·.2)) t) (ht : ∀ (s : Shared) (H : Hp) (C : Addr) (cl : List (Str × Addr)) (fp : List Addr), PDts (X.blk s H scope (compEnvC scope cl C X.env) fp) ifs tt)
    (he : ∀ (s : Shared) (H : Hp) (C : Addr) (cl : List (Str × Addr)) (fp : List Addr), PD (X.blk s H scope (compEnvC scope cl C X.env) fp) elt te)
    (hs : ∀ x, foldedSetIterable iter X.env x = pure x := by intro _; rfl) : PDs X (.Assign [.Name x px] (.ListComp elt [⟨tg, iter, ifs, 0⟩] scope pos) pos2) (wSet i (wLcM wi t tt te (own.map (·.2)))) :=
  pds_setLcW hc hN hy hyl hsw hi ok hg ht he (fun _ _ _ _ hl h => lc_lstM hl h) hs
end
end DL
set_option Elab.async false
set_option linter.all false
set_option maxRecDepth 100000
set_option maxHeartbeats 1000000
/-! The data layer, part h: contracts of defs by name. -/
namespace DL
open PySem PySem.Spec PyProof.Rows L2

def DefAt (K : PySem.W.Frag) (mg : Str → Option Value) (x qual : Str) (st : Stmt) (ps : List Str) : Prop := ∃ f fd, Fun K x qual st f fd ∧ mg x = some (.ref f) ∧ Binds K fd ps []
def MetAt (K : PySem.W.Frag) (C : Addr) (m qual : Str) (st : Stmt) (ps : List Str) : Prop := ∃ f fd, Fun K m qual st f fd ∧ Meth K C m f ∧ Binds K fd ps []
def MkAt (K : PySem.W.Frag) (C : Addr) (qual : Str) (st : Stmt) (ps : List Str) : Prop := ∃ f fd, Fun K "__init__" qual st f fd ∧ Mk K C f ∧ Binds K fd ps []
section
variable (P : Program) (w : World) (K : PySem.W.Frag) (mg : Str → Option Value) (base : Heap)
def FnC (k : Nat) (x : Str) (ps : List Str) (spec : Ctr) : Prop := ∃ f fd, FnD P w K mg base k f fd ps spec ∧ mg x = some (.ref f) ∧ PySem.W.keepIn K (.ref f) = true ∧ Binds K fd ps []
def MtC (C : Addr) (k : Nat) (m : Str) (ps : List Str) (spec : Ctr) : Prop := ∃ f fd, FnD P w K mg base k f fd ps spec ∧ Meth K C m f ∧ Binds K fd ps []
def MkC (C : Addr) (k : Nat) (ps : List Str) (spec : Ctr) : Prop := ∃ f fd, FnD P w K mg base k f fd ps spec ∧ Mk K C f ∧ Binds K fd ps []
end
/-- what a body is to end in -/
def endQ (Q : Qd) (X1 : XQ) : QS := { nx := fun _ S' => Q .non S', rt := Q, bk := fun _ _ => False, ct := fun _ _ => False, xc := fun C fs _ S' => X1 C fs S' }
section
variable {P : Program} {w : World} {K : PySem.W.Frag} {mg : Str → Option Value} {base : Heap} {x qual : Str} {st : Stmt} {N ps : List Str} {k : Nat} {spec : Ctr} {ws : WPs} {C : Addr}
theorem fnd_mk {f : Addr} {fd : FuncData} (F : Fun K x qual st f fd) (S : FnScope N ps (defScope st)) (hle : ps.length ≤ N.length) (len : ∀ ds S Q E, spec ds S Q E → ds.length = ps.length)
    (hd : ∀ (f : Addr) (cdv : Value) (A : Around) (outer : List Env) (s : Shared) (H : Hp) (E : XK), Room k (A.deeper (envOfC qual (defScope st) s.heap.objs.size f cdv)) → PDss (cxOf (L2.CX P w) P w K mg base N qual (defScope st) f cdv A outer s H E) (defBody st) ws)
    (hr : ∀ ds S Q X1, spec ds S Q X1 → ws (startD N ds) S (endQ Q X1)) : FnD P w K mg base (k + 1) f fd ps spec :=
  Fun.okD F S hle len fun cdv A outer s H E hrm => ⟨ws, hd f cdv A outer s H E hrm, hr⟩
theorem FnC.mk (D : DefAt K mg x qual st ps) (S : FnScope N ps (defScope st)) (hle : ps.length ≤ N.length) (len : ∀ ds S Q E, spec ds S Q E → ds.length = ps.length)
    (hd : ∀ (f : Addr) (cdv : Value) (A : Around) (outer : List Env) (s : Shared) (H : Hp) (E : XK), Room k (A.deeper (envOfC qual (defScope st) s.heap.objs.size f cdv)) → PDss (cxOf (L2.CX P w) P w K mg base N qual (defScope st) f cdv A outer s H E) (defBody st) ws)
    (hr : ∀ ds S Q X1, spec ds S Q X1 → ws (startD N ds) S (endQ Q X1)) : FnC P w K mg base (k + 1) x ps spec := by
  obtain ⟨f, fd, F, hm, hb⟩ := D
  exact ⟨f, fd, fnd_mk F S hle len hd hr, hm, F.kp, hb⟩
theorem MtC.mk {m : Str} (D : MetAt K C m qual st ps) (S : FnScope N ps (defScope st)) (hle : ps.length ≤ N.length) (len : ∀ ds S Q E, spec ds S Q E → ds.length = ps.length)
    (hd : ∀ (f : Addr) (cdv : Value) (A : Around) (outer : List Env) (s : Shared) (H : Hp) (E : XK), Room k (A.deeper (envOfC qual (defScope st) s.heap.objs.size f cdv)) → PDss (cxOf (L2.CX P w) P w K mg base N qual (defScope st) f cdv A outer s H E) (defBody st) ws)
    (hr : ∀ ds S Q X1, spec ds S Q X1 → ws (startD N ds) S (endQ Q X1)) : MtC P w K mg base C (k + 1) m ps spec := by
  obtain ⟨f, fd, F, hm, hb⟩ := D
  exact ⟨f, fd, fnd_mk F S hle len hd hr, hm, hb⟩
theorem MkC.mk (D : MkAt K C qual st ps) (S : FnScope N ps (defScope st)) (hle : ps.length ≤ N.length) (len : ∀ ds S Q E, spec ds S Q E → ds.length = ps.length)
    (hd : ∀ (f : Addr) (cdv : Value) (A : Around) (outer : List Env) (s : Shared) (H : Hp) (E : XK), Room k (A.deeper (envOfC qual (defScope st) s.heap.objs.size f cdv)) → PDss (cxOf (L2.CX P w) P w K mg base N qual (defScope st) f cdv A outer s H E) (defBody st) ws)
    (hr : ∀ ds S Q X1, spec ds S Q X1 → ws (startD N ds) S (endQ Q X1)) : MkC P w K mg base C (k + 1) ps spec := by
  obtain ⟨f, fd, F, hm, hb⟩ := D
  exact ⟨f, fd, fnd_mk F S hle len hd hr, hm, hb⟩
/-- a promise for no arguments at all: where a recursion begins -/
theorem FnC.zero (D : DefAt K mg x qual st ps) : FnC P w K mg base k x ps (fun _ _ _ _ => False) := by
  obtain ⟨f, fd, F, hm, hb⟩ := D
  exact ⟨f, fd, ⟨fun vs H Q E ⟨_, _, _, _, _, _, _, h, _⟩ => h.elim, fun A outer s H args us vs Q E _ _ _ _ ⟨_, _, _, _, _, _, _, h, _⟩ => h.elim⟩, hm, F.kp, hb⟩
theorem FnD.imp {f : Addr} {fd : FuncData} {spec' : Ctr} (F : FnD P w K mg base k f fd ps spec) (h : ∀ ds S Q X1, spec' ds S Q X1 → spec ds S Q X1) : FnD P w K mg base k f fd ps spec' :=
  FnOk.imp F fun vs H Q E ⟨W, S, ds, Q0, X1, ok, r, hs, cv, cx⟩ => ⟨W, S, ds, Q0, X1, ok, r, h _ _ _ _ hs, cv, cx⟩
theorem FnC.imp {spec' : Ctr} (F : FnC P w K mg base k x ps spec) (h : ∀ ds S Q X1, spec' ds S Q X1 → spec ds S Q X1) : FnC P w K mg base k x ps spec' := by
  obtain ⟨f, fd, F, a⟩ := F
  exact ⟨f, fd, FnD.imp F h, a⟩
theorem FnC.mono {k' : Nat} (F : FnC P w K mg base k x ps spec) (h : k ≤ k') : FnC P w K mg base k' x ps spec := by
  obtain ⟨f, fd, F, a⟩ := F
  exact ⟨f, fd, FnOk.mono F h, a⟩
end
section
variable {X : Cx} {k : Nat} {C : Addr} {ps : List Str} {spec : Ctr} {x m : Str} {p pos apos : Pos} {e o : Expr} {es : List Expr} {wo : WPe} {wa : WPa}
theorem pd_fn (G : FnC X.prog X.w X.K X.mg X.base k x ps spec) (hr : Room k X.A) (ha : PDa X (e :: es) wa) (hg : Gl X x := by rfl) (hdb : (x == ("__debug__" : Str)) = false := by decide)
    (he : starEach (e :: es) X.env = (false, eval e X.env) :: starEach es X.env := by rfl) (hpl : (backTo pos (starEach es X.env)).any (·.1) = false := by rfl) : PD X (.Call (.Name x p) (e :: es) [] pos) (wCall spec wa) := by
  obtain ⟨f, fd, F, hm, hk, hb⟩ := G
  exact pd_call F hr hm hk hb ha hg hdb he hpl
theorem pd_fn0 (G : FnC X.prog X.w X.K X.mg X.base k x ps spec) (hr : Room k X.A) (hg : Gl X x := by rfl) (hdb : (x == ("__debug__" : Str)) = false := by decide) : PD X (.Call (.Name x p) [] [] pos) (wCall spec wNil) := by
  obtain ⟨f, fd, F, hm, hk, hb⟩ := G
  exact pd_call0 F hr hm hk hb hg hdb
theorem pd_mt {N : List Str} {pl : Sem Bool} (c : Cls X.K C) (G : MtC X.prog X.w X.K X.mg X.base C k m ps spec) (hN : m ∉ N) (hr : Room k X.A) (ho : PD X o wo) (ha : PDa X (e :: es) wa)
    (hst : starEach (e :: es) X.env = (false, eval e X.env) :: starEach es X.env := by rfl) (hpl : (backTo pos (starEach es X.env)).any (·.1) = false := by rfl)
    (ht : eval (.Call (.Attribute o m apos) (e :: es) [] pos) X.env = (do
      let ov ← eval o X.env
      standAt apos.atName
      let (f, first) ← holding [ov] (getMethod ov m pl)
      callWith pos f first (backTo pos (starEach (e :: es) X.env)) (backToKw pos (keywordEach [] X.env))) := by rfl) : PD X (.Call (.Attribute o m apos) (e :: es) [] pos) (wMeth C N spec wo wa) := by
  obtain ⟨f, fd, F, hm, hb⟩ := G
  exact pd_meth c hm hN F hr hb ho ha hst hpl ht
theorem pd_mt0 {N : List Str} {pl : Sem Bool} (c : Cls X.K C) (G : MtC X.prog X.w X.K X.mg X.base C k m ps spec) (hN : m ∉ N) (hr : Room k X.A) (ho : PD X o wo)
    (ht : eval (.Call (.Attribute o m apos) [] [] pos) X.env = (do
      let ov ← eval o X.env
      standAt apos.atName
      let (f, first) ← holding [ov] (getMethod ov m pl)
      callWith pos f first (backTo pos (starEach [] X.env)) (backToKw pos (keywordEach [] X.env))) := by rfl) : PD X (.Call (.Attribute o m apos) [] [] pos) (wMeth C N spec wo wNil) := by
  obtain ⟨f, fd, F, hm, hb⟩ := G
  exact pd_meth0 c hm hN F hr hb ho ht
theorem pd_mk {N : List Str} (G : MkC X.prog X.w X.K X.mg X.base C k ps spec) (hm : X.mg x = some (.ref C)) (hN : N.Nodup) (hl : N.length ≤ 900) (hr : Room (k + 1) X.A) (ha : PDa X (e :: es) wa) (hg : Gl X x := by rfl) (hdb : (x == ("__debug__" : Str)) = false := by decide)
    (he : starEach (e :: es) X.env = (false, eval e X.env) :: starEach es X.env := by rfl) (hpl : (backTo pos (starEach es X.env)).any (·.1) = false := by rfl) : PD X (.Call (.Name x p) (e :: es) [] pos) (wMake C N spec wa) := by
  obtain ⟨f, fd, F, M, hb⟩ := G
  exact pd_make M hN hl F hr hm hb ha hg hdb he hpl
end
end DL
set_option Elab.async false
set_option linter.all false
set_option maxRecDepth 100000
set_option maxHeartbeats 1000000
/-! The data layer, part i: forms of data, their equality; words that reduce a reading. -/
namespace DL
open PySem PySem.Spec PyProof.Rows L2

/-! ### data of a depth -/
def okP (n : Nat) (p : PyData) : Prop := p.canLay0 = true ∧ p.depth ≤ n
theorem okP_int {n : Nat} {i : Int} : okP n (.int i) := ⟨rfl, Nat.zero_le _⟩
theorem okP_bool {n : Nat} {i : Bool} : okP n (.bool i) := ⟨rfl, Nat.zero_le _⟩
theorem okP_none {n : Nat} : okP n .none := ⟨rfl, Nat.zero_le _⟩
theorem okP_all {n : Nat} : ∀ {xs : List D}, (∀ x, x ∈ xs → okP n (toP x)) → PyData.canLayAll0 (toPs xs) = true ∧ PyData.depthAll (toPs xs) ≤ n
  | [], _ => ⟨rfl, Nat.zero_le _⟩
  | x :: r, h => by
    obtain ⟨a, b⟩ := h x List.mem_cons_self
    obtain ⟨c, d⟩ := okP_all (xs := r) fun y hy => h y (List.mem_cons_of_mem _ hy)
    refine ⟨?_, ?_⟩
    · show (PyData.canLay0 (toP x) && PyData.canLayAll0 (toPs r)) = true
      rw [a, c]; rfl
    · show max (PyData.depth (toP x)) (PyData.depthAll (toPs r)) ≤ n
      exact Nat.max_le.mpr ⟨b, d⟩
theorem okP_lst {n : Nat} {xs : List D} (h : ∀ x, x ∈ xs → okP n (toP x)) : okP (n + 1) (toP (.lst xs)) := ⟨(okP_all h).1, Nat.succ_le_succ (okP_all h).2⟩
theorem okP_tup {n : Nat} {xs : List D} (h : ∀ x, x ∈ xs → okP n (toP x)) : okP (n + 1) (toP (.tup xs)) := ⟨(okP_all h).1, Nat.succ_le_succ (okP_all h).2⟩
theorem okP_mono {n m : Nat} {p : PyData} (h : okP n p) (e : n ≤ m) : okP m p := ⟨h.1, Nat.le_trans h.2 e⟩
theorem shaped_of {n : Nat} {p : PyData} (h : okP n p) (e : n ≤ 64) : SeqAt.shaped p = true := by
  unfold SeqAt.shaped
  rw [h.1, decide_eq_true (Nat.le_trans h.2 e)]; rfl
theorem eqvAll_map {α : Type} [DecidableEq α] {f : α → D} (hf : ∀ a b, PyData.eqv (toP (f a)) (toP (f b)) = decide (a = b)) : ∀ xs ys : List α, PyData.eqvAll (toPs (xs.map f)) (toPs (ys.map f)) = decide (xs = ys)
  | [], [] => by simp [toPs, PyData.eqvAll]
  | [], _ :: _ => by simp [toPs, PyData.eqvAll]
  | _ :: _, [] => by simp [toPs, PyData.eqvAll]
  | a :: r, b :: s => by
    show (PyData.eqv (toP (f a)) (toP (f b)) && PyData.eqvAll (toPs (r.map f)) (toPs (s.map f))) = _
    rw [hf, eqvAll_map hf r s]
    by_cases h1 : a = b <;> by_cases h2 : r = s <;> simp [h1, h2]
/-! ### rows of ints -/
def dL (xs : List Int) : D := .lst (xs.map D.int)
def dT (xs : List Int) : D := .tup (xs.map D.int)
/-- a row of ints as a tuple (true) or a list -/
def dR (k : Bool) (xs : List Int) : D := if k = true then dT xs else dL xs
/-- rows as a tuple or a list of tuples or lists -/
def rows (k j : Bool) (xs : List (List Int)) : D := if k = true then .tup (xs.map (dR j)) else .lst (xs.map (dR j))
theorem eqv_int (a b : Int) : PyData.eqv (toP (.int a)) (toP (.int b)) = decide (a = b) := by
  show (a == b) = _
  rw [Bool.beq_eq_decide_eq]
theorem eqv_dL (a b : List Int) : PyData.eqv (toP (dL a)) (toP (dL b)) = decide (a = b) := eqvAll_map eqv_int a b
theorem eqv_dT (a b : List Int) : PyData.eqv (toP (dT a)) (toP (dT b)) = decide (a = b) := eqvAll_map eqv_int a b
theorem okP_ints {xs : List Int} : ∀ x, x ∈ xs.map D.int → okP 0 (toP x) := fun x h => by
  obtain ⟨i, _, rfl⟩ := List.mem_map.mp h
  exact okP_int
theorem okP_dL {xs : List Int} : okP 1 (toP (dL xs)) := okP_lst okP_ints
theorem okP_dT {xs : List Int} : okP 1 (toP (dT xs)) := okP_tup okP_ints
theorem seqA_dR {S : Sto} {k : Bool} {xs : List Int} : seqA S (dR k xs) = some (xs.map D.int) := by cases k <;> rfl
theorem seqA_rows {S : Sto} {k j : Bool} {xs : List (List Int)} : seqA S (rows k j xs) = some (xs.map (dR j)) := by cases k <;> rfl
section
variable {S : Sto} {a b : List Int} {i j : Int} {p q : Bool}
theorem shD_int : shD S (.int i) = true := rfl
theorem shD_bl : shD S (.bl p) = true := rfl
theorem shD_non : shD S .non = true := rfl
theorem shD_dL : shD S (dL a) = true := shaped_of okP_dL (by decide)
theorem shD_dT : shD S (dT a) = true := shaped_of okP_dT (by decide)
theorem shD_lst : shD S (.lst (a.map D.int)) = true := shaped_of okP_dL (by decide)
theorem shD_tup : shD S (.tup (a.map D.int)) = true := shaped_of okP_dT (by decide)
theorem eqD_int : eqD S (.int i) (.int j) = decide (i = j) := eqv_int i j
theorem eqD_bl : eqD S (.bl p) (.bl q) = (p == q) := rfl
theorem eqD_dL : eqD S (dL a) (dL b) = decide (a = b) := eqv_dL a b
theorem eqD_dT : eqD S (dT a) (dT b) = decide (a = b) := eqv_dT a b
theorem eqD_lst : eqD S (.lst (a.map D.int)) (.lst (b.map D.int)) = decide (a = b) := eqv_dL a b
theorem eqD_tup : eqD S (.tup (a.map D.int)) (.tup (b.map D.int)) = decide (a = b) := eqv_dT a b
end
/-! ### slices of rows of ints -/
def cutI (xs : List Int) (lo hi : Option Int) : List Int := (xs.drop (HT.sIx xs.length 0 lo)).take (HT.sIx xs.length xs.length hi - HT.sIx xs.length 0 lo)
theorem cutD_int {xs : List Int} {lo hi : Option Int} : cutD (xs.map D.int) lo hi = (cutI xs lo hi).map D.int := by
  unfold cutD cutI
  rw [List.length_map, List.map_take, List.map_drop]
theorem sIx_pos {n d : Nat} {i : Int} (h : 0 ≤ i) : HT.sIx n d (some i) = min i.toNat n := by
  obtain ⟨k, rfl⟩ := Int.eq_ofNat_of_zero_le h
  rw [HT.sIx_nat]
  simp
theorem cutI_from {xs : List Int} {i : Int} (h : 0 ≤ i) : cutI xs (some i) none = xs.drop i.toNat := by
  unfold cutI
  rw [sIx_pos h, HT.sIx_none]
  by_cases q : i.toNat ≤ xs.length
  · rw [Nat.min_eq_left q, List.take_of_length_le]
    rw [List.length_drop]; exact Nat.le_refl _
  · rw [Nat.min_eq_right (by omega), List.drop_length, List.drop_eq_nil_of_le (by omega), List.take_nil]
theorem cutI_to {xs : List Int} {i : Int} (h : 0 ≤ i) : cutI xs none (some i) = xs.take i.toNat := by
  unfold cutI
  rw [sIx_pos h, HT.sIx_none, List.drop_zero, Nat.sub_zero]
  by_cases q : i.toNat ≤ xs.length
  · rw [Nat.min_eq_left q]
  · rw [Nat.min_eq_right (by omega), List.take_length, List.take_of_length_le (by omega)]
theorem cutI_both {xs : List Int} {i j : Int} (h : 0 ≤ i) (h2 : 0 ≤ j) : cutI xs (some i) (some j) = (xs.drop i.toNat).take (j.toNat - i.toNat) := by
  unfold cutI
  rw [sIx_pos h, sIx_pos h2]
  generalize i.toNat = a
  generalize j.toNat = b
  by_cases q : a ≤ xs.length
  · rw [Nat.min_eq_left q]
    by_cases q2 : b ≤ xs.length
    · rw [Nat.min_eq_left q2]
    · rw [Nat.min_eq_right (Nat.le_of_not_le q2), List.take_of_length_le (by rw [List.length_drop]; exact Nat.le_refl _), List.take_of_length_le (by rw [List.length_drop]; omega)]
  · rw [Nat.min_eq_right (Nat.le_of_not_le q), List.drop_length, List.drop_eq_nil_of_le (by omega), List.take_nil, List.take_nil]
end DL
set_option Elab.async false
set_option linter.all false
set_option maxRecDepth 100000
set_option maxHeartbeats 1000000
/-! The data layer, part j: the law's own head. -/
namespace DL
open PySem PySem.Spec PyProof.Rows L2
theorem cx_no {P : Program} {w : World} {o : List Env} {H : Hp} {s s' : Shared} {e : Value} (h : L2.CX P w o H s (fun _ _ _ => False) e s') : False := by
  obtain ⟨_, _, _, _, _, _, _, _, _, _, _, _, h⟩ := h
  exact h
/-- what is asked of the law: true, whatever else it leaves -/
def spScript : Ctr := fun ds S Q _ => ∃ cells : List Int, ds = [.fro (cells.map D.int)] ∧ cells.length ≤ 63 ∧ ∀ S', Q (.bl true) S'
theorem spScript_at {K : PySem.W.Frag} {H : Hp} {a : Addr} {ns : List Int} {E : XK} (hl : ns.length ≤ 63) (hS : SqL K H a (ns.map V.int)) : lSp K spScript [.ref a] H (fun v _ => v = .bl true) E :=
  ⟨H, fun _ => none, [.fro (ns.map D.int)], fun d _ => d = .bl true, X0, ⟨Same.refl H, (fun _ _ h => nomatch h), (fun _ _ h => nomatch h)⟩, ⟨_, _, rfl, ⟨a, _, rfl, hS, reps_ints⟩, rfl⟩, ⟨ns, rfl, hl, fun _ => rfl⟩,
    fun d S' v W' H' h _ _ r => by subst h; exact r, CXc.no⟩
end DL
set_option Elab.async false
set_option linter.all false
set_option maxRecDepth 100000
set_option maxHeartbeats 2000000
/-! The data layer, part k: enumerate of tuples. -/
namespace DL
open PySem PySem.Spec PyProof.Rows L2
abbrev itObj (a : Addr) : Obj := { cls := .type "tuple_iterator", data := .fields #[.ref a, .int 0 0] }
abbrev enObj (i : Addr) : Obj := { cls := .type "enumerate", data := .fields #[.none, .bool false, .ref i, rawInt 0, .none, .none] }
theorem enumT_meets (a : Addr) (xs : Array Value) (m : Nat) (od : Option Addr) (sl : Array (Option Value)) :
    Meets (Builtin.«enumerate.__new__» ⟨[.type "enumerate", .ref a], []⟩) (fun _ R s => s.heap.get? a = some { cls := .type "tuple", dict := od, data := .seq xs m, slots := sl } ∧
      R (.ok (.ret (.ref (s.heap.push (itObj a)).objs.size))) { s with heap := (s.heap.push (itObj a)).push (enObj s.heap.objs.size) }) :=
  .of_wp fun prog w A R s q => by
    obtain ⟨hp, gg, dr, tk, os⟩ := s
    obtain ⟨ha, q⟩ := q
    have hsub := sub_enumerate
    have hT : Heap.IsTuple (Shared.heap ⟨hp, gg, dr, tk, os⟩) a xs := ⟨_, ha, rfl, m, rfl⟩
    wp_walk using wpAny_loadPart' ha
    refine wpAny_stack_any fun st => wpAny_pure ?_
    split
    · rename_i c _ _ _ _ _
      cases (c == Value.type "enumerate")
      all_goals
        wp_walk using wpAny_loadPart' ha, wpAny_pyIter_tuple hT
        exact ⟨_, rfl, q⟩
    · wp_walk using wpAny_loadPart' ha, wpAny_pyIter_tuple hT
      exact ⟨_, rfl, q⟩
theorem call_enumT {prog : Program} {w : World} {A : Around} {E : Value → Shared → Prop} {s : Shared} {a : Addr} {xs : Array Value} {Q : Value → Shared → Prop} (hT : s.heap.IsTuple a xs)
    (q : ∀ h', IsEnum h' (s.heap.objs.size + 1) s.heap.objs.size 0 .none → h'.IsTupleIter s.heap.objs.size a 0 → (∀ b o, s.heap.get? b = some o → h'.get? b = some o) → Q (.ref (s.heap.objs.size + 1)) { s with heap := h' }) :
    wpAny (model prog w) A (call (.type "enumerate") [.ref a]) Q E s := by
  obtain ⟨⟨c, od, dt, sl⟩, ha, hc, m, hd⟩ := hT
  replace hc : c = .type "tuple" := hc
  replace hd : dt = .seq xs m := hd
  subst hc hd
  refine callType_new F.called_enumerate (by decide) (F.typeCall_enumerate_1 _) (F.newCall_enumerate_1 _) (fun obj => F.args_object_init_2 obj _) F.entry_enumerate_new (enumT_meets a xs m od sl) ⟨ha, ?_⟩
  have hz : (s.heap.push (itObj a)).objs.size = s.heap.objs.size + 1 := Heap.size_push ..
  show _ ∧ _
  rw [hz]
  have he : IsEnum ((s.heap.push (itObj a)).push (enObj s.heap.objs.size)) (s.heap.objs.size + 1) s.heap.objs.size 0 .none := by
    have z := Heap.get?_push_size (s.heap.push (itObj a)) (o := enObj s.heap.objs.size) rfl
    rw [hz] at z
    exact z
  exact ⟨⟨_, he, rfl⟩, q _ he ⟨_, Heap.get?_push_of_some _ (Heap.get?_push_size _ rfl), rfl, rfl⟩ fun b o x => Heap.get?_push_of_some _ (Heap.get?_push_of_some _ x)⟩
/-- the tuple at a, each item in a new pair -/
def IteT (K : PySem.W.Frag) (a : Addr) : It :=
  ⟨fun i H => ∃ (xs : List V) (x : V), SqT K H a xs ∧ xs[i]? = some x, fun i H v H' => ∃ T x, v = .ref T ∧ H T = none ∧ H' = upd H T (.tup [.int (i : Nat), x]) ∧ ∀ xs, SqT K H a xs → xs[i]? = some x, fun i H => ∃ xs : List V, SqT K H a xs ∧ xs.length = i⟩
theorem turn_enumT {P : Program} {w : World} {K : PySem.W.Frag} {elts : List Expr} {kk : Nat} {tpos : Pos} (a e it : Addr) :
    Turn P w K (.Tuple elts kk tpos) (IteT K a) [e, it] e (fun i h => (∃ old, IsEnum h e it ((i : Nat) : Int) old) ∧ h.IsTupleIter it a i ∧ e ≠ it ∧ a ≠ it ∧ e ≠ a) where
  mem := by simp
  obj := fun i h st b hb => by
    obtain ⟨⟨old, he⟩, ⟨o, ho, hc, hd⟩, _⟩ := st
    rcases (show b = e ∨ b = it by simpa using hb) with z | z
    · rw [z]; exact ⟨_, he, fun v q => nomatch q⟩
    · rw [z]; exact ⟨o, ho, fun v q => by rw [hd] at q; cases q⟩
  keep := fun i h h' st k => let ⟨⟨old, he⟩, hi, hne⟩ := st; ⟨⟨old, k e (by simp) _ he⟩, hi.at fun o q => k it (by simp) o q, hne⟩
  item := by
    intro X hP hw hK hc i pins s σ H E I hf st hg
    subst hP hw hK
    obtain ⟨⟨old, he⟩, hit, n1, n2, n3⟩ := st
    obtain ⟨xs, x, hq, hx⟩ := hg
    obtain ⟨its, rv, p, hz⟩ := I.tuple hq
    obtain ⟨u, hu, ru⟩ := rv.get hx
    have hel : e < s.heap.objs.size := Heap.lt_size he
    have hil : it < s.heap.objs.size := by obtain ⟨_, q, _⟩ := hit; exact Heap.lt_size q
    have hil2 : i < its.toArray.size := by
      have := lt_of_some hu
      simpa using this
    have hh : X.A.in1.handled = Option.none := I.ok.hd hc
    refine wpAny_pyNext_enum_itemD (Draws.tuple hh it a n2 its.toArray) he ⟨hit, (show s.heap.IsTuple a its.toArray from p)⟩ hil2 n1 (by simp [n1, n3]) fun x' h' tk hPx ho hst hT hsz hk => ?_
    have ex : x' = u := by
      have h1 : its[i]? = some x' := by simpa using hPx
      rw [hu] at h1
      exact (Option.some.inj h1).symm
    subst ex
    refine ⟨_, rfl, wpAny_letOwnedTupleGo_enum (s := { s with heap := h', toks := tk + 1 }) ho fun h'' he' sb => ?_⟩
    have hT2 : h''.get? s.heap.objs.size = some { cls := .type "tuple", data := .seq #[.int i tk, x'] } := (sb.2 _ (Nat.ne_of_gt hel)).trans hT
    have new : ObjOk X.prog X.w (upd H s.heap.objs.size (.tup [.int (i : Nat), x])) h'' s.heap.objs.size (.tup [.int (i : Nat), x]) :=
      ⟨by show 2 ≤ sizeLine; decide, [.int i tk, x'], .cons ⟨_, rfl⟩ (.cons ru .nil), ⟨_, hT2, rfl, _, rfl⟩⟩
    have I1 : Inv X pins σ (upd H s.heap.objs.size (.tup [.int (i : Nat), x])) { s with heap := h'', toks := tk + 1 } :=
      I.turnedNew (ch := [e, it]) (fun b ob hb q => (sb.2 b (fun z => hb (by simp [z]))).trans (hk b ob (fun z => hb (by simp [z])) (fun z => hb (by simp [z])) q)) hf (Nat.le_refl _) new
    refine ⟨.ref s.heap.objs.size, _, I1, rfl, ⟨_, x, rfl, I.hok.fresh (Nat.le_refl _), rfl, fun ys hy => by rw [I.tuple_inj hy hq]; exact hx⟩, ⟨⟨x', ?_⟩, hst.1.at fun o q => (sb.2 it (Ne.symm n1)).trans q, n1, n2, n3⟩, fun b hb => ?_⟩
    · have e1 : ((i + 1 : Nat) : Int) = (i : Int) + 1 := by omega
      rw [e1]; exact he'
    · have hb' : b < s.heap.objs.size := by
        rcases (show b = e ∨ b = it by simpa using hb) with z | z
        · rw [z]; exact hel
        · rw [z]; exact hil
      rw [upd_ne (Nat.ne_of_lt hb')]
      exact (hf b hb).1
  done := by
    intro X hP hw hK hc i pins s σ H E I hf st hg
    subst hP hw hK
    obtain ⟨⟨old, he⟩, hit, n1, n2, n3⟩ := st
    obtain ⟨xs, hq, hx⟩ := hg
    obtain ⟨its, rv, p, hz⟩ := I.tuple hq
    obtain ⟨f0, f1, f2, f3, f4, f5⟩ := hf it (by simp)
    have hl := rv.length
    have hh : X.A.in1.handled = Option.none := I.ok.hd hc
    have ei : i = its.toArray.size := by simp; omega
    subst ei
    exact wpAny_pyNext_enum_endD (Draws.tuple hh it a n2 its.toArray) he ⟨hit, (show s.heap.IsTuple a its.toArray from p)⟩ fun h' eb => ⟨rfl, I.turned (t' := s.toks) (fun b o hb q => eb b o hb q) f0 f1 f3 f4 f5⟩
  self := fun A i s Q E st h => let ⟨⟨_, he⟩, _⟩ := st; wpAny_pyIter_enum he h
end DL
set_option Elab.async false
set_option linter.all false
set_option maxRecDepth 100000
set_option maxHeartbeats 1000000
/-! The data layer, part l: enumerate, constants, isinstance of several, pop at a place, a list repeated, calls by keyword. -/
namespace DL
open PySem PySem.Spec PyProof.Rows L2
section
/-- pairs of a place and an item -/
def enumD : Nat → List D → List D
  | _, [] => []
  | j, x :: r => .tup [.int (j : Int), x] :: enumD (j + 1) r
theorem enumD_get : ∀ {j : Nat} {xs : List D} {i : Nat} {d : D}, (enumD j xs)[i]? = some d → ∃ x, xs[i]? = some x ∧ d = .tup [.int ((j + i : Nat) : Int), x]
  | _, [], _, _, h => by simp [enumD] at h
  | j, x :: r, 0, d, h => ⟨x, rfl, (Option.some.inj h).symm⟩
  | j, x :: r, i + 1, d, h => by
    obtain ⟨y, h1, h2⟩ := enumD_get (j := j + 1) (xs := r) (i := i) h
    exact ⟨y, h1, by rw [h2]; congr 3; omega⟩
theorem enumD_length : ∀ {j : Nat} {xs : List D}, (enumD j xs).length = xs.length
  | _, [] => rfl
  | j, x :: r => congrArg (· + 1) (enumD_length (j := j + 1) (xs := r))
def wEnum (w : WPe) : WPi := fun env S Q X => w env S (fun d S1 => some! (seqA S1 d) fun xs => Q (enumD 0 xs) (fun S' => seqA S' d = some xs) S1) X
def iEnA (K : PySem.W.Frag) (ta : TA) : TI := fun σ H R => ta σ H fun vs H1 => ∃ a, vs = [.ref a] ∧ (((∃ xs, SqL K H1 a xs) ∧ R (Ite K a) H1) ∨ ((∃ xs, SqT K H1 a xs) ∧ R (IteT K a) H1))
theorem pi_enA {X : Cx} {e : Expr} {ta : TA} {p pos tpos : Pos} {elts : List Expr} {kk : Nat} (hg : Gl X "enumerate") (hm : X.mg "enumerate" = none) (ha : PA X [e] ta) (hs : starEach [e] X.env = [(false, eval e X.env)] := by rfl) :
    PI X (.Tuple elts kk tpos) (.Call (.Name "enumerate" p) [e] [] pos) (iEnA X.K ta) := by
  refine ⟨fun pins s σ H R I h => ?_⟩
  refine Call_ (ld_blt I hg hm boot_enumerate (PyProof.Rows.callWith_type1 (thn (ha.run pos pins s σ H _ I h) fun us s1 ⟨vs, H1, I1, r1, a, ev, q1⟩ => ?_) hs rfl))
  subst ev
  cases r1 with
  | cons r rr =>
    cases rr
    cases r
    have fpk : ∀ b, b ∈ [s1.heap.objs.size + 1, s1.heap.objs.size] → FpOk X pins H1 b := fun b hb => by
      have hle : s1.heap.objs.size ≤ b := by
        rcases (show b = s1.heap.objs.size + 1 ∨ b = s1.heap.objs.size by simpa using hb) with z | z
        · rw [z]; exact Nat.le_add_right _ _
        · rw [z]; exact Nat.le_refl _
      exact I1.fpOk hle (I1.hok.fresh hle)
    rcases q1 with ⟨⟨xs, hq⟩, q⟩ | ⟨⟨xs, hq⟩, q⟩
    · obtain ⟨its, rv, pl, hz⟩ := I1.list hq
      refine call_enumerate_list pl.isList fun h' he hit hsz hk => wpAny_pyIter_enum he ?_
      exact ⟨s1.heap.objs.size + 1, [s1.heap.objs.size + 1, s1.heap.objs.size], _, _, H1, rfl, I1.kept (t' := s1.toks) hk, turn_enum a (s1.heap.objs.size + 1) s1.heap.objs.size, ⟨⟨.none, he⟩, hit, Nat.succ_ne_self _⟩, fpk, q⟩
    · obtain ⟨its, rv, pl, hz⟩ := I1.tuple hq
      have hT : s1.heap.IsTuple a its.toArray := pl
      have hal : a < s1.heap.objs.size := by
        obtain ⟨o, ho, _⟩ := hT
        exact Heap.lt_size ho
      refine call_enumT hT fun h' he hit hk => wpAny_pyIter_enum he ?_
      exact ⟨s1.heap.objs.size + 1, [s1.heap.objs.size + 1, s1.heap.objs.size], _, _, H1, rfl, I1.kept (t' := s1.toks) hk, turn_enumT a (s1.heap.objs.size + 1) s1.heap.objs.size, ⟨⟨.none, he⟩, hit, Nat.succ_ne_self _, Nat.ne_of_lt hal, (Nat.ne_of_lt (Nat.lt_succ_of_lt hal)).symm⟩, fpk, q⟩
end
section
variable {K : PySem.W.Frag}
theorem jok_enL {W0 : Hp} {S0 : Sto} {H0 : Hp} {d : D} {a : Addr} {xs : List D} (ok : Ok K W0 S0 H0) (r : Rep K W0 d (.ref a)) (hL : seqL S0 d = some xs) (hA : ∀ {S}, seqA S d = seqL S d) :
    (∃ vs, SqL K H0 a vs) ∧ JOk K (Ite K a) W0 (enumD 0 xs) (fun S' => seqA S' d = some xs) := by
  obtain ⟨b, ws, e1, e2, e3⟩ := seqL_rep ok r hL
  cases e1
  refine ⟨⟨ws, e2⟩, ⟨fun i W S H d' hd s1 ok1 g => ?_, fun W S H s1 ok1 g => ?_⟩⟩
  · rw [hA] at g
    obtain ⟨c, zs, e7, e8, e9⟩ := seqL_rep ok1 (r.mono s1) g
    cases e7
    obtain ⟨y, hy, rfl⟩ := enumD_get hd
    obtain ⟨u, hu, ru⟩ := e9.get hy
    refine ⟨⟨zs, u, e8, hu⟩, fun x H' ⟨T, x', e4, e5, e6, e10⟩ => ?_⟩
    subst e4 e6
    have e11 := e10 zs e8
    rw [hu] at e11
    cases e11
    have n := ok1.fresh e5
    exact ⟨_, ok1.stW e5, ok1.newW e5, T, _, rfl, SqT.of upd_same, _, _, rfl, by rw [Nat.zero_add]; rfl, _, _, rfl, ru.mono (same_new n.1), rfl⟩
  · rw [hA] at g
    obtain ⟨c, zs, e7, e8, e9⟩ := seqL_rep ok1 (r.mono s1) g
    cases e7
    rw [enumD_length]
    exact ⟨zs, e8, Nat.le_of_eq e9.length⟩
theorem jok_en {W0 : Hp} {S0 : Sto} {H0 : Hp} {d : D} {v : V} {xs : List D} (ok : Ok K W0 S0 H0) (r : Rep K W0 d v) (h : seqA S0 d = some xs) :
    ∃ a, v = .ref a ∧ (((∃ vs, SqL K H0 a vs) ∧ JOk K (Ite K a) W0 (enumD 0 xs) (fun S' => seqA S' d = some xs)) ∨ ((∃ vs, SqT K H0 a vs) ∧ JOk K (IteT K a) W0 (enumD 0 xs) (fun S' => seqA S' d = some xs))) := by
  obtain ⟨a, vs, rfl, hq, rv⟩ := seqA_rep ok r h
  refine ⟨a, rfl, ?_⟩
  cases d with
  | tup ys =>
    cases h
    obtain ⟨b, ws, e1, e2, e3⟩ := r
    cases e1
    refine .inr ⟨⟨ws, sqT_mono ok.vis e2⟩, ⟨fun i W S H d' hd s1 ok1 _ => ?_, fun W S H s1 ok1 _ => ?_⟩⟩
    · obtain ⟨y, hy, rfl⟩ := enumD_get hd
      obtain ⟨u, hu, ru⟩ := e3.get hy
      have hT := sqT_mono (s1.trans ok1.vis) e2
      refine ⟨⟨ws, u, hT, hu⟩, fun x H' ⟨T, x', e4, e5, e6, e10⟩ => ?_⟩
      subst e4 e6
      have e11 := e10 ws hT
      rw [hu] at e11
      cases e11
      have n := ok1.fresh e5
      exact ⟨_, ok1.stW e5, ok1.newW e5, T, _, rfl, SqT.of upd_same, _, _, rfl, by rw [Nat.zero_add]; rfl, _, _, rfl, (ru.mono s1).mono (same_new n.1), rfl⟩
    · rw [enumD_length]
      exact ⟨ws, sqT_mono (s1.trans ok1.vis) e2, e3.length⟩
  | lst ys => exact .inl (jok_enL ok r h rfl)
  | fro ys => exact .inl (jok_enL ok r h rfl)
  | ref b => exact .inl (jok_enL ok r h rfl)
  | _ => cases h
end
section
variable {X : Cx} {e : Expr} {w : WPe} {p pos tpos : Pos} {elts : List Expr} {kk : Nat}
theorem pdi_enum (hm : X.mg "enumerate" = none) (h : PD X e w) (hg : Gl X "enumerate" := by rfl) (hs : starEach [e] X.env = [(false, eval e X.env)] := by rfl) (hs2 : starEach [e] X.env = (false, eval e X.env) :: starEach [] X.env := by rfl) :
    PDi X (.Tuple elts kk tpos) (.Call (.Name "enumerate" p) [e] [] pos) (wEnum w) :=
  ⟨fun Wx tk => PI.imp (pi_enA hg hm (pa_cons (h.run Wx tk) pa_nil hs2) hs) fun σ H R ⟨W, env, S, Q0, X1, ok, sl, hw, cv, cx⟩ => ⟨W, env, S, _, X1, ok, sl, hw, fun d S1 v W1 H1 h1 s1 ok1 r1 => by
    obtain ⟨xs, e1, h1⟩ := some!_ex h1
    obtain ⟨a, rfl, ⟨q, j⟩ | ⟨q, j⟩⟩ := jok_en ok1 r1 e1
    · exact ⟨a, rfl, .inl ⟨q, cv _ _ S1 W1 H1 _ h1 s1 ok1 j⟩⟩
    · exact ⟨a, rfl, .inr ⟨q, cv _ _ S1 W1 H1 _ h1 s1 ok1 j⟩⟩, cx⟩⟩
/-- a constant of the module -/
theorem pd_glob {x : Str} {i : Int} (h : ∃ u, X.mg x = some u ∧ RelV (.int i) u) (hg : Gl X x := by rfl) (hd : (x == ("__debug__" : Str)) = false := by decide) : PD X (.Name x pos) (wC (.int i)) := by
  obtain ⟨u, hm, r⟩ := h
  exact pd_c (pe_glob hg hm r hd) fun _ => rfl
/-- xs.pop(i) -/
def oPopAt : OM := fun S d ds Q => mutL S d fun a xs => one ds fun e => asI e fun i => (-(2 ^ 63) ≤ i ∧ i < 2 ^ 63) ∧ some! (seqIndex? i xs.length) fun k => some! xs[k]? fun y => Q y (put S a (.lst (xs.eraseIdx k)))
theorem reps_erase {K : PySem.W.Frag} {W : Hp} : ∀ {xs : List D} {vs : List V} (k : Nat), Reps K W xs vs → Reps K W (xs.eraseIdx k) (vs.eraseIdx k)
  | [], _, _, h => by rw [show _ = [] from h]; rfl
  | _ :: _, _, 0, ⟨v, r, e1, e2, e3⟩ => by subst e1; exact e3
  | _ :: _, _, k + 1, ⟨v, r, e1, e2, e3⟩ => by
    subst e1
    exact ⟨v, _, rfl, e2, reps_erase k e3⟩
theorem md_popAt : MtR X "list.pop" (lM X.K oPopAt) := MtR.imp mt_popAt fun x vs H Q ⟨W, S, d, ds, Q0, ok, r, rs, ho, cv⟩ => by
  obtain ⟨a, xs, us, rfl, rfl, e1, e2, rv, h⟩ := mutL_rep ok r ho
  obtain ⟨y, rfl, h⟩ := one_ex h
  obtain ⟨i, rfl, hi, h⟩ := asI_ex h
  obtain ⟨k, ek, h⟩ := some!_ex h
  obtain ⟨z, ez, h⟩ := some!_ex h
  obtain ⟨t, rfl, rt⟩ := reps1 rs
  obtain ⟨u, e4, ru⟩ := rv.get ez
  exact ⟨a, us, i, k, u, rfl, by rw [show t = .int i from rt], e2, hi.1, hi.2, by rw [rv.length]; exact ek, e4, cv _ _ _ _ _ h (ok.stC e1) (ok.chg e1 ⟨_, rfl, reps_erase k rv⟩) ru⟩
/-! ### isinstance of several classes -/
def kitAnyB : String → List String → Option Bool
  | _, [] => some false
  | a, b :: bs => match kitB a b with
    | some true => some true
    | some false => kitAnyB a bs
    | none => none
theorem kit_any {K : PySem.W.Frag} {a : String} : ∀ {bs : List String} {r : Bool}, kitAnyB a bs = some r → PySem.W.kitAny K (.type a) (bs.map Value.type) = some r
  | [], r, h => by cases h; exact kitAny_nil
  | b :: bs, r, h => by
    have h' : (match kitB a b with | some true => some true | some false => kitAnyB a bs | none => none) = some r := h
    cases q : kitB a b with
    | none => rw [q] at h'; cases h'
    | some k =>
      rw [q] at h'
      cases k with
      | true => exact kitAny_cons (kit_ty q) (fun z => by cases z) fun _ => (Option.some.inj h').symm
      | false => exact kitAny_cons (kit_ty q) (fun _ => kit_any h') fun z => by cases z
def wIsiT (Ts : List String) (w : WPe) : WPe := fun env S Q X => w env S (fun d S1 => some! (tyN S1 d) fun n => some! (kitAnyB n Ts) fun b => Q (.bl b) S1) X
/-- the classes, one after the other -/
def tTys (Ts : List String) : TA := fun σ H Q => Q (Ts.map V.ty) H
theorem pa_tys0 {X : Cx} : PA X [] (tTys []) := pa_nil
theorem pa_tys {X : Cx} {e : Expr} {es : List Expr} {T : String} {Ts : List String} (h : PE X e (tC (.ty T))) (r : PA X es (tTys Ts)) (hs : starEach (e :: es) X.env = (false, eval e X.env) :: starEach es X.env := by rfl) : PA X (e :: es) (tTys (T :: Ts)) := pa_cons h r hs
theorem clsv_all : ∀ Ts : List String, Paired ClsV (Ts.map V.ty) (Ts.map Value.type)
  | [] => .nil
  | T :: Ts => .cons (.ty T) (clsv_all Ts)
theorem pd_isiT {X : Cx} {e : Expr} {w : WPe} {p p2 pos : Pos} {es : List Expr} {kk : Nat} {Ts : List String} (he : PD X e w) (ht : PA X es (tTys Ts)) (hm : X.mg "isinstance" = none) (hz : Ts.length ≤ sizeLine := by decide) (hg : Gl X "isinstance" := by rfl)
    (hs : starEach [e, .Tuple es kk p2] X.env = (false, eval e X.env) :: starEach [.Tuple es kk p2] X.env := by rfl) (hs2 : starEach [.Tuple es kk p2] X.env = [(false, eval (.Tuple es kk p2) X.env)] := by rfl) (hpl : (backTo pos (starEach [.Tuple es kk p2] X.env)).any (·.1) = false := by rfl) :
    PD X (.Call (.Name "isinstance" p) [e, .Tuple es kk p2] [] pos) (wIsiT Ts w) :=
  ⟨fun Wx tk => PE.imp (pe_callB call_isiT hg hm (by decide +kernel) (pa_cons (he.run Wx tk) (pa_cons (pe_tup ht) pa_nil hs2) hs) (by decide) (by decide) hs hpl) fun σ H Q ⟨W, env, S, Q0, X1, ok, sl, hw, cv, cx⟩ => ⟨W, env, S, _, X1, ok, sl, hw, fun d S1 v W1 H1 h1 s1 ok1 r1 => by
    obtain ⟨n, e1, h1⟩ := some!_ex h1
    obtain ⟨b, e2, h1⟩ := some!_ex h1
    refine ⟨by rw [List.length_map]; exact hz, fun q hq => ?_⟩
    have nq := ok1.fresh hq
    exact ⟨v, q, Ts.map V.ty, .type n, Ts.map Value.type, b, rfl, upd_same, clsv_all Ts, tyN_rep (ok1.newW (o := .tup (Ts.map V.ty)) hq) (r1.mono (same_new nq.1)) e1, kit_any e2, cv _ S1 _ _ _ h1 (s1.trans (ok1.stW hq)) (ok1.newW hq) rfl⟩, cx⟩⟩
end
/-! ### a list repeated -/
section
variable {X : Cx}
def oRep : O2 := fun S x y Q => match y with
  | .int k => some! (seqM S x) fun xs => (-(2 ^ 63) ≤ k ∧ k < 2 ^ 63 ∧ xs.length * k.toNat ≤ sizeLine) ∧ Q (.lst (List.replicate k.toNat xs).flatten) S
  | _ => False
theorem reps_rep {K : PySem.W.Frag} {W : Hp} {xs : List D} {vs : List V} (h : Reps K W xs vs) : ∀ n : Nat, Reps K W (List.replicate n xs).flatten (List.replicate n vs).flatten
  | 0 => rfl
  | n + 1 => by
    rw [List.replicate_succ, List.replicate_succ, List.flatten_cons, List.flatten_cons]
    exact h.append (reps_rep h n)
theorem opd_rep : OpR X (binaryOp .Mult) (lOp X.K oRep) := OpR.imp op_rep fun x y H Q ⟨W, S, a, b, Q0, ok, ra, rb, ho, cv⟩ => by
  cases b with
  | int k =>
    obtain ⟨xs, e1, hk, ho⟩ := some!_ex ho
    obtain ⟨l, vs, rfl, hl, rv⟩ := seqM_rep ok ra e1
    refine ⟨l, k, vs, rfl, rb, hl, hk.1, hk.2.1, by rw [rv.length]; exact hk.2.2, fun p hp => ?_⟩
    have n := ok.fresh hp
    exact cv _ S _ _ _ ho (ok.stW hp) (ok.newW hp) ⟨p, _, rfl, upd_same, (reps_rep rv _).mono (same_new n.1)⟩
  | _ => exact ho.elim
end
/-! ### calls by keyword -/
def pick {α : Type} (perm : List Nat) (l : List α) : List α := perm.filterMap fun i => l[i]?
/-- n arguments by place, m by name -/
def pickK (n m : Nat) (perm : List Nat) {α : Type} (us ws : List α) : List α := if us.length = n ∧ ws.length = m then pick perm (us ++ ws) else []
theorem paired_get {α β : Type} {R : α → β → Prop} : ∀ {xs : List α} {ys : List β}, Paired R xs ys → ∀ i : Nat, (∃ x y, xs[i]? = some x ∧ ys[i]? = some y ∧ R x y) ∨ (xs[i]? = none ∧ ys[i]? = none)
  | _, _, .nil, i => .inr ⟨by simp, by simp⟩
  | _, _, .cons h r, 0 => .inl ⟨_, _, rfl, rfl, h⟩
  | _, _, .cons h r, i + 1 => paired_get r i
theorem vals_pick {vs : List V} {us : List Value} (h : Vals vs us) : ∀ perm : List Nat, Vals (pick perm vs) (pick perm us)
  | [] => .nil
  | i :: r => by
    rcases paired_get h i with ⟨x, y, e1, e2, q⟩ | ⟨e1, e2⟩
    · show Vals (List.filterMap _ (i :: r)) (List.filterMap _ (i :: r))
      rw [List.filterMap_cons, List.filterMap_cons, e1, e2]
      exact .cons q (vals_pick h r)
    · show Vals (List.filterMap _ (i :: r)) (List.filterMap _ (i :: r))
      rw [List.filterMap_cons, List.filterMap_cons, e1, e2]
      exact vals_pick h r
theorem reps_pick {K : PySem.W.Frag} {W : Hp} {ds : List D} {vs : List V} (h : Reps K W ds vs) : ∀ perm : List Nat, Reps K W (pick perm ds) (pick perm vs)
  | [] => rfl
  | i :: r => by
    show Reps K W (List.filterMap _ (i :: r)) (List.filterMap _ (i :: r))
    rw [List.filterMap_cons, List.filterMap_cons]
    cases e : ds[i]? with
    | none =>
      have e2 : vs[i]? = none := by
        rw [List.getElem?_eq_none_iff] at e ⊢
        rw [h.length]; exact e
      rw [e2]
      exact reps_pick h r
    | some d =>
      obtain ⟨v, e2, rv⟩ := h.get e
      rw [e2]
      exact ⟨v, _, rfl, rv, reps_pick h r⟩
theorem reps_pickK {K : PySem.W.Frag} {W : Hp} {n m : Nat} {perm : List Nat} {ds es : List D} {vs zs : List V} (h1 : Reps K W ds vs) (h2 : Reps K W es zs) : Reps K W (pickK n m perm ds es) (pickK n m perm vs zs) := by
  unfold pickK
  rw [h1.length, h2.length]
  by_cases q : ds.length = n ∧ es.length = m
  · rw [if_pos q, if_pos q]; exact reps_pick (h1.append h2) perm
  · rw [if_neg q, if_neg q]; rfl
theorem kb_mk {K : PySem.W.Frag} {fd : FuncData} {ps ks : List Str} {n m : Nat} {perm : List Nat} (hps : ps ≠ []) (h : ∀ us ws : List Value, us.length = n → ws.length = m → bindArgs fd ⟨us, ks.zip ws⟩ = pure (ps.zip (pick perm (us ++ ws)))) :
    KBinds K fd ps ks (fun us ws => pickK n m perm us ws) (fun us ws => pickK n m perm us ws) where
  to := fun s us ws _ hl => by
    unfold pickK at hl ⊢
    by_cases q : us.length = n ∧ ws.length = m
    · rw [if_pos q]
      exact .of_eq (h us ws q.1 q.2)
    · rw [if_neg q] at hl
      exact absurd (List.eq_nil_of_length_eq_zero hl.symm) hps
  rel := fun {vs us zs ws} r1 r2 => by
    unfold pickK
    rw [r1.length, r2.length]
    by_cases q : us.length = n ∧ ws.length = m
    · rw [if_pos q, if_pos q]
      exact vals_pick (r1.append r2) perm
    · rw [if_neg q, if_neg q]
      exact .nil
def wCallK (spec : Ctr) (n m : Nat) (perm : List Nat) (wa wk : WPa) : WPe := fun env S Q X => wa env S (fun ds S1 => wk env S1 (fun es S2 => spec (pickK n m perm ds es) S2 Q X) X) X
structure PDk (X : Cx) (kws : List Keyword) (w : WPa) : Prop where
  run : ∀ Wx, Takes X Wx → PK X kws (lA X.K Wx w)
theorem PK.imp {X : Cx} {kws : List Keyword} {t t' : TA} (h : PK X kws t) (i : ∀ σ H Q, t' σ H Q → t σ H Q) : PK X kws t' := ⟨fun po pins s σ H Q I q => h.run po pins s σ H Q I (i σ H Q q)⟩
section
variable {X : Cx} {x : Str} {p pos kpos : Pos} {e : Expr} {es : List Expr} {kws : List Keyword} {wa wk r : WPa} {w : WPe} {nm : Option Str} {k n m : Nat} {perm : List Nat} {f : Addr} {fd : FuncData} {ps ks : List Str} {spec : Ctr}
theorem pdk_nil : PDk X [] wNil := ⟨fun Wx tk => PK.imp pk_nil fun σ H Q ⟨W, env, S, Q0, X1, ok, sl, hw, cv, cx⟩ => cv [] S [] W H hw Stp.refl ok rfl⟩
theorem pdk_cons (h : PD X e w) (hr : PDk X kws r) : PDk X (⟨nm, e, kpos⟩ :: kws) (wCons w r) :=
  ⟨fun Wx tk => PK.imp (pk_cons (h.run Wx tk) (hr.run Wx tk)) fun σ H Q ⟨W, env, S, Q0, X1, ok, sl, hw, cv, cx⟩ => ⟨W, env, S, _, X1, ok, sl, hw, fun d S1 v W1 H1 h1 s1 ok1 r1 =>
    ⟨W1, env, S1, _, X1, ok1, sl.mono s1.vis, h1, fun ds S2 vs W2 H2 h2 s2 ok2 r2 => cv _ S2 _ W2 H2 h2 (s1.trans s2) ok2 ⟨v, vs, rfl, r1.mono s2.vis, r2⟩, cx.mono s1⟩, cx⟩⟩
theorem run_fnKS {CX : CXT} {sp : Sp} {E : L2.St → XK} {g : List Value → List Value → List Value} {gV : List V → List V → List V} {pins : List (Addr × Obj)} {σ : L2.St} {H : Hp} {s : Shared} {Q : VK} {us ws : List Value} {vs zs : List V}
    (F : FnOk X.prog X.w X.K X.mg X.base CX k f fd ps sp) (hr : Room k X.A) (hb : KBinds X.K fd ps ks g gV) (hx : PassesAt CX X σ (E σ)) (I : L2.Inv X pins σ H s) (r1 : Vals vs us) (r2 : Vals zs ws) (h : sp (gV vs zs) H Q (E σ)) :
    wpAny (model X.prog X.w) X.A (call (.ref f) us (ks.zip ws)) (EP X pins σ Q) X.xe s := by
  have rr := hb.rel r1 r2
  have hl : (g us ws).length = ps.length := by rw [← rr.length]; exact F.len _ _ _ _ h
  refine wpAny_call (codeAny_mono (F.run X.A X.stack s H ⟨us, ks.zip ws⟩ (g us ws) (gV vs zs) Q (E σ) hr I.env0 (hb.to s us ws I.kIn hl) rr h) fun r s' hq => ?_)
  cases r with
  | error e => exact hx pins H s e s' I hq
  | ok fl =>
    cases fl with
    | ret u => exact I.after hq
    | next => exact hq.elim
    | brk => exact hq.elim
    | cont => exact hq.elim
/-- f(k = v, ..): by names alone -/
theorem pd_fnK0 (F : FnD X.prog X.w X.K X.mg X.base k f fd ps spec) (hm : X.mg x = some (.ref f)) (hk : PySem.W.keepIn X.K (.ref f) = true) (hb : KBinds X.K fd ps ks (fun us ws => pickK 0 m perm us ws) (fun us ws => pickK 0 m perm us ws)) (hr : Room k X.A) (hkw : PDk X kws wk)
    (hg : Gl X x := by rfl) (hdb : (x == ("__debug__" : Str)) = false := by decide) (hall : (backToKw pos (keywordEach kws X.env)).all (·.1.isSome) = true := by rfl) (hks : (backToKw pos (keywordEach kws X.env)).filterMap (·.1) = ks := by rfl)
    (hpl : ((backTo pos (starEach [] X.env)).any (·.1) || (backToKw pos (keywordEach kws X.env)).any (·.1.isNone)) = false := by rfl) : PD X (.Call (.Name x p) [] kws pos) (wCallK spec 0 m perm wNil wk) := by
  refine ⟨fun Wx tk => ⟨fun pins s σ H Q I h => ?_⟩⟩
  obtain ⟨W, env, S, Q0, X1, ok, sl, hw, cv, cx⟩ := h
  refine wpAny_Call_Name_kw (ld_glob I hg hm ?_ hdb)
  refine PySem.W.callWith_KW0 (h₀ := X.base) I.ok.mod.kin hk hall ?_ hpl
  have h2 : lA X.K Wx wk σ H fun zs H2 => lSp X.K spec (pickK 0 m perm [] zs) H2 Q fun c d H' => Wx c d σ H' := ⟨W, env, S, _, X1, ok, sl, hw, fun ds S1 vs W1 H1 h1 s1 ok1 r1 => by
    exact ⟨W1, S1, pickK 0 m perm [] ds, Q0, X1, ok1, reps_pickK (ds := []) (vs := []) rfl r1, h1, cv.mono s1, cx.mono s1⟩, cx⟩
  refine thn ((hkw.run Wx tk).run pos pins s σ H _ I h2) fun ws s2 ⟨zs, H2, I2, rz, q2⟩ => ⟨I2.kIn, ?_⟩
  rw [hks]
  exact run_fnKS F hr hb (passAt tk σ) I2 .nil rz q2
/-- f(e, .., k = v, ..) -/
theorem pd_fnK (F : FnD X.prog X.w X.K X.mg X.base k f fd ps spec) (hm : X.mg x = some (.ref f)) (hk : PySem.W.keepIn X.K (.ref f) = true) (hb : KBinds X.K fd ps ks (fun us ws => pickK n m perm us ws) (fun us ws => pickK n m perm us ws)) (hr : Room k X.A) (ha : PDa X (e :: es) wa) (hkw : PDk X kws wk)
    (hg : Gl X x := by rfl) (hdb : (x == ("__debug__" : Str)) = false := by decide) (hall : (backToKw pos (keywordEach kws X.env)).all (·.1.isSome) = true := by rfl) (hks : (backToKw pos (keywordEach kws X.env)).filterMap (·.1) = ks := by rfl)
    (he : starEach (e :: es) X.env = (false, eval e X.env) :: starEach es X.env := by rfl)
    (hpl : ((backTo pos (starEach (e :: es) X.env)).any (·.1) || (backToKw pos (keywordEach kws X.env)).any (·.1.isNone)) = false := by rfl) : PD X (.Call (.Name x p) (e :: es) kws pos) (wCallK spec n m perm wa wk) := by
  refine ⟨fun Wx tk => ⟨fun pins s σ H Q I h => ?_⟩⟩
  obtain ⟨W, env, S, Q0, X1, ok, sl, hw, cv, cx⟩ := h
  refine wpAny_Call_Name_kw (ld_glob I hg hm ?_ hdb)
  have h1 : lA X.K Wx wa σ H fun vs H1 => lA X.K Wx wk σ H1 fun zs H2 => lSp X.K spec (pickK n m perm vs zs) H2 Q fun c d H' => Wx c d σ H' := ⟨W, env, S, _, X1, ok, sl, hw, fun ds S1 vs W1 H1 h1 s1 ok1 r1 =>
    ⟨W1, env, S1, _, X1, ok1, sl.mono s1.vis, h1, fun es S2 zs W2 H2 h2 s2 ok2 r2 => by
      exact ⟨W2, S2, pickK n m perm ds es, Q0, X1, ok2, reps_pickK (r1.mono s2.vis) r2, h2, cv.mono (s1.trans s2), cx.mono (s1.trans s2)⟩, cx.mono s1⟩, cx⟩
  refine PySem.W.callWith_KW (h₀ := X.base) I.ok.mod.kin hk hall (thn ((ha.run Wx tk).run pos pins s σ H _ I h1) fun us s1 ⟨vs, H1, I1, r, q⟩ => ?_) hpl he
  refine thn ((hkw.run Wx tk).run pos pins s1 σ H1 _ I1 q) fun ws s2 ⟨zs, H2, I2, rz, q2⟩ => ⟨I2.kIn, ?_⟩
  rw [hks]
  exact run_fnKS F hr hb (passAt tk σ) I2 r rz q2
end
end DL
set_option Elab.async false
set_option linter.all false
set_option maxRecDepth 100000
set_option maxHeartbeats 1000000
/-! The data layer, part m: own exceptions with one field: made, raised, caught, asked. -/
namespace DL
open PySem PySem.Spec PyProof.Rows L2
/-! ### C(v): C's own __init__ is self.f = p -/
def spEx (K : PySem.W.Frag) (C : Addr) (f : Str) : Sp := fun vs H Q _ => ∃ (a : Addr) (v : V), vs = [.ref a, v] ∧ OexC K C ∧ PySem.W.findIn K (.ref C) f = some none ∧ H a = some (exo a C none) ∧
  ∀ dx, H dx = none → dx ≠ a → Q .non (upd (upd H dx (exd dx [(f, v)])) a (exo a C (some dx)))
section
variable {P : Program} {w : World} {K : PySem.W.Frag} {mg : Str → Option Value} {base : Heap} {qual : Str} {st : Stmt} {fI : Addr} {fd : FuncData} {f p : Str} {C : Addr}
theorem exInit_ok (F : Fun K "__init__" qual st fI fd) (S : FnScope ["self", p] ["self", p] (defScope st))
    (hb : ∀ (cdv : Value) (A : Around) (outer : List Env) (s : Shared) (H : Hp) (E : XK), PSs (cxOf (L2.CX P w) P w K mg base ["self", p] qual (defScope st) fI cdv A outer s H E) (defBody st) (tOst K f (tVar 0) (tVar 1))) :
    FnOk P w K mg base (L2.CX P w) 1 fI fd ["self", p] (spEx K C f) := by
  refine F.okX S (fun vs H Q E ⟨a, v, e, _⟩ => by rw [e]; rfl) (fun cdv A outer s H vs Q E hr ⟨a, v, e, T, hn, ha, q⟩ => ⟨_, hb cdv A outer s H E, ?_⟩)
  subst e
  exact ⟨v, rfl, .ref a, rfl, a, C, rfl, T, hn, .inl ⟨ha, fun dx h1 h2 => q dx h1 h2⟩⟩
end
/-- the class x at C, whose __init__ keeps one value as f -/
structure ExAt (K : PySem.W.Frag) (mg : Str → Option Value) (x : Str) (C : Addr) (f p : Str) (qual : Str) (st : Stmt) : Prop where
  ox : OexC K C
  nf : PySem.W.findIn K (.ref C) f = some none
  mg : mg x = some (.ref C)
  fn : ∃ fI fd, Fun K "__init__" qual st fI fd ∧ PySem.W.findIn K (.ref C) "__init__" = some (some (.ref fI)) ∧ PySem.W.typeIn K (.ref fI) = some (.type "function") ∧ Binds K fd ["self", p] []
/-- .. as it is used -/
def ExC (P : Program) (w : World) (K : PySem.W.Frag) (mg : Str → Option Value) (base : Heap) (x : Str) (C : Addr) (f : Str) : Prop :=
  OexC K C ∧ PySem.W.findIn K (.ref C) f = some none ∧ mg x = some (.ref C) ∧ ∃ fI fd ps, FnOk P w K mg base (L2.CX P w) 1 fI fd ps (spEx K C f) ∧ PySem.W.findIn K (.ref C) "__init__" = some (some (.ref fI)) ∧ PySem.W.typeIn K (.ref fI) = some (.type "function") ∧ Binds K fd ps []
theorem ExC.mk {P : Program} {w : World} {K : PySem.W.Frag} {mg : Str → Option Value} {base : Heap} {x f p qual : Str} {C : Addr} {st : Stmt} (E : ExAt K mg x C f p qual st) (S : FnScope ["self", p] ["self", p] (defScope st))
    (hb : ∀ (fI : Addr) (cdv : Value) (A : Around) (outer : List Env) (s : Shared) (H : Hp) (E : XK), PSs (cxOf (L2.CX P w) P w K mg base ["self", p] qual (defScope st) fI cdv A outer s H E) (defBody st) (tOst K f (tVar 0) (tVar 1))) : ExC P w K mg base x C f := by
  obtain ⟨fI, fd, F, i1, t1, b⟩ := E.fn
  exact ⟨E.ox, E.nf, E.mg, fI, fd, _, exInit_ok F S (hb fI), i1, t1, b⟩
/-- an expression that makes an exception -/
abbrev WPx := DE → Sto → XQ → XQ → Prop
def lX (K : PySem.W.Frag) (Wx : WX) (w : WPx) : L2.St → Hp → XK → Prop := fun σ H Q => ∃ W env S Q0 X0, Ok K W S H ∧ Sl K W env σ ∧ w env S Q0 X0 ∧ CXc K W S H Q0 Q ∧ CXc K W S H X0 (fun c d H' => Wx c d σ H')
structure PDx (X : Cx) (e : Expr) (w : WPx) : Prop where
  run : ∀ Wx, Takes X Wx → PMk X e (lX X.K Wx w)
def wMkE (C : Addr) (f : Str) (w : WPe) : WPx := fun env S Q X => w env S (fun d S1 => Q C [(f, d)] S1) X
theorem repf_one {K : PySem.W.Frag} {W : Hp} {f : Str} {d : D} {v : V} (r : Rep K W d v) : Repf K W [(f, d)] [(f, v)] := fun g x h => by
  rw [List.lookup_cons] at h ⊢
  cases q : (g == f) with
  | true =>
    rw [q] at h
    cases h
    exact ⟨v, rfl, r⟩
  | false =>
    rw [q] at h
    cases h
section
variable {X : Cx} {x f : Str} {C : Addr} {e : Expr} {w : WPe} {p pos : Pos}
theorem pdx_mk (T : ExC X.prog X.w X.K X.mg X.base x C f) (hr : Room 2 X.A) (he : PD X e w) (hg : Gl X x := by rfl) (hdb : (x == ("__debug__" : Str)) = false := by decide) (hs : starEach [e] X.env = (false, eval e X.env) :: starEach [] X.env := by rfl) (hpl : (backTo pos (starEach [] X.env)).any (·.1) = false := by rfl) :
    PDx X (.Call (.Name x p) [e] [] pos) (wMkE C f w) := by
  obtain ⟨T1, nf, hm, fI, fd, ps, F, i1, t1, b⟩ := T
  refine ⟨fun Wx tk pins s σ H Q I h => ?_⟩
  refine pmk_oex T1 i1 t1 F hr b .nil passL hg hm (pa_cons (he.run Wx tk) pa_nil hs) hdb hs hpl pins s σ H Q I ?_
  obtain ⟨W, env, S, Q0, X1, ok, sl, hw, cq, cx⟩ := h
  refine ⟨W, env, S, _, X1, ok, sl, hw, fun d S1 v W1 H1 h1 s1 ok1 r1 => ?_, cx⟩
  refine ⟨by show 1 ≤ 1000; decide, fun a ha => ⟨a, v, rfl, T1, nf, upd_same, fun dx hdx ne => ⟨rfl, dx, [(f, v)], upd_same, ?_, ?_, ?_⟩⟩⟩
  · rw [upd_ne ne, upd_same]
  · rw [upd_ne ne] at hdx; exact hdx
  · have hdx' : H1 dx = none := by rw [upd_ne ne] at hdx; exact hdx
    have e1 : upd (L2.del (upd (upd (upd H1 a (exo a C none)) dx (exd dx [(f, v)])) a (exo a C (some dx))) a) dx (.xd [(f, v)]) = upd H1 dx (.xd [(f, v)]) := by
      funext b
      by_cases q : b = dx
      · subst q; rw [upd_same, upd_same]
      · rw [upd_ne q, upd_ne q]
        by_cases q2 : b = a
        · subst q2
          rw [del_same, ha]
        · rw [del_ne q2, upd_ne q2, upd_ne q, upd_ne q2]
    rw [e1]
    have n := ok1.fresh hdx'
    exact cq C _ S1 dx _ _ _ h1 (s1.trans (ok1.stW hdx')) (ok1.newW hdx') upd_same (repf_one (r1.mono (same_new n.1)))
def wRaise (w : WPx) : WPs := fun env S q => w env S (xcQ q env) (xcQ q env)
theorem pds_raise {wx : WPx} {pos2 : Pos} {e : Expr} (hc : X.calm = true) (he : PDx X e wx) : PDs X (.Raise (some e) none pos2) (wRaise wx) :=
  ⟨fun Wx tk => PS.imp (ps_raise hc tk (he.run Wx tk)) fun D σ H ⟨W, env, S, q, ok, sl, hl, hw, cs⟩ => ⟨W, env, S, _, _, ok, sl, hw, CXc.of cs sl, CXc.of cs sl⟩⟩
end
/-! ### try .. except T as e -/
theorem sl_del {K : PySem.W.Frag} {W : Hp} {e : DE} {σ : L2.St} {i : Nat} (h : Sl K W e σ) : Sl K W (delV e i) (σ.set i none) := fun j d q => by
  obtain ⟨n, g⟩ := getV_delV q
  obtain ⟨v, a, r⟩ := h j d g
  exact ⟨v, by rw [List.getElem?_set_ne (Ne.symm n)]; exact a, r⟩
/-- .. where the slots' number is not told -/
def lSn (K : PySem.W.Frag) (Wx : WX) (n : Nat) (w : WPs) : TS := fun D σ H => ∃ W env S q, Ok K W S H ∧ (σ.length = n → Sl K W env σ) ∧ w env S q ∧ CS K Wx W S H q { D with nx := fun σ' H' => σ'.length = n → D.nx σ' H', bk := fun σ' H' => σ'.length = n → D.bk σ' H', ct := fun σ' H' => σ'.length = n → D.ct σ' H' }
theorem pss_n {X : Cx} {st : List Stmt} {K : PySem.W.Frag} {Wx : WX} {w : WPs} (h : PSs X st (lS K Wx X.N.length w)) : PSs X st (lSn K Wx X.N.length w) :=
  ⟨fun pins s σ H D I ⟨W, env, S, q, ok, sl, hw, cs⟩ => h.run pins s σ H D I ⟨W, env, S, q, ok, sl I.len, I.len, hw, cs⟩⟩
/-- the suite: of the exception's address, its dict's, its class -/
abbrev WPu := Addr → Addr → Addr → WPs
def wTry (K : PySem.W.Frag) (T : Addr) (i : Nat) (body : WPs) (suite : WPu) : WPs := fun env S q => body env S { q with xc := fun C fs e S1 => ∃ b, PySem.W.exmOne K (.ref C) (.ref T) = some b ∧
  (b = true → ∃ f x, fs = [(f, x)] ∧ ∀ a dd, suite a dd C (setV e i (.exc a dd C f x)) S1 { nx := fun e2 S2 => q.nx (delV e2 i) S2, rt := q.rt, bk := fun e2 S2 => q.bk (delV e2 i) S2, ct := fun e2 S2 => q.ct (delV e2 i) S2, xc := fun _ _ _ _ => False }) ∧
  (b = false → q.xc C fs e S1) }
section
variable {X : Cx} {x n : Str} {T : Addr} {i : Nat} {body suite : List Stmt} {b₀ : Stmt} {np pos pos' : Pos} {wb : WPs} {ws : WPu}
theorem pds_try (hs : X.stack = X.env :: X.outer) (hf : X.env.frame = some X.env.locals) (hN : X.N.Nodup) (hi : X.N[i]? = some n) (hln : X.env.kindOf n = some .local) (hm : X.mg x = some (.ref T)) (hg : Gl X x) (hdb : (x == ("__debug__" : Str)) = false)
    (hb : ∀ (pn : List (Addr × Obj)) (xe : Value → Shared → Prop), PassesOwn (model X.prog X.w) X.A X.env xe → PDss (X.tr pn xe) body wb)
    (hsu : ∀ (a dd C : Addr) (oe : Obj) (pn : List (Addr × Obj)), Zc (.ref C) (some dd) oe → (∃ vs, oe.data = .fields vs) → PDss (X.suite a ((a, oe) :: pn)) (b₀ :: suite) (ws a dd C)) :
    PDs X (.Try body [.ExceptHandler (some (.Name x np)) (some n) (b₀ :: suite) pos'] [] [] pos) (wTry X.K T i wb ws) := by
  refine ⟨fun Wx tk => ?_⟩
  refine PS.imp (L2.ps_try_as hs hf hN hi hln ⟨hg, hdb, .inl hm⟩ tk (tb := fun W => lS X.K W X.N.length wb) (ts := fun a cls d => match cls, d with
    | .ref C, some dd => lSn X.K (fun _ _ _ _ => False) X.N.length (ws a dd C)
    | _, _ => fun _ _ _ => False) (fun W pn xe tkW pass => (hb pn xe pass).run W tkW) fun a oe cls d pn hz hfl => ?_) ?_
  · cases cls with
    | ref C =>
      cases d with
      | some dd => exact pss_n (X := X.suite a ((a, oe) :: pn)) ((hsu a dd C oe pn hz hfl).run _ takes0)
      | none => exact ⟨fun pins s σ H D I h => h.elim⟩
    | _ => exact ⟨fun pins s σ H D I h => h.elim⟩
  · rintro D σ H ⟨W, env, S, q, ok, sl, hl, hw, cs⟩
    refine ⟨W, env, S, _, ok, sl, hl, hw, cs.nx, cs.rt, cs.bk, cs.ct, ?_⟩
    rintro C fs e S1 dd gs σ1 W1 H1 ⟨b, hb1, hy, hn⟩ s1 ok1 sl1 e1 r1
    refine ⟨b, hb1, fun h a ha => ?_, fun h => cs.xc C fs e S1 dd gs σ1 W1 H1 (hn h) s1 ok1 sl1 e1 r1⟩
    obtain ⟨f, y, rfl, hsuite⟩ := hy h
    obtain ⟨u, hu, ru⟩ := r1 f y (by rw [List.lookup_cons]; simp)
    have rex : Rep X.K W1 (.exc a dd C f y) (.ref a) := ⟨rfl, gs, u, e1, hu, ru⟩
    have sl2 : (σ1.set i (some (.ref a))).length = X.N.length → Sl X.K W1 (setV e i (.exc a dd C f y)) (σ1.set i (some (.ref a))) := fun hlen j d hj => by
      rcases getV_setV hj with ⟨z1, z2⟩ | ⟨z1, z2⟩
      · subst z1 z2
        exact ⟨_, List.getElem?_set_self (by rw [List.length_set] at hlen; rw [hlen]; exact lt_of_some hi), rex⟩
      · obtain ⟨v, hv, rv⟩ := sl1 j d z2
        exact ⟨v, by rw [List.getElem?_set_ne (Ne.symm z1)]; exact hv, rv⟩
    refine ⟨W1, _, S1, _, ok1, sl2, hsuite a dd, ?_, ?_, ?_, ?_, ?_⟩
    · exact fun e2 S2 σ2 W2 H2 hq st ok2 sl3 hl2 => cs.nx _ S2 _ W2 H2 hq (s1.trans st) ok2 (sl_del sl3) (by rw [List.length_set]; exact hl2)
    · exact fun d S2 v W2 H2 hq st ok2 rv => cs.rt d S2 v W2 H2 hq (s1.trans st) ok2 rv
    · exact fun e2 S2 σ2 W2 H2 hq st ok2 sl3 hl2 => cs.bk _ S2 _ W2 H2 hq (s1.trans st) ok2 (sl_del sl3) (by rw [List.length_set]; exact hl2)
    · exact fun e2 S2 σ2 W2 H2 hq st ok2 sl3 hl2 => cs.ct _ S2 _ W2 H2 hq (s1.trans st) ok2 (sl_del sl3) (by rw [List.length_set]; exact hl2)
    · exact fun C fs e2 S2 dd gs σ2 W2 H2 hq _ _ _ _ _ => hq.elim
/-! ### in the suite -/
/-- e.f -/
def wExF (K : PySem.W.Frag) (a dd C : Addr) (f : Str) (w : WPe) : WPe := fun env S Q X => (XfC K C ∧ PySem.W.findIn K (.ref C) f = some none) ∧ w env S (fun d S1 => match d with
  | .exc a' dd' C' g x => (a' = a ∧ dd' = dd ∧ C' = C ∧ g = f) ∧ Q x S1
  | _ => False) X
section
variable {X : Cx} {a dd C : Addr} {oe : Obj} {pn : List (Addr × Obj)} {e : Expr} {f : Str} {w : WPe} {pos : Pos}
theorem pd_exf (hz : Zc (.ref C) (some dd) oe) (hf : ∃ vs, oe.data = .fields vs) (he : PD (X.suite a ((a, oe) :: pn)) e w) (hb : attributeBase e f X.env (eval e X.env) = eval e X.env := by rfl) :
    PD (X.suite a ((a, oe) :: pn)) (.Attribute e f pos) (wExF X.K a dd C f w) :=
  ⟨fun Wx tk => ⟨fun pins s σ H Q I ⟨W, env, S, Q0, X1, ok, sl, ⟨⟨T, hno⟩, hw⟩, cv, cx⟩ => (pe_xf T hno hz hf (he.run Wx tk) hb).run pins s σ H Q I ⟨W, env, S, _, X1, ok, sl, hw, fun d S1 v W1 H1 h1 s1 ok1 r1 => by
    cases d with
    | exc a' dd' C' g x =>
      obtain ⟨⟨rfl, rfl, rfl, rfl⟩, h1⟩ := h1
      obtain ⟨e1, gs, u, e2, e3, ru⟩ := r1
      exact ⟨e1, rfl, dd', gs, u, rfl, ok1.vis _ _ e2, e3, cv x S1 u W1 H1 h1 s1 ok1 ru⟩
    | _ => exact h1.elim, cx⟩⟩⟩
/-- what the class of a caught exception must say, so that isinstance asks rightly -/
structure IsC (K : PySem.W.Frag) (C : Addr) : Prop where
  cl : (PySem.W.clsIn K C).isSome = true
  ga : PySem.W.findIn K (.ref C) "__getattribute__" = some (some (.builtin "BaseException.__getattribute__"))
  gt : PySem.W.findIn K (.ref C) "__getattr__" = some none
  su : PySem.W.subIn K (.ref C) (.type "BaseException") = some true
  ca : PySem.W.findIn K (.ref C) "__class__" = some (some (.builtin "object.__class__"))
  cg : PySem.W.specialIn K (.builtin "object.__class__") "__get__" = some (some (.builtin "getset_descriptor.__get__"))
  ct : PySem.W.takesIn K (.builtin "object.__class__") = some true
  mo : PySem.W.mroIn K C (.type "object") = some true
/-- isinstance(e, T), e the caught exception with the dict at dd -/
def rIsD (K : PySem.W.Frag) (C a dd : Addr) : List V → Hp → VK → Prop := fun xs H Q => ∃ (c : V) (u : Value) (b : Bool) (gs : List (Str × V)), xs = [.ref a, c] ∧ H dd = some (.xd gs) ∧ ClsV c u ∧ IsC K C ∧ PySem.W.kitOne K (.ref C) u = some b ∧ Q (.bl b) H
theorem inst_of {pins : List (Addr × Obj)} {σ : L2.St} {H : Hp} {s : Shared} {gs : List (Str × V)} (I : L2.Inv (X.suite a ((a, oe) :: pn)) pins σ H s) (hz : Zc (.ref C) (some dd) oe) (hf : ∃ vs, oe.data = .fields vs) (hd : H dd = some (.xd gs)) : ∃ od, PySem.W.InstAt s.heap a oe C (some od) := by
  obtain ⟨hget, _⟩ := I.pin (a, oe) (List.mem_append.mpr (.inl List.mem_cons_self))
  obtain ⟨vs, hv⟩ := hf
  have hx : ObjOk X.prog X.w H s.heap dd (.xd gs) := I.hok dd _ hd
  obtain ⟨mA, hns, hr⟩ := hx
  obtain ⟨od, ho, hl⟩ := lookIn_ns hns
  exact ⟨od, hget, hz.1, by unfold PySem.W.notCls; rw [hv] <;> rfl, by rw [hz.2]; exact ho⟩
theorem call_isD (hz : Zc (.ref C) (some dd) oe) (hf : ∃ vs, oe.data = .fields vs) : CallR (X.suite a ((a, oe) :: pn)) (.builtin "isinstance") (rIsD X.K C a dd) := by
  intro pins s σ H xs us Q I r h
  obtain ⟨c, u, b, gs, rfl, hd, k, T, e, q⟩ := h
  obtain ⟨u1, u2, rfl, r1, r2⟩ := vals2 r
  have e2 := k.eq r2
  subst e2
  cases (show u1 = Value.ref a from r1)
  obtain ⟨od, J⟩ := inst_of I hz hf hd
  exact PySem.W.kia_one (PySem.W.kitx_exc T.cl T.ga T.gt T.su T.ca T.cg T.ct T.mo) I.kIn J e (fun z => nomatch z) fun tk => ⟨.bl b, H, I.tok tk, rfl, q⟩
/-- isinstance(e, (T1, T2, ..)) -/
def rIsDT (K : PySem.W.Frag) (C a dd : Addr) : List V → Hp → VK → Prop := fun xs H Q => ∃ (tp : Addr) (cs : List V) (ws : List Value) (b : Bool) (gs : List (Str × V)), xs = [.ref a, .ref tp] ∧ H dd = some (.xd gs) ∧ H tp = some (.tup cs) ∧ Paired ClsV cs ws ∧ IsC K C ∧ PySem.W.kitAny K (.ref C) ws = some b ∧ Q (.bl b) H
theorem call_isDT (hz : Zc (.ref C) (some dd) oe) (hf : ∃ vs, oe.data = .fields vs) : CallR (X.suite a ((a, oe) :: pn)) (.builtin "isinstance") (rIsDT X.K C a dd) := by
  intro pins s σ H xs us Q I r h
  obtain ⟨tp, cs, ws, b, gs, rfl, hd, hT, k, T, e, q⟩ := h
  obtain ⟨u1, u2, rfl, r1, r2⟩ := vals2 r
  cases (show u1 = Value.ref a from r1)
  cases (show u2 = Value.ref tp from r2)
  obtain ⟨od, J⟩ := inst_of I hz hf hd
  obtain ⟨_, its, rv, o, h1, h2, n, h3⟩ := (show ObjOk X.prog X.w H s.heap tp (.tup cs) from I.hok tp _ hT)
  have e3 := ClsV.all k rv
  subst e3
  obtain ⟨oc, od2, dt, sl⟩ := o
  simp only at h2 h3
  subst h2 h3
  exact PySem.W.kia_tup (PySem.W.kitx_exc T.cl T.ga T.gt T.su T.ca T.cg T.ct T.mo) I.kIn J h1 e (fun z => nomatch z) fun tk => ⟨.bl b, H, I.tok tk, rfl, q⟩
end
end
def wIsE (K : PySem.W.Frag) (a dd C T : Addr) (w : WPe) : WPe := fun env S Q X => w env S (fun d S1 => match d with
  | .exc a' dd' C' _ _ => (a' = a ∧ dd' = dd ∧ C' = C ∧ IsC K C) ∧ some! (PySem.W.kitOne K (.ref C) (.ref T)) fun b => Q (.bl b) S1
  | _ => False) X
def wIsET (K : PySem.W.Frag) (a dd C : Addr) (Ts : List Addr) (w : WPe) : WPe := fun env S Q X => w env S (fun d S1 => match d with
  | .exc a' dd' C' _ _ => (a' = a ∧ dd' = dd ∧ C' = C ∧ IsC K C) ∧ some! (PySem.W.kitAny K (.ref C) (Ts.map Value.ref)) fun b => Q (.bl b) S1
  | _ => False) X
def tRefs (Ts : List Addr) : TA := fun σ H Q => Q (Ts.map V.ref) H
theorem pa_refs0 {X : Cx} : PA X [] (tRefs []) := pa_nil
theorem pe_cls {X : Cx} {x : Str} {T : Addr} {pos : Pos} (hm : X.mg x = some (.ref T)) (hg : Gl X x := by rfl) (hd : (x == ("__debug__" : Str)) = false := by decide) : PE X (.Name x pos) (tC (.ref T)) := pe_glob hg hm rfl hd
theorem pa_refs {X : Cx} {e : Expr} {es : List Expr} {T : Addr} {Ts : List Addr} (h : PE X e (tC (.ref T))) (r : PA X es (tRefs Ts)) (hs : starEach (e :: es) X.env = (false, eval e X.env) :: starEach es X.env := by rfl) : PA X (e :: es) (tRefs (T :: Ts)) := pa_cons h r hs
theorem clsv_refs : ∀ Ts : List Addr, Paired ClsV (Ts.map V.ref) (Ts.map Value.ref)
  | [] => .nil
  | T :: Ts => .cons (.own T) (clsv_refs Ts)
section
variable {X : Cx} {a dd C T : Addr} {Ts : List Addr} {oe : Obj} {pn : List (Addr × Obj)} {e e2 : Expr} {es : List Expr} {w : WPe} {p p2 pos : Pos} {kk : Nat}
theorem pd_isE (hz : Zc (.ref C) (some dd) oe) (hf : ∃ vs, oe.data = .fields vs) (he : PD (X.suite a ((a, oe) :: pn)) e w) (hc : PE (X.suite a ((a, oe) :: pn)) e2 (tC (.ref T))) (hm : X.mg "isinstance" = none) (hg : Gl (X.suite a ((a, oe) :: pn)) "isinstance" := by rfl)
    (hs : starEach [e, e2] X.env = (false, eval e X.env) :: starEach [e2] X.env := by rfl) (hs2 : starEach [e2] X.env = [(false, eval e2 X.env)] := by rfl) (hpl : (backTo pos (starEach [e2] X.env)).any (·.1) = false := by rfl) :
    PD (X.suite a ((a, oe) :: pn)) (.Call (.Name "isinstance" p) [e, e2] [] pos) (wIsE X.K a dd C T w) :=
  ⟨fun Wx tk => PE.imp (pe_callB (call_isD hz hf) hg hm (by decide +kernel) (pa_cons (he.run Wx tk) (pa_cons hc pa_nil hs2) hs) (by decide) (by decide) hs hpl) fun σ H Q ⟨W, env, S, Q0, X1, ok, sl, hw, cv, cx⟩ => ⟨W, env, S, _, X1, ok, sl, hw, fun d S1 v W1 H1 h1 s1 ok1 r1 => by
    cases d with
    | exc a' dd' C' g x =>
      obtain ⟨⟨rfl, rfl, rfl, ic⟩, h1⟩ := h1
      obtain ⟨b, e5, h1⟩ := some!_ex h1
      obtain ⟨e1, gs, u, e2, e3, ru⟩ := r1
      subst e1
      exact ⟨.ref T, .ref T, b, gs, rfl, ok1.vis _ _ e2, .own T, ic, e5, cv _ S1 _ W1 H1 h1 s1 ok1 rfl⟩
    | _ => exact h1.elim, cx⟩⟩
theorem pd_isET (hz : Zc (.ref C) (some dd) oe) (hf : ∃ vs, oe.data = .fields vs) (he : PD (X.suite a ((a, oe) :: pn)) e w) (ht : PA (X.suite a ((a, oe) :: pn)) es (tRefs Ts)) (hm : X.mg "isinstance" = none) (hzl : Ts.length ≤ sizeLine) (hg : Gl (X.suite a ((a, oe) :: pn)) "isinstance" := by rfl)
    (hs : starEach [e, .Tuple es kk p2] X.env = (false, eval e X.env) :: starEach [.Tuple es kk p2] X.env := by rfl) (hs2 : starEach [.Tuple es kk p2] X.env = [(false, eval (.Tuple es kk p2) X.env)] := by rfl) (hpl : (backTo pos (starEach [.Tuple es kk p2] X.env)).any (·.1) = false := by rfl) :
    PD (X.suite a ((a, oe) :: pn)) (.Call (.Name "isinstance" p) [e, .Tuple es kk p2] [] pos) (wIsET X.K a dd C Ts w) :=
  ⟨fun Wx tk => PE.imp (pe_callB (call_isDT hz hf) hg hm (by decide +kernel) (pa_cons (he.run Wx tk) (pa_cons (pe_tup ht) pa_nil hs2) hs) (by decide) (by decide) hs hpl) fun σ H Q ⟨W, env, S, Q0, X1, ok, sl, hw, cv, cx⟩ => ⟨W, env, S, _, X1, ok, sl, hw, fun d S1 v W1 H1 h1 s1 ok1 r1 => by
    cases d with
    | exc a' dd' C' g x =>
      obtain ⟨⟨rfl, rfl, rfl, ic⟩, h1⟩ := h1
      obtain ⟨b, e5, h1⟩ := some!_ex h1
      obtain ⟨e1, gs, u, e2, e3, ru⟩ := r1
      subst e1
      refine ⟨by rw [List.length_map]; exact hzl, fun q hq => ?_⟩
      exact ⟨q, _, _, b, gs, rfl, (ok1.newW hq).vis _ _ (same_new (ok1.fresh hq).1 _ _ e2), upd_same, clsv_refs Ts, ic, e5, cv _ S1 _ _ _ h1 (s1.trans (ok1.stW hq)) (ok1.newW (o := .tup (Ts.map V.ref)) hq) rfl⟩
    | _ => exact h1.elim, cx⟩⟩
end
end DL
set_option Elab.async false
set_option linter.all false
set_option maxRecDepth 100000
set_option maxHeartbeats 1000000
/-! The data layer, part n: contracts of defs called by keyword. -/
namespace DL
open PySem PySem.Spec PyProof.Rows L2
def DefAtK (K : PySem.W.Frag) (mg : Str → Option Value) (x qual : Str) (st : Stmt) (ps ks : List Str) (n m : Nat) (perm : List Nat) : Prop := ∃ f fd, Fun K x qual st f fd ∧ mg x = some (.ref f) ∧ KBinds K fd ps ks (fun us ws => pickK n m perm us ws) (fun us ws => pickK n m perm us ws)
def FnCK (P : Program) (w : World) (K : PySem.W.Frag) (mg : Str → Option Value) (base : Heap) (k : Nat) (x : Str) (ps ks : List Str) (n m : Nat) (perm : List Nat) (spec : Ctr) : Prop :=
  ∃ f fd, FnD P w K mg base k f fd ps spec ∧ mg x = some (.ref f) ∧ PySem.W.keepIn K (.ref f) = true ∧ KBinds K fd ps ks (fun us ws => pickK n m perm us ws) (fun us ws => pickK n m perm us ws)
theorem FnCK.mk {P : Program} {w : World} {K : PySem.W.Frag} {mg : Str → Option Value} {base : Heap} {x qual : Str} {st : Stmt} {N ps ks : List Str} {k n m : Nat} {perm : List Nat} {spec : Ctr} {ws : WPs} (D : DefAtK K mg x qual st ps ks n m perm) (S : FnScope N ps (defScope st)) (hle : ps.length ≤ N.length)
    (len : ∀ ds S Q E, spec ds S Q E → ds.length = ps.length)
    (hd : ∀ (f : Addr) (cdv : Value) (A : Around) (outer : List Env) (s : Shared) (H : Hp) (E : XK), Room k (A.deeper (envOfC qual (defScope st) s.heap.objs.size f cdv)) → PDss (cxOf (L2.CX P w) P w K mg base N qual (defScope st) f cdv A outer s H E) (defBody st) ws)
    (hr : ∀ ds S Q X1, spec ds S Q X1 → ws (startD N ds) S (endQ Q X1)) : FnCK P w K mg base (k + 1) x ps ks n m perm spec := by
  obtain ⟨f, fd, F, hm, hb⟩ := D
  exact ⟨f, fd, fnd_mk F S hle len hd hr, hm, F.kp, hb⟩
section
variable {X : Cx} {x : Str} {p pos : Pos} {e : Expr} {es : List Expr} {kws : List Keyword} {wa wk : WPa} {k n m : Nat} {perm : List Nat} {ps ks : List Str} {spec : Ctr}
theorem pd_fcK0 (G : FnCK X.prog X.w X.K X.mg X.base k x ps ks 0 m perm spec) (hr : Room k X.A) (hkw : PDk X kws wk)
    (hg : Gl X x := by rfl) (hdb : (x == ("__debug__" : Str)) = false := by decide) (hall : (backToKw pos (keywordEach kws X.env)).all (·.1.isSome) = true := by rfl) (hks : (backToKw pos (keywordEach kws X.env)).filterMap (·.1) = ks := by rfl)
    (hpl : ((backTo pos (starEach [] X.env)).any (·.1) || (backToKw pos (keywordEach kws X.env)).any (·.1.isNone)) = false := by rfl) : PD X (.Call (.Name x p) [] kws pos) (wCallK spec 0 m perm wNil wk) := by
  obtain ⟨f, fd, F, hm, hk, hb⟩ := G
  exact pd_fnK0 F hm hk hb hr hkw hg hdb hall hks hpl
theorem pd_fcK (G : FnCK X.prog X.w X.K X.mg X.base k x ps ks n m perm spec) (hr : Room k X.A) (ha : PDa X (e :: es) wa) (hkw : PDk X kws wk)
    (hg : Gl X x := by rfl) (hdb : (x == ("__debug__" : Str)) = false := by decide) (hall : (backToKw pos (keywordEach kws X.env)).all (·.1.isSome) = true := by rfl) (hks : (backToKw pos (keywordEach kws X.env)).filterMap (·.1) = ks := by rfl)
    (he : starEach (e :: es) X.env = (false, eval e X.env) :: starEach es X.env := by rfl)
    (hpl : ((backTo pos (starEach (e :: es) X.env)).any (·.1) || (backToKw pos (keywordEach kws X.env)).any (·.1.isNone)) = false := by rfl) : PD X (.Call (.Name x p) (e :: es) kws pos) (wCallK spec n m perm wa wk) := by
  obtain ⟨f, fd, F, hm, hk, hb⟩ := G
  exact pd_fnK F hm hk hb hr ha hkw hg hdb hall hks he hpl
end
end DL
set_option Elab.async false
set_option linter.all false
set_option maxRecDepth 100000
set_option maxHeartbeats 1000000
/-! The data layer, part o: what later laws want. -/
namespace DL
open PySem PySem.Spec PyProof.Rows L2
/-- + of lists, made to change -/
def oAddM : O2 := fun S x y Q => some! (seqM S x) fun xs => some! (seqM S y) fun ys => xs.length + ys.length ≤ sizeLine ∧ ∀ p, S p = none → Q (.ref p) (put S p (.lst (xs ++ ys)))
theorem opd_addM {X : Cx} : OpR X (binaryOp .Add) (lOp X.K oAddM) := fun pins s σ H x y v u Q I rx ry h => by
  obtain ⟨W, S, a, b, Q0, ok, ra, rb, ho, cv⟩ := h
  obtain ⟨xs, e1, z⟩ := some!_ex ho
  obtain ⟨ys, e2, hz, z⟩ := some!_ex z
  obtain ⟨p, vs, rfl, hp, r1⟩ := seqM_rep ok ra e1
  obtain ⟨q, ws, rfl, hq, r2⟩ := seqM_rep ok rb e2
  refine op_cat pins s σ H _ _ v u Q I rx ry ⟨p, q, vs, ws, rfl, rfl, hp, hq, by rw [r1.length, r2.length]; exact hz, fun o no => ?_⟩
  have n := ok.fresh no
  exact cv _ _ _ _ _ (z o n.2) (ok.stS no) (ok.newS no ⟨_, rfl, r1.append r2⟩) rfl
/-! ### own exception classes: what the written part tells -/
theorem kitc_of {K : PySem.W.Frag} {C S : Addr} {b : Bool} (h2 : PySem.W.isClsIn K S = true) (h3 : PySem.W.typeIn K (.ref S) = some (.type "type")) (h4 : PySem.W.subIn K (.ref C) (.ref S) = some b) : PySem.W.kitCls K (.ref C) (.ref S) = some b := by
  have e2 : ((PySem.W.clsIn K S).isSome && PySem.W.typeIn K (.ref S) == some (.type "type")) = true := by
    have h2' : (PySem.W.clsIn K S).isSome = true := h2
    rw [h2', h3] <;> rfl
  show (if ((PySem.W.clsIn K S).isSome && PySem.W.typeIn K (.ref S) == some (.type "type")) = true then PySem.W.subIn K (.ref C) (.ref S) else none) = some b
  rw [if_pos e2]
  exact h4
theorem exm_of {K : PySem.W.Frag} {C S : Addr} {b : Bool} (h1 : PySem.W.subIn K (.ref S) (.type "BaseException") = some true) (h2 : PySem.W.isClsIn K S = true) (h3 : PySem.W.typeIn K (.ref S) = some (.type "type")) (h4 : PySem.W.subIn K (.ref C) (.ref S) = some b) : PySem.W.exmOne K (.ref C) (.ref S) = some b := by
  have e1 : (PySem.W.subIn K (.ref S) (.type "BaseException") == some true) = true := by rw [h1] <;> rfl
  show (if (PySem.W.subIn K (.ref S) (.type "BaseException") == some true) = true then PySem.W.kitCls K (.ref C) (.ref S) else none) = some b
  rw [if_pos e1]
  exact kitc_of h2 h3 h4
theorem kit_self {K : PySem.W.Frag} {C : Addr} : PySem.W.kitOne K (.ref C) (.ref C) = some true := by
  unfold PySem.W.kitOne
  rw [if_pos (by simp)]
theorem kit_of {K : PySem.W.Frag} {C S : Addr} {b : Bool} (hne : C ≠ S) (h2 : PySem.W.isClsIn K S = true) (h3 : PySem.W.typeIn K (.ref S) = some (.type "type")) (h4 : PySem.W.subIn K (.ref C) (.ref S) = some b) : PySem.W.kitOne K (.ref C) (.ref S) = some b := by
  unfold PySem.W.kitOne
  rw [if_neg fun z => hne (Value.ref.inj (beq_iff_eq.mp z))]
  exact kitc_of h2 h3 h4
theorem kitn_nil {K : PySem.W.Frag} {t : Value} : PySem.W.kitAny K t [] = some false := rfl
theorem kitn_cons {K : PySem.W.Frag} {t c : Value} {r : List Value} {b : Bool} (h1 : PySem.W.kitOne K t c = some false) (h2 : PySem.W.kitAny K t r = some b) : PySem.W.kitAny K t (c :: r) = some b := by
  show (match PySem.W.kitOne K t c with | some true => some true | some false => PySem.W.kitAny K t r | none => none) = some b
  rw [h1]; exact h2
theorem kitn_here {K : PySem.W.Frag} {t c : Value} {r : List Value} (h1 : PySem.W.kitOne K t c = some true) : PySem.W.kitAny K t (c :: r) = some true := by
  show (match PySem.W.kitOne K t c with | some true => some true | some false => PySem.W.kitAny K t r | none => none) = some true
  rw [h1]
end DL
set_option Elab.async false
set_option linter.all false
set_option maxRecDepth 100000
set_option maxHeartbeats 1000000
/-! The data layer, part p: dicts whose keys are tuples (of ints, bools, None and of such tuples). -/
namespace DL
open PySem PySem.Spec PyProof.Rows L2
mutual
theorem khash_eq (w : World) : ∀ {d : D} {k : NestedKey}, nkD d = some k → k.hash w = khash k
  | .non, k, h => by cases h; rfl
  | .bl _, k, h => by cases h; rfl
  | .int _, k, h => by cases h; rfl
  | .tup xs, k, h => by
    have h' : (nksD xs).map NestedKey.tup = some k := h
    obtain ⟨ks, e1, e2⟩ := Option.map_eq_some_iff.mp h'
    subst e2
    show reduceHash (Builtin.Tuple.tupleHashOf (NestedKey.hashes w ks)) = reduceHash (Builtin.Tuple.tupleHashOf (khashes ks))
    rw [khashes_eq w e1]
  | .str _, _, h => by cases h
  | .ref _, _, h => by cases h
  | .lst _, _, h => by cases h
  | .fro _, _, h => by cases h
  | .obj _ _ _, _, h => by cases h
  | .exc _ _ _ _ _, _, h => by cases h
theorem khashes_eq (w : World) : ∀ {ds : List D} {ks : List NestedKey}, nksD ds = some ks → NestedKey.hashes w ks = khashes ks
  | [], ks, h => by cases h; rfl
  | d :: r, ks, h => by
    have h' : ((nkD d).bind fun k => (nksD r).map (k :: ·)) = some ks := h
    obtain ⟨k, e1, e2⟩ := Option.bind_eq_some_iff.mp h'
    obtain ⟨ks', e3, e4⟩ := Option.map_eq_some_iff.mp e2
    subst e4
    show NestedKey.hash w k :: NestedKey.hashes w ks' = khash k :: khashes ks'
    rw [khash_eq w e1, khashes_eq w e3]
end
section
variable {X : Cx} {pins : List (Addr × Obj)} {σ : L2.St} {H W : Hp} {s : Shared}
mutual
theorem nest_of (I : L2.Inv X pins σ H s) (e : Same W H) : ∀ {d : D} {v : V} {u : Value} {k : NestedKey}, Rep X.K W d v → RelV v u → nkD d = some k → NestedIs s.heap k u
  | .non, v, u, k, r, ru, h => by
    cases h
    rw [show v = V.non from r] at ru
    rw [show u = Value.none from ru]; exact .none
  | .bl b, v, u, k, r, ru, h => by
    cases h
    rw [show v = V.bl b from r] at ru
    rw [show u = Value.bool b from ru]; exact .bool rfl
  | .int i, v, u, k, r, ru, h => by
    cases h
    rw [show v = V.int i from r] at ru
    obtain ⟨t, ht⟩ := (show ∃ t, u = Value.int i t from ru)
    rw [ht]; exact .int i t
  | .tup xs, v, u, k, r, ru, h => by
    have h' : (nksD xs).map NestedKey.tup = some k := h
    obtain ⟨ks, e1, e2⟩ := Option.map_eq_some_iff.mp h'
    subst e2
    obtain ⟨a, vs, rfl, hq, rv⟩ := r
    obtain rfl : u = Value.ref a := ru
    obtain ⟨its, rvs, ⟨o, ho, hc, n, hd⟩, hz⟩ := I.tuple (sqT_mono e hq)
    exact .tup ho hc hd (nests_of I e rv rvs e1)
  | .str _, _, _, _, _, _, h => by cases h
  | .ref _, _, _, _, _, _, h => by cases h
  | .lst _, _, _, _, _, _, h => by cases h
  | .fro _, _, _, _, _, _, h => by cases h
  | .obj _ _ _, _, _, _, _, _, h => by cases h
  | .exc _ _ _ _ _, _, _, _, _, _, h => by cases h
theorem nests_of (I : L2.Inv X pins σ H s) (e : Same W H) : ∀ {ds : List D} {vs : List V} {us : List Value} {ks : List NestedKey}, Reps X.K W ds vs → Vals vs us → nksD ds = some ks → NestedAll s.heap ks us
  | [], vs, us, ks, r, rv, h => by
    cases h
    rw [show vs = [] from r] at rv
    cases rv
    exact .nil
  | d :: ds, vs, us, ks, ⟨v, r, e1, e2, e3⟩, rv, h => by
    subst e1
    cases rv with
    | cons r1 r2 =>
      have h' : ((nkD d).bind fun k => (nksD ds).map (k :: ·)) = some ks := h
      obtain ⟨k, g1, g2⟩ := Option.bind_eq_some_iff.mp h'
      obtain ⟨ks', g3, g4⟩ := Option.map_eq_some_iff.mp g2
      subst g4
      exact .cons (nest_of I e e2 r1 g1) (nests_of I e e3 r2 g3)
end
theorem DN.length {K : PySem.W.Frag} : ∀ {kvs : List (D × D)} {xs : List (NestedKey × Addr × Value)}, DN K W kvs xs → xs.length = kvs.length
  | [], xs, h => by rw [show xs = [] from h]; rfl
  | _ :: _, _, ⟨k, b, u, v, r', e1, _, _, _, e6⟩ => by rw [e1, List.length_cons, List.length_cons, DN.length e6]
theorem DN.mem {K : PySem.W.Frag} : ∀ {kvs : List (D × D)} {xs : List (NestedKey × Addr × Value)}, DN K W kvs xs → ∀ x, x ∈ xs → ∃ kd, (nkD kd = some x.1 ∧ x.1.depth ≤ 8) ∧ Rep K W kd (.ref x.2.1)
  | [], xs, h, x, hx => by rw [show xs = [] from h] at hx; cases hx
  | p :: _, _, ⟨k, b, u, v, r', e1, e2, e3, _, e6⟩, x, hx => by
    subst e1
    cases hx with
    | head => exact ⟨p.1, e2, e3⟩
    | tail _ hx => exact DN.mem e6 x hx
/-- the dict's object, as the kit's rules want it -/
theorem dict_at {S : Sto} {a : Addr} {kvs : List (D × D)} (I : L2.Inv X pins σ H s) (ok : Ok X.K W S H) (hS : S a = some (.dN a kvs)) :
    ∃ xs, H a = some (.ext (dnP a xs)) ∧ DN X.K W kvs xs ∧ (kvs.length ≤ sizeLine ∧ (a == sysModules) = false ∧ (xs.map (·.1)).Nodup) ∧ s.heap.DictOfH (nestedKind X.prog X.w) a xs := by
  obtain ⟨o, h1, xs, h2, h3, h4⟩ := ok.sto _ _ hS
  subst h2
  obtain ⟨⟨ob, es, ep, g1, g2, g3, g4⟩, _, _⟩ := (show ObjOk X.prog X.w H s.heap a (.ext (dnP a xs)) from I.hok a _ h1)
  refine ⟨xs, h1, h4, h3, ob, es, ep, g1, g2, g3, ?_, fun x hx => ?_, h3.2.2⟩
  · rw [g4]
    refine List.map_congr_left fun x hx => ?_
    obtain ⟨kd, ⟨q1, _⟩, _⟩ := DN.mem h4 x hx
    show (⟨khash x.1, .ref x.2.1, x.2.2⟩ : DictEntry) = ⟨x.1.hash X.w, .ref x.2.1, x.2.2⟩
    rw [khash_eq X.w q1]
  · obtain ⟨kd, ⟨q1, q2⟩, q3⟩ := DN.mem h4 x hx
    exact ⟨nest_of I ok.vis q3 rfl q1, q2⟩
/-- what the dict holds at a key -/
def fndN (kvs : List (D × D)) (k : NestedKey) : Option D := match kvs with
  | [] => none
  | p :: r => if nkD p.1 = some k then some p.2 else fndN r k
def putN (kvs : List (D × D)) (k : NestedKey) (i d : D) : List (D × D) := if (fndN kvs k).isSome = true then kvs.map fun p => if nkD p.1 = some k then (p.1, d) else p else kvs ++ [(i, d)]
theorem at_cons {x : NestedKey × Addr × Value} {xs : List (NestedKey × Addr × Value)} {k : NestedKey} : atKey (x :: xs) k = if x.1 = k then some x.2 else atKey xs k := by
  unfold atKey
  rw [List.find?_cons]
  by_cases e : x.1 = k
  · rw [decide_eq_true e, if_pos e]; rfl
  · rw [decide_eq_false e, if_neg e]
theorem DN.find {K : PySem.W.Frag} {k : NestedKey} : ∀ {kvs : List (D × D)} {xs : List (NestedKey × Addr × Value)}, DN K W kvs xs → (fndN kvs k = none ∧ atKey xs k = none) ∨ ∃ d b u v, fndN kvs k = some d ∧ atKey xs k = some (b, u) ∧ Rep K W d v ∧ RelV v u
  | [], xs, h => by rw [show xs = [] from h]; exact .inl ⟨rfl, rfl⟩
  | p :: r, _, ⟨k', b, u, v, r', e1, ⟨e2, _⟩, e3, ⟨e4, e5⟩, e6⟩ => by
    subst e1
    rw [at_cons]
    by_cases e : k' = k
    · subst e
      exact .inr ⟨p.2, b, u, v, by unfold fndN; rw [if_pos e2], if_pos rfl, e4, e5⟩
    · rw [if_neg e]
      have : fndN (p :: r) k = fndN r k := by
        show (if nkD p.1 = some k then some p.2 else fndN r k) = _
        rw [if_neg (by rw [e2]; exact fun z => e (Option.some.inj z))]
      rw [this]
      exact DN.find e6
/-- a key -/
def keyD (d : D) : Option NestedKey := match d with
  | .tup xs => (nkD (.tup xs)).bind fun k => if k.depth ≤ 8 then some k else none
  | _ => none
theorem keyD_ex {d : D} {k : NestedKey} (h : keyD d = some k) : (nkD d = some k ∧ k.depth ≤ 8) ∧ ∃ xs, d = .tup xs := by
  cases d with
  | tup xs =>
    have h' : ((nkD (.tup xs)).bind fun k => if k.depth ≤ 8 then some k else none) = some k := h
    obtain ⟨k', e1, e2⟩ := Option.bind_eq_some_iff.mp h'
    by_cases q : k'.depth ≤ 8
    · rw [if_pos q] at e2; cases e2; exact ⟨⟨e1, q⟩, _, rfl⟩
    · rw [if_neg q] at e2; cases e2
  | _ => cases h
def dnAt (S : Sto) (y : D) (k : Addr → List (D × D) → Prop) : Prop := match y with
  | .ref a => match S a with
    | some (.dN a' kvs) => a' = a ∧ k a kvs
    | _ => False
  | _ => False
theorem dnAt_ex {S : Sto} {y : D} {k : Addr → List (D × D) → Prop} (h : dnAt S y k) : ∃ a kvs, y = .ref a ∧ S a = some (.dN a kvs) ∧ k a kvs := by
  cases y with
  | ref a =>
    have h' : (match S a with | some (.dN a' kvs) => a' = a ∧ k a kvs | _ => False) := h
    cases q : S a with
    | none => rw [q] at h'; exact h'.elim
    | some m =>
      rw [q] at h'
      cases m with
      | dN a' kvs => obtain ⟨rfl, h'⟩ := h'; exact ⟨_, kvs, rfl, q, h'⟩
      | _ => exact h'.elim
  | _ => exact h.elim
theorem dnAt_mk {S : Sto} {a : Addr} {kvs : List (D × D)} {k : Addr → List (D × D) → Prop} (h : S a = some (.dN a kvs)) (q : k a kvs) : dnAt S (.ref a) k := by
  show (match S a with | some (.dN a' kvs) => a' = a ∧ k a kvs | _ => False)
  rw [h]
  exact ⟨rfl, q⟩
def oInN (neg : Bool) : O2 := fun S x y Q => dnAt S y fun _ kvs => some! (keyD x) fun k => Q (.bl (if neg = true then !(fndN kvs k).isSome else (fndN kvs k).isSome)) S
theorem room_in1 {A : Around} (hu : A.units + 64 < cLine) : (nestedKind X.prog X.w).room A.in1 := by
  show A.in1.units + 8 < cLine
  have : A.in1.units ≤ A.units + 1 := by first | exact Nat.le_refl _ | (unfold Around.in1; split <;> simp) | (show _ ≤ _; simp [Around.in1, Around.units])
  omega
theorem DN.some_eq {K : PySem.W.Frag} {k : NestedKey} {kvs : List (D × D)} {xs : List (NestedKey × Addr × Value)} (h : DN K W kvs xs) : (fndN kvs k).isSome = (atKey xs k).isSome := by
  rcases h.find (k := k) with ⟨e1, e2⟩ | ⟨d, b, u, v, e1, e2, _⟩ <;> rw [e1, e2] <;> rfl
end
theorem opd_inN {X : Cx} (hu : X.A.units + 64 < cLine) : OpR X (compareOp .In) (lOp X.K (oInN false)) := fun pins s σ H x y v u Q I rx ry h => by
  obtain ⟨W, S, a, b, Q0, ok, ra, rb, ho, cv⟩ := h
  obtain ⟨p, kvs, rfl, hS, ho⟩ := dnAt_ex ho
  obtain ⟨k, hk, hq0⟩ := some!_ex ho
  obtain ⟨⟨k1, k2⟩, xs, rfl⟩ := keyD_ex hk
  obtain ⟨es, h1, dn, ⟨z1, z2, z3⟩, dd⟩ := dict_at I ok hS
  obtain ⟨q, vs, rfl, hq, rv⟩ := id ra
  obtain rfl : v = Value.ref q := rx
  rw [show y = V.ref p from rb] at ry
  obtain rfl : u = Value.ref p := ry
  refine wpAny_in_heap (room_in1 hu) ⟨nest_of I ok.vis ra rfl k1, k2⟩ z2 dd ?_
  rw [← dn.some_eq]
  exact ⟨.bl (fndN kvs k).isSome, H, I.tok _, rfl, cv (.bl (fndN kvs k).isSome) S _ W H (by simpa using hq0) Stp.refl ok rfl⟩
theorem opd_notInN {X : Cx} (hu : X.A.units + 64 < cLine) : OpR X (compareOp .NotIn) (lOp X.K (oInN true)) := fun pins s σ H x y v u Q I rx ry h => by
  obtain ⟨W, S, a, b, Q0, ok, ra, rb, ho, cv⟩ := h
  obtain ⟨p, kvs, rfl, hS, ho⟩ := dnAt_ex ho
  obtain ⟨k, hk, hq0⟩ := some!_ex ho
  obtain ⟨⟨k1, k2⟩, xs, rfl⟩ := keyD_ex hk
  obtain ⟨es, h1, dn, ⟨z1, z2, z3⟩, dd⟩ := dict_at I ok hS
  obtain ⟨q, vs, rfl, hq, rv⟩ := id ra
  obtain rfl : v = Value.ref q := rx
  rw [show y = V.ref p from rb] at ry
  obtain rfl : u = Value.ref p := ry
  refine wpAny_notIn_heap (room_in1 hu) ⟨nest_of I ok.vis ra rfl k1, k2⟩ z2 dd ?_
  rw [← dn.some_eq]
  exact ⟨.bl (!(fndN kvs k).isSome), H, I.tok _, rfl, cv (.bl (!(fndN kvs k).isSome)) S _ W H (by simpa using hq0) Stp.refl ok rfl⟩
end DL
set_option Elab.async false
set_option linter.all false
set_option maxRecDepth 100000
set_option maxHeartbeats 1000000
/-! The data layer, part q: dicts with tuple keys: written, made, read. -/
namespace DL
open PySem PySem.Spec PyProof.Rows L2
section
variable {X : Cx} {pins : List (Addr × Obj)} {σ : L2.St} {H W : Hp} {s : Shared}
theorem DN.snoc {K : PySem.W.Frag} {i d : D} {k : NestedKey} {b : Addr} {u : Value} {v : V} (hk : nkD i = some k ∧ k.depth ≤ 8) (ri : Rep K W i (.ref b)) (rd : Rep K W d v ∧ RelV v u) : ∀ {kvs : List (D × D)} {xs : List (NestedKey × Addr × Value)}, DN K W kvs xs → DN K W (kvs ++ [(i, d)]) (xs ++ [(k, b, u)])
  | [], xs, h => by rw [show xs = [] from h]; exact ⟨k, b, u, v, [], rfl, hk, ri, rd, rfl⟩
  | p :: r, _, ⟨k', b', u', v', r', e1, e2, e3, e4, e6⟩ => by
    subst e1
    exact ⟨k', b', u', v', _, rfl, e2, e3, e4, DN.snoc hk ri rd e6⟩
theorem DN.upd {K : PySem.W.Frag} {d : D} {k : NestedKey} {u : Value} {v : V} (rd : Rep K W d v ∧ RelV v u) : ∀ {kvs : List (D × D)} {xs : List (NestedKey × Addr × Value)}, DN K W kvs xs →
    DN K W (kvs.map fun p => if nkD p.1 = some k then (p.1, d) else p) (xs.map (putAt k u))
  | [], xs, h => by rw [show xs = [] from h]; rfl
  | p :: r, _, ⟨k', b', u', v', r', e1, e2, e3, e4, e6⟩ => by
    subst e1
    rw [List.map_cons, List.map_cons]
    by_cases e : k' = k
    · subst e
      rw [if_pos e2.1]
      refine ⟨k', b', u, v, _, ?_, e2, e3, rd, DN.upd rd e6⟩
      rw [show putAt k' u (k', b', u') = (k', b', u) from if_pos rfl]
    · rw [if_neg (by rw [e2.1]; exact fun z => e (Option.some.inj z))]
      refine ⟨k', b', u', v', _, ?_, e2, e3, e4, DN.upd rd e6⟩
      rw [show putAt k u (k', b', u') = (k', b', u') from if_neg e]
theorem DN.put {K : PySem.W.Frag} {i d : D} {k : NestedKey} {b : Addr} {u : Value} {v : V} {kvs : List (D × D)} {xs : List (NestedKey × Addr × Value)} (h : DN K W kvs xs) (hk : nkD i = some k ∧ k.depth ≤ 8) (ri : Rep K W i (.ref b)) (rd : Rep K W d v ∧ RelV v u) :
    DN K W (putN kvs k i d) (storedH xs k b u) := by
  unfold putN storedH
  rw [h.some_eq (k := k)]
  by_cases e : (atKey xs k).isSome = true
  · rw [if_pos e, if_pos e]; exact h.upd rd
  · rw [if_neg e, if_neg e]; exact h.snoc hk ri rd
theorem putN_len {kvs : List (D × D)} {k : NestedKey} {i d : D} : (putN kvs k i d).length ≤ kvs.length + 1 := by
  unfold putN
  split
  · rw [List.length_map]; omega
  · rw [List.length_append]; exact Nat.le_refl _
/-- the object of a dict, told by its entries -/
theorem dn_obj {P : Program} {w : World} {H' : Hp} {h' : Heap} {a : Addr} {kvs : List (D × D)} {xs : List (NestedKey × Addr × Value)} (dn : DN X.K W kvs xs) (dd : h'.DictOfH (nestedKind P w) a xs) : ObjOk P w H' h' a (.ext (dnP a xs)) := by
  obtain ⟨o, es, ep, h1, h2, h3, h4, _, _⟩ := dd
  refine ⟨⟨o, es, ep, h1, h2, h3, ?_⟩, ⟨o, h1⟩, fun k1 k2 ⟨o', es', ep', g1, g2⟩ e => ⟨o', es', ep', e _ g1, g2⟩⟩
  rw [h4]
  refine List.map_congr_left fun x hx => ?_
  obtain ⟨kd, ⟨q1, _⟩, _⟩ := DN.mem dn x hx
  show (⟨x.1.hash w, .ref x.2.1, x.2.2⟩ : DictEntry) = ⟨khash x.1, .ref x.2.1, x.2.2⟩
  rw [khash_eq w q1]
/-- o[i] = e for a dict with tuple keys -/
def setN (S : Sto) (o i d : D) (k : Sto → Prop) : Prop := dnAt S o fun a kvs => some! (keyD i) fun key => kvs.length < sizeLine ∧ k (DL.put S a (.dN a (putN kvs key i d)))
def wSetN (wo wi we : WPe) : WPs := fun env S q => we env S (fun d S1 => wo env S1 (fun o S2 => wi env S2 (fun i S3 => setN S3 o i d fun S4 => q.nx env S4) (xcQ q env)) (xcQ q env)) (xcQ q env)
def lSetN (K : PySem.W.Frag) : TSet := fun o i v H Q => ∃ W S od id vd k, Ok K W S H ∧ Rep K W od o ∧ Rep K W id i ∧ Rep K W vd v ∧ setN S od id vd k ∧ ∀ S' H', k S' → Stp W S H W S' H' → Ok K W S' H' → Q H'
theorem set_N (hu : X.A.units + 64 < cLine) : PSet X (lSetN X.K) := by
  intro pins s σ H o i v ov iv u Q I ro ri rv ⟨W, S, od, id_, vd, k, ok, r1, r2, r3, hs, hq⟩
  obtain ⟨a, kvs, rfl, hS, hs⟩ := dnAt_ex hs
  obtain ⟨key, hk, hz, hk2⟩ := some!_ex hs
  obtain ⟨⟨k1, k2⟩, xs0, rfl⟩ := keyD_ex hk
  rw [show o = V.ref a from r1] at ro
  obtain rfl : ov = Value.ref a := ro
  obtain ⟨b, vs, rfl, hq0, rv0⟩ := id r2
  obtain rfl : iv = Value.ref b := ri
  obtain ⟨xs, h1, dn, ⟨z1, z2, z3⟩, dd⟩ := dict_at I ok hS
  have hl := dn.length
  have hlN : (putN kvs key (.tup xs0) vd).length ≤ kvs.length + 1 := putN_len
  refine wpAny_setItem_heap (hsz := by omega) (room_in1 hu) ⟨nest_of I ok.vis r2 rfl k1, k2⟩ dd fun h' dd' hsb => ?_
  have dn' := dn.put ⟨k1, k2⟩ r2 ⟨r3, rv⟩
  have he : ∃ q, h'.get? a = some q := let ⟨q, _, _, hq, _⟩ := dd'; ⟨q, hq⟩
  refine ⟨L2.upd H a (.ext (dnP a (storedH xs key b u))), d_write I (by rw [h1]; exact True.intro) hsb he (dn_obj dn' dd'), hq _ _ hk2 (ok.stC hS) (ok.chg hS ⟨_, rfl, ⟨by omega, z2, ?_⟩, dn'⟩)⟩
  obtain ⟨_, _, _, _, _, _, _, _, nd⟩ := dd'
  exact nd
theorem pds_setN {X : Cx} {o ip e : Expr} {wo wi we : WPe} {pos p2 : Pos} (hu : X.A.units + 64 < cLine) (ho : PD X o wo) (hi : PD X ip wi) (he : PD X e we) (hs : swapsWithSole [.Subscript o ip p2] e pos.line X.env = pure false := by rfl) (hw : swappedStores [.Subscript o ip p2] e X.env = pure none := by rfl)
    (h1 : (assignEach [.Subscript o ip p2] X.env).map (·.2) = [assign (.Subscript o ip p2) X.env] := by rfl)
    (ha : ∀ v, assign (.Subscript o ip p2) X.env v = (do
      let ov ← holding [v] (eval o X.env)
      let iv ← holding [v, ov] (eval ip X.env)
      standAt p2
      holding [v, ov, iv] (setItem ov iv v)
      release [v, ov, iv] []) := by intro _; rfl) : PDs X (.Assign [.Subscript o ip p2] e pos) (wSetN wo wi we) :=
  ⟨fun Wx tk => PS.imp (ps_asg (he.run Wx tk) (pg_sub (ho.run Wx tk) (hi.run Wx tk) (set_N hu) ha) hs hw h1) fun D σ H ⟨W, env, S, q, ok, sl, hl, hw, cs⟩ => ⟨W, env, S, _, _, ok, sl, hw, fun d S1 v W1 H1 h1 s1 ok1 r1 =>
    ⟨W1, env, S1, _, _, ok1, sl.mono s1.vis, h1, fun o1 S2 u W2 H2 h2 s2 ok2 r2 => ⟨W2, env, S2, _, _, ok2, sl.mono (s1.trans s2).vis, h2, fun i1 S3 t W3 H3 h3 s3 ok3 r3 =>
      ⟨W3, S3, o1, i1, d, _, ok3, r2.mono s3.vis, r3, r1.mono (s2.trans s3).vis, h3, fun S4 H4 h4 st4 ok4 => cs.nx _ S4 _ W3 _ h4 (s1.trans (s2.trans (s3.trans st4))) ok4 (sl.mono (s1.trans (s2.trans s3)).vis) hl⟩, CXc.of (cs.mono (s1.trans s2)) (sl.mono (s1.trans s2).vis)⟩, CXc.of (cs.mono s1) (sl.mono s1.vis)⟩, CXc.of cs sl⟩⟩
end
/-- {k: v} -/
def wDict1 (wk wv : WPe) : WPe := fun env S Q X => wk env S (fun kd S1 => wv env S1 (fun vd S2 => some! (keyD kd) fun _ => ∀ p, S2 p = none → Q (.ref p) (DL.put S2 p (.dN p [(kd, vd)]))) X) X
theorem Stp.grow {W : Hp} {S : Sto} {H H1 : Hp} (h : ∀ a o, H a = some o → H1 a = some o) : Stp W S H W S H1 := ⟨Same.refl W, fun a o e h1 h2 => ⟨h a o e, h1, h2⟩⟩
theorem pd_dict1 {X : Cx} {ek ev : Expr} {pos : Pos} {wk wv : WPe} (hu : X.A.units + 64 < cLine) (hk : PD X ek wk) (hv : PD X ev wv) : PD X (.Dict [some ek] [ev] pos) (wDict1 wk wv) := by
  refine ⟨fun Wx tk => ⟨fun pins s σ H Q I h => ?_⟩⟩
  obtain ⟨W, env, S, Q0, X1, ok, sl, hw, cv, cx⟩ := h
  refine wpAny_Dict_any rfl rfl (by simp) (by show 1 ≤ 15; omega) ?_
  have hp : H s.heap.objs.size = none := I.hok.fresh (Nat.le_refl _)
  have hnm : (s.heap.objs.size == sysModules) = false := beq_eq_false_iff_ne.mpr (Ne.symm (Nat.ne_of_lt I.big))
  have new0 : ∀ H', ObjOk X.prog X.w H' (s.heap.push { cls := .type "dict", data := .dict #[] }) s.heap.objs.size (.ext (dnP s.heap.objs.size [])) := fun H' =>
    ⟨⟨_, #[], 0, Heap.get?_push_size _ rfl, ⟨rfl, rfl, rfl⟩, rfl, rfl⟩, ⟨_, Heap.get?_push_size _ rfl⟩, fun k1 k2 ⟨o', es', ep', g1, g2⟩ e => ⟨o', es', ep', e _ g1, g2⟩⟩
  have I1 := I.laid (a := s.heap.objs.size) (o := .ext (dnP s.heap.objs.size [])) (t' := s.toks) (fun _ _ q => Heap.get?_push_of_some _ q) (Nat.le_refl _) (new0 _)
  generalize s.heap.objs.size = p at hp hnm I1
  obtain ⟨hW, hS⟩ := ok.fresh hp
  have ok1 := ok.junk (o := .ext (dnP p [])) hp
  have st1 := ok.stJ (o := .ext (dnP p [])) hp
  show wpAny _ _ (evalPairs [(eval ek X.env, do let x ← eval ev X.env; standAt pos; pure x)]) _ _ _
  refine evalPairs_cons ?_
  refine thn ((hk.run Wx tk).run pins _ σ _ _ I1 ⟨W, env, S, _, X1, ok1, sl, hw, fun kd S2 v2 W2 H2 h2 s2 ok2 r2 => (⟨W2, S2, kd, h2, s2, ok2, r2⟩ : ∃ W2 S2 kd, (fun kd S1 => wv env S1 (fun vd S2 => some! (keyD kd) fun _ => ∀ p, S2 p = none → Q0 (.ref p) (DL.put S2 p (.dN p [(kd, vd)]))) X1) kd S2 ∧ Stp W S (L2.upd H p (.ext (dnP p []))) W2 S2 H2 ∧ Ok X.K W2 S2 H2 ∧ Rep X.K W2 kd v2), cx.mono st1⟩) ?_
  rintro uk s2 ⟨vk, H2, I2, rk, W2, S2, kd, h2, st2, ok2, r2⟩
  refine wpAny_bind (thn ((hv.run Wx tk).run pins _ σ _ _ I2 ⟨W2, env, S2, _, X1, ok2, sl.mono st2.vis, h2, fun vd S3 v3 W3 H3 h3 s3 ok3 r3 => (⟨W3, S3, vd, h3, s3, ok3, r3⟩ : ∃ W3 S3 vd, (fun vd S2 => some! (keyD kd) fun _ => ∀ p, S2 p = none → Q0 (.ref p) (DL.put S2 p (.dN p [(kd, vd)]))) vd S3 ∧ Stp W2 S2 H2 W3 S3 H3 ∧ Ok X.K W3 S3 H3 ∧ Rep X.K W3 vd v3), cx.mono (st1.trans st2)⟩) ?_)
  rintro uv s3 ⟨vv, H3, I3, rv, W3, S3, vd, h3, st3, ok3, r3⟩
  refine wpAny_bind (wpAny_standAt (wpAny_pure ?_))
  refine evalPairs_nil ?_
  obtain ⟨key, hkey, hq⟩ := some!_ex h3
  obtain ⟨⟨k1, k2⟩, xs0, rfl⟩ := keyD_ex hkey
  have r2' := r2.mono st3.vis
  obtain ⟨b, vs, rfl, hq0, rv0⟩ := id r2'
  obtain rfl : uk = Value.ref b := rk
  have stA := (st2.trans st3)
  obtain ⟨e1, e2, e3⟩ := stA.frm p _ upd_same hW hS
  obtain ⟨⟨ob, es, ep, g1, g2, g3, g4⟩, _, _⟩ := (show ObjOk X.prog X.w H3 s3.heap p (.ext (dnP p [])) from I3.hok p _ e1)
  have dd : s3.heap.DictOfH (nestedKind X.prog X.w) p [] := ⟨ob, es, ep, g1, g2, g3, g4, (fun x hx => by cases hx), List.nodup_nil⟩
  show wpAny _ _ (storeAll p [(Value.ref b, uv)]) _ _ _
  unfold storeAll
  rw [List.forIn_cons]
  refine wpAny_bind (wpAny_bind (wpAny_dictSet_heap (knd := nestedKind X.prog X.w) (hsz := Nat.zero_le _) (show X.A.units + 8 < cLine by omega) ⟨nest_of I3 ok3.vis r2' rfl k1, k2⟩ dd fun h' dd' hsb => wpAny_pure ?_))
  dsimp only
  rw [List.forIn_nil]
  refine wpAny_pure ?_
  have dn' : DN X.K W3 [(.tup xs0, vd)] (storedH [] key b uv) := ⟨key, b, uv, vv, [], rfl, ⟨k1, k2⟩, r2', ⟨r3, rv⟩, rfl⟩
  have he : ∃ q, h'.get? p = some q := let ⟨q, _, _, hq, _⟩ := dd'; ⟨q, hq⟩
  have I4 := d_write (t' := s3.toks + (nestedKind X.prog X.w).draws key) I3 (by rw [e1]; exact True.intro) hsb he (dn_obj dn' dd')
  obtain ⟨_, _, _, _, _, _, _, _, nd⟩ := dd'
  have stB : Stp W S H W3 S3 H3 := st1.trans stA
  have ok4 := (ok3.out (o := .ext (dnP p (storedH [] key b uv))) e2 e3).own (m := .dN p [(.tup xs0, vd)]) e2 upd_same ⟨_, rfl, ⟨by show 1 ≤ sizeLine; decide, hnm, nd⟩, dn'⟩
  exact ⟨.ref p, _, I4, rfl, cv _ _ _ _ _ (hq p e3) ((stB.own hp).out hp) ok4 rfl⟩
/-- a bool in a list or tuple of bools -/
def oInB : O2 := fun S x y Q => match x with
  | .bl k => some! (seqA S y) fun xs => some! (toBls xs) fun bs => Q (.bl (bs.any fun b => b == k)) S
  | _ => False
def oNotInB : O2 := fun S x y Q => match x with
  | .bl k => some! (seqA S y) fun xs => some! (toBls xs) fun bs => Q (.bl (!(bs.any fun b => b == k))) S
  | _ => False
theorem inV_bl {k : Bool} : ∀ {bs : List Bool}, inV (.bl k) (bs.map V.bl) = (bs.any fun b => b == k) ∧ (bs.map V.bl).all flatV = true
  | [] => ⟨rfl, rfl⟩
  | b :: r => by
    obtain ⟨h1, h2⟩ := inV_bl (k := k) (bs := r)
    refine ⟨?_, h2⟩
    show ((b == k) || inV (.bl k) (r.map V.bl)) = ((b == k) || r.any fun b => b == k)
    rw [h1]
theorem opd_inB {X : Cx} : OpR X (compareOp .In) (lOp X.K oInB) := OpR.imp op_in_seq fun x y H Q ⟨W, S, a, b, Q0, ok, ra, rb, ho, cv⟩ => by
  cases a with
  | bl k =>
    obtain ⟨xs, e1, ho⟩ := some!_ex ho
    obtain ⟨bs, e2, ho⟩ := some!_ex ho
    obtain ⟨p, vs, rfl, hq, r1⟩ := seqA_rep ok rb e1
    have e3 := toBls_rep e2 r1
    subst e3
    have e4 : x = V.bl k := ra
    subst e4
    refine ⟨p, _, rfl, hq, rfl, (inV_bl (k := k)).2, ?_⟩
    rw [inV_bl.1]
    exact cv _ S _ W H ho Stp.refl ok rfl
  | _ => exact ho.elim
theorem opd_notInB {X : Cx} : OpR X (compareOp .NotIn) (lOp X.K oNotInB) := OpR.imp op_notIn_seq fun x y H Q ⟨W, S, a, b, Q0, ok, ra, rb, ho, cv⟩ => by
  cases a with
  | bl k =>
    obtain ⟨xs, e1, ho⟩ := some!_ex ho
    obtain ⟨bs, e2, ho⟩ := some!_ex ho
    obtain ⟨p, vs, rfl, hq, r1⟩ := seqA_rep ok rb e1
    have e3 := toBls_rep e2 r1
    subst e3
    have e4 : x = V.bl k := ra
    subst e4
    refine ⟨p, _, rfl, hq, rfl, (inV_bl (k := k)).2, ?_⟩
    rw [inV_bl.1]
    exact cv _ S _ W H ho Stp.refl ok rfl
  | _ => exact ho.elim
/-- d[k] -/
def oIxN : O2 := fun S x y Q => dnAt S x fun _ kvs => some! (keyD y) fun k => some! (fndN kvs k) fun d => Q d S
end DL
set_option Elab.async false
set_option linter.all false
set_option maxRecDepth 100000
set_option maxHeartbeats 1000000
/-! The data layer, part r: data in a list or tuple of data, the index of data, len of a dict with tuple keys, its d[k]. -/
namespace DL
open PySem PySem.Spec PyProof.Rows L2
theorem dp_lay {K : PySem.W.Frag} {W H : Hp} {S : Sto} (ok : Ok K W S H) {d : D} {v : V} (r : Rep K W d v) (c0 : (toP (resD S d)).canLay0 = true) : Dp K H v (toP (resD S d)) := by
  cases d with
  | ref a =>
    have e : resD S (.ref a) = (match S a with | some (.lst xs) => .lst xs | _ => .ref a) := rfl
    cases q : S a with
    | none => rw [e, q] at c0; cases c0
    | some m =>
      cases m with
      | lst xs =>
        rw [e, q] at c0 ⊢
        obtain ⟨o, e1, vs, e2, e3⟩ := ok.sto _ _ q
        subst e2
        have r' : v = .ref a := r
        subst r'
        exact .lst (SqL.of e1) (dps_of ok.vis e3 c0)
      | _ => rw [e, q] at c0; cases c0
  | _ => exact dp_of ok.vis r c0
def itP : PyData → Option (List PyData)
  | .list xs => some xs
  | .tuple xs => some xs
  | _ => none
/-- how data stands, where it is flat enough to be asked for -/
def layP (S : Sto) (x : D) : Prop := (toP (resD S x)).canLay0 = true ∧ (toP (resD S x)).depth ≤ 8
def hasD (x : PyData) (xs : List PyData) : Bool := xs.any fun y => PyData.eqv y x
def oInD (neg : Bool) : O2 := fun S x y Q => layP S x ∧ (toP (resD S y)).canLay0 = true ∧ some! (itP (toP (resD S y))) fun xs => Q (.bl (if neg = true then !hasD (toP (resD S x)) xs else hasD (toP (resD S x)) xs)) S
theorem opd_inD {X : Cx} (hu : X.A.units + 64 < cLine) : OpR X (compareOp .In) (lOp X.K (oInD false)) := fun pins s σ H x y v u Q I rx ry h => by
  obtain ⟨W, S, a, b, Q0, ok, ra, rb, ⟨⟨h1, h2⟩, h3, h4⟩, cv⟩ := h
  obtain ⟨xs, hxs, ho⟩ := some!_ex h4
  obtain ⟨as, r1⟩ := Dp.reads I _ x v (dp_lay ok ra h1) rx
  obtain ⟨bs, r2⟩ := Dp.reads I _ y u (dp_lay ok rb h3) ry
  have hd := PyData.plain_of_canLay0 _ h1
  generalize toP (resD S a) = da at *
  have fin : ∀ s, L2.Inv X pins σ H s → EP X pins σ Q (.bool (xs.any fun y => PyData.eqv y da)) s := fun s I => ⟨.bl (hasD da xs), H, I, rfl, cv (.bl (hasD da xs)) S _ W H (by simpa using ho) Stp.refl ok rfl⟩
  generalize toP (resD S b) = db at *
  cases db with
  | list ys =>
    cases (show some ys = some xs from hxs)
    have hxs' : PyData.plainAll xs = true := PyData.plainAll_of_canLay0 _ (show PyData.canLayAll0 xs = true from h3)
    exact SeqAt.in_list_data r2 r1 hxs' hd (by have := Nat.min_le_right (PyData.depthAll xs) da.depth; omega) (fin _ I)
  | tuple ys =>
    cases (show some ys = some xs from hxs)
    have hxs' : PyData.plainAll xs = true := PyData.plainAll_of_canLay0 _ (show PyData.canLayAll0 xs = true from h3)
    exact SeqAt.in_tuple_data r2 r1 hxs' hd (by have := Nat.min_le_right (PyData.depthAll xs) da.depth; omega) (fin _ I)
  | _ => cases hxs
theorem opd_notInD {X : Cx} (hu : X.A.units + 64 < cLine) : OpR X (compareOp .NotIn) (lOp X.K (oInD true)) := fun pins s σ H x y v u Q I rx ry h => by
  obtain ⟨W, S, a, b, Q0, ok, ra, rb, ⟨⟨h1, h2⟩, h3, h4⟩, cv⟩ := h
  obtain ⟨xs, hxs, ho⟩ := some!_ex h4
  obtain ⟨as, r1⟩ := Dp.reads I _ x v (dp_lay ok ra h1) rx
  obtain ⟨bs, r2⟩ := Dp.reads I _ y u (dp_lay ok rb h3) ry
  have hd := PyData.plain_of_canLay0 _ h1
  generalize toP (resD S a) = da at *
  have fin : ∀ s, L2.Inv X pins σ H s → EP X pins σ Q (.bool (!xs.any fun y => PyData.eqv y da)) s := fun s I => ⟨.bl (!hasD da xs), H, I, rfl, cv (.bl (!hasD da xs)) S _ W H (by simpa using ho) Stp.refl ok rfl⟩
  generalize toP (resD S b) = db at *
  cases db with
  | list ys =>
    cases (show some ys = some xs from hxs)
    have hxs' : PyData.plainAll xs = true := PyData.plainAll_of_canLay0 _ (show PyData.canLayAll0 xs = true from h3)
    exact SeqAt.notIn_list_data r2 r1 hxs' hd (by have := Nat.min_le_right (PyData.depthAll xs) da.depth; omega) (fin _ I)
  | tuple ys =>
    cases (show some ys = some xs from hxs)
    have hxs' : PyData.plainAll xs = true := PyData.plainAll_of_canLay0 _ (show PyData.canLayAll0 xs = true from h3)
    exact SeqAt.notIn_tuple_data r2 r1 hxs' hd (by have := Nat.min_le_right (PyData.depthAll xs) da.depth; omega) (fin _ I)
  | _ => cases hxs
/-- len(d) of a dict with tuple keys -/
def oLenN : OC := fun S ds Q => one ds fun d => dnAt S d fun _ kvs => Q (.int (kvs.length : Nat)) S
theorem DN.len {K : PySem.W.Frag} {W : Hp} : ∀ {kvs : List (D × D)} {xs : List (NestedKey × Addr × Value)}, DN K W kvs xs → kvs.length = xs.length
  | [], xs, h => by rw [show xs = [] from h]; rfl
  | p :: r, _, ⟨k', b, u, v, r', e1, _, _, _, e6⟩ => by
    subst e1
    rw [List.length_cons, List.length_cons, DN.len e6]
theorem cd_lenN {X : Cx} : CallR X (.builtin "len") (lC X.K oLenN) := by
  intro pins s σ H vs us Q I r ⟨W, S, ds, Q0, ok, rd, ho, cv⟩
  obtain ⟨d, rfl, ho⟩ := one_ex ho
  obtain ⟨p, kvs, rfl, hS, ho⟩ := dnAt_ex ho
  obtain ⟨v, rfl, rv⟩ := reps1 rd
  obtain ⟨u, rfl, rx⟩ := vals1 r
  rw [show v = V.ref p from rv] at rx
  obtain rfl : u = Value.ref p := rx
  obtain ⟨es, h1, dn, ⟨z1, z2, z3⟩, dd⟩ := dict_at I ok hS
  have hl := dn.len
  refine call_len_dictH z2 dd (by rw [← hl]; have := z1; rw [sizeLine_eq] at this; omega) ?_
  rw [← hl]
  exact ⟨.int ((kvs.length : Nat) : Int), H, I.tok _, ⟨_, rfl⟩, cv _ S _ W H ho Stp.refl ok rfl⟩
/-- xs.index(e), found -/
def oIndex : OM := fun S d ds Q => mutL S d fun _ xs => one ds fun e => layP S e ∧ PyData.canLayAll0 (toPs xs) = true ∧ xs.length ≤ sizeLine ∧
  ∃ (k : Nat) (y : PyData), (toPs xs)[k]? = some y ∧ PyData.eqv y (toP (resD S e)) = true ∧ (∀ (m : Nat) z, m < k → (toPs xs)[m]? = some z → PyData.eqv z (toP (resD S e)) = false) ∧ Q (.int (k : Nat)) S
theorem md_index {X : Cx} (hu : X.A.units + 64 < cLine) : MtR X "list.index" (lM X.K oIndex) := by
  intro pins s σ H x vs v us Q I rx rv ⟨W, S, d, ds, Q0, ok, r, rs, ho, cv⟩
  obtain ⟨a, xs, ws, rfl, rfl, e1, e2, rvv, h⟩ := mutL_rep ok r ho
  obtain ⟨e, rfl, ⟨l1, l2⟩, c2, c3, k, y, k1, k2, k3, q⟩ := one_ex h
  obtain ⟨w, rfl, rw_⟩ := reps1 rs
  obtain ⟨u, rfl, ru⟩ := rv.one
  cases rx
  obtain ⟨z, its, n, rI, hl, eI⟩ := I.lstM e2
  obtain ⟨bs, r1⟩ := Dp.reads I _ w u (dp_lay ok rw_ l1) ru
  obtain ⟨as, r2⟩ := Dp.readsAll I _ ws its (dps_of ok.vis rvv c2) rI
  have hd := PyData.plain_of_canLay0 _ l1
  have hxs := PyData.plainAll_of_canLay0 _ c2
  have em := SeqAt.readsAll_map_plain _ _ _ hxs r2
  have at_ : ∀ (m : Nat) (t : Value), its[m]? = some t → (toPs xs)[m]? = some (SeqAt.readOf s.heap t) := fun m t ht => by
    rw [← em, List.getElem?_map, ht]; rfl
  obtain ⟨t, ht, et⟩ : ∃ t, its[k]? = some t ∧ SeqAt.readOf s.heap t = y := by
    rw [← em, List.getElem?_map] at k1
    obtain ⟨t, h1, h2⟩ := Option.map_eq_some_iff.mp k1
    exact ⟨t, h1, h2⟩
  have hk := lt_of_some ht
  have hits : its.length = xs.length := by
    have h1 := congrArg List.length em
    have h2 : ∀ xs : List D, (toPs xs).length = xs.length := fun xs => by
      induction xs with
      | nil => rfl
      | cons x r ih => show (toPs r).length + 1 = _; rw [ih]; rfl
    rw [List.length_map, h2] at h1
    exact h1
  have hz := c3
  rw [sizeLine_eq] at hz
  have hEq := SeqAt.items_plain (A := X.A) (vs := its.toArray) (by simpa using r2) r1 hxs hd (by have := Nat.min_le_right (PyData.depthAll (toPs xs)) (toP (resD S e)).depth; omega)
  generalize toP (resD S e) = de at *
  refine call_meets F.slot_list_index ⟨_, eI, rfl⟩ F.entry_list_index (F.args_list_index_2 _ _)
    (SeqAt.list_index2_found a its.toArray n none #[] u (fun j => PyData.eqv (SeqAt.readOf s.heap (its[j]?.getD .none)) de) k (by simpa using hk) (Nat.zero_le _) (by omega) (by rw [ht]; show PyData.eqv (SeqAt.readOf s.heap t) de = true; rw [et]; exact k2) ?_) ⟨eI, fun j hj => ?_, ?_⟩
  · intro m hm _ hlt
    have hm' : m < its.length := by simpa using hm
    rw [List.getElem?_eq_getElem hm']
    exact k3 m _ hlt (at_ m _ (List.getElem?_eq_getElem hm'))
  · have hj' : j < its.length := by simpa using hj
    rw [List.getElem?_eq_getElem hj']
    exact hEq _ (by simp)
  · exact ⟨.int (k : Nat), H, I.tok _, ⟨_, rfl⟩, cv _ S _ W H q Stp.refl ok rfl⟩
/-- a, b = e -/
def wAsgG (t : WPg) (w : WPe) : WPs := fun env S q => w env S (fun d S1 => t d env fun e => q.nx e S1) (xcQ q env)
theorem pds_asgG {X : Cx} {tg e : Expr} {vs : List Nat} {t : WPg} {w : WPe} {pos : Pos} (he : PD X e w) (hg : PDg X tg vs t) (hs : swapsWithSole [tg] e pos.line X.env = pure false := by rfl) (hw : swappedStores [tg] e X.env = pure none := by rfl)
    (h1 : (assignEach [tg] X.env).map (·.2) = [assign tg X.env] := by rfl) : PDs X (.Assign [tg] e pos) (wAsgG t w) :=
  ⟨fun Wx tk => PS.imp (ps_asg (he.run Wx tk) hg.run hs hw h1) fun D σ H ⟨W, env, S, q, ok, sl, hl, hw, cs⟩ => ⟨W, env, S, _, _, ok, sl, hw, fun d S1 v W1 H1 h1 s1 ok1 r1 =>
    ⟨W1, S1, env, d, _, ok1, sl.mono s1.vis, hl, r1, h1, fun e σ' hk sl' hl' _ => cs.nx _ S1 _ W1 H1 hk s1 ok1 sl' hl'⟩, CXc.of cs sl⟩⟩
end DL
set_option Elab.async false
set_option linter.all false
set_option maxRecDepth 100000
set_option maxHeartbeats 4000000
namespace DL
open PySem PySem.Spec PyProof.Rows L2
/-- x < y of data that are alike (lists, tuples, ints) -/
def oLtD : O2 := fun S x y Q => layP S x ∧ layP S y ∧ PySem.W.alike (toP (resD S x)) (toP (resD S y)) = true ∧ toP (resD S x) ≠ .none ∧ Q (.bl (PySem.W.dataLt (toP (resD S x)) (toP (resD S y)))) S
theorem opd_ltD {X : Cx} (hu : X.A.units + 64 < cLine) : OpR X (compareOp .Lt) (lOp X.K oLtD) := fun pins s σ H x y v u Q I rx ry h => by
  obtain ⟨W, S, a, b, Q0, ok, ra, rb, ⟨⟨h1, h2⟩, ⟨h3, h4⟩, h5, h6, ho⟩, cv⟩ := h
  obtain ⟨as, r1⟩ := Dp.reads I _ x v (dp_lay ok ra h1) rx
  obtain ⟨bs, r2⟩ := Dp.reads I _ y u (dp_lay ok rb h3) ry
  exact PySem.W.lt_data r1 r2 h5 h6 (by have := Nat.min_le_left (toP (resD S a)).depth (toP (resD S b)).depth; omega) ⟨.bl (PySem.W.dataLt (toP (resD S a)) (toP (resD S b))), H, I, rfl, cv _ S _ W H ho Stp.refl ok rfl⟩
end DL
set_option Elab.async false
set_option linter.all false
set_option maxRecDepth 100000
set_option maxHeartbeats 1000000
/-! The data layer, part t: defs that are called while an exception is handled; defs that know that no repr is under way. -/
namespace DL
open PySem PySem.Spec PyProof.Rows L2
section
variable {P : Program} {w : World} {K : PySem.W.Frag} {mg : Str → Option Value} {base : Heap} {x qual : Str} {st : Stmt} {f : Addr} {fd : FuncData} {N ps : List Str} {A : Around} {outer : List Env} {s : Shared} {H : Hp} {us : List Value}
/-- what a def tells, by how its body ended -/
def retV : Flow → Value
  | .ret v => v
  | _ => .none
/-- a def is entered: what is left is its body -/
theorem fun_go {CX : CXT} {Q : VK} {E : XK} (F : Fun K x qual st f fd) (S : FnScope N ps (defScope st)) {args : Args} (hdp : A.depth < recursionLimit) (env0 : Env0 P w K mg base A outer s H) (bnd : BindsTo s fd args (ps.zip us))
    (go : ∀ (cdv : Value) (s1 : Shared), InCallC s s.heap.objs.size (bindL (envOfC qual (defScope st) s.heap.objs.size f cdv).kindOf (ps.zip us) fun _ => none) (cellsFrom (s.heap.objs.size + 1) (defScope st).names []) (bindC (envOfC qual (defScope st) s.heap.objs.size f cdv).kindOf (ps.zip us) fun _ => none) s1 →
      wpAny (model P w) (A.deeper (envOfC qual (defScope st) s.heap.objs.size f cdv)) (execs (defBody st) (envOfC qual (defScope st) s.heap.objs.size f cdv)) (fun fl s' => CE outer P w H s Q (retV fl) s')
        (cxOf CX P w K mg base N qual (defScope st) f cdv A outer s H E).xe s1) :
    codeAny (model P w) A (.call (.ref f) args) (CR CX outer P w H s Q E) s := by
  obtain ⟨oc, od, kV, doc, pm, an, cdv, ct, osl, efd, found, code⟩ := F.ex
  subst efd
  have inK : K.In s.heap := env0.mod.kin.keeps (fun b o e => (env0.bs b o e).1)
  refine codeAny_call_function hdp (inK _ _ found) rfl S.co S.gen rfl (PySem.W.codeRec_of inK code) (bnd _ _ _ _ (wpAny_newFunctionEnv_cells S.kind (fun y hy => ?_) fun env eenv s1 entered => ?_))
  · have hy1 := S.par y.1 (List.of_mem_zip (a := y.1) (b := y.2) hy).1
    exact hy1.elim .inl fun c => .inr ⟨c, PySem.W.cellsFrom_some _ _ _ (.inl c)⟩
  · subst eenv
    refine ⟨(env0.mod.nolimit.keeps fun b o e => (env0.bs b o e).1).keeps entered.toInCall.keep, codeAny_func ?_⟩
    exact wpAny_mono (go cdv s1 entered) (fun fl s' h => by cases fl <;> exact h) fun _ _ z => z
theorem cr_ret {Q : VK} {r : Result} {s' : Shared} (h : CR (L2.CX P w) outer P w H s Q (fun _ _ _ => False) r s') : ∃ u, r = .ok (.ret u) ∧ CE outer P w H s Q u s' := by
  match r, h with
  | .ok (.ret u), h => exact ⟨u, rfl, h⟩
  | .ok .next, h => exact h.elim
  | .ok .brk, h => exact h.elim
  | .ok .cont, h => exact h.elim
  | .error e, ⟨_, _, _, _, _, _, _, _, _, _, _, _, z⟩ => exact z.elim
/-- no exception leaves it, and it is told that no repr is under way -/
structure FnG (P : Program) (w : World) (K : PySem.W.Frag) (mg : Str → Option Value) (base : Heap) (k : Nat) (f : Addr) (fd : FuncData) (ps : List Str) (spec : Ctr) : Prop where
  len : ∀ ds S Q E, spec ds S Q E → ds.length = ps.length
  run : ∀ (A : Around) (outer : List Env) (s : Shared) (H : Hp) (args : Args) (us : List Value) (vs : List V) (Q : VK), Room k A → A.guards = some [] → Env0 P w K mg base A outer s H → BindsTo s fd args (ps.zip us) → Vals vs us → lSp K spec vs H Q (fun _ _ _ => False) →
    codeAny (model P w) A (.call (.ref f) args) (fun r s' => ∃ u, r = .ok (.ret u) ∧ CE outer P w H s Q u s') s
/-- the object of a caught exception of an own class -/
def CaughtAs (a dd C : Addr) (oe : Obj) : Prop := Zc (.ref C) (some dd) oe ∧ ∃ vs, oe.data = .fields vs
/-- .. and it is called while the exception at a is handled -/
structure FnT (P : Program) (w : World) (K : PySem.W.Frag) (mg : Str → Option Value) (base : Heap) (k : Nat) (f : Addr) (fd : FuncData) (ps : List Str) (spec : Addr → Addr → Addr → Ctr) : Prop where
  len : ∀ a dd C ds S Q E, spec a dd C ds S Q E → ds.length = ps.length
  run : ∀ (a dd C : Addr) (oe : Obj) (A : Around) (outer : List Env) (s : Shared) (H : Hp) (args : Args) (us : List Value) (vs : List V) (Q : VK), L2H.RoomH k A → A.guards = some [] → A.handled = some (.ref a) → CaughtAs a dd C oe → L2H.PinOk outer H s (a, oe) → Env0 P w K mg base A outer s H → BindsTo s fd args (ps.zip us) → Vals vs us →
    lSp K (spec a dd C) vs H Q (fun _ _ _ => False) → codeAny (model P w) A (.call (.ref f) args) (fun r s' => ∃ u, r = .ok (.ret u) ∧ CE outer P w H s Q u s') s
/-- what a body's end makes of a call -/
theorem end_call {X : Cx} {pins : List (Addr × Obj)} {H0 : Hp} {s0 : Shared} {Q : VK} {fl : Flow} {s' : Shared} (e1 : X.s_0 = s0) (e2 : X.H_0 = H0) (e3 : X.ex = []) (h : SP X pins { nx := fun _ H' => Q .non H', rt := Q } fl s') : CE X.outer X.prog X.w H0 s0 Q (retV fl) s' := by
  have fin : ∀ {σ' : L2.St} {H' : Hp} {v : V} {u : Value}, Inv X pins σ' H' s' → RelV v u → Q v H' → CE X.outer X.prog X.w H0 s0 Q u s' := fun {σ' H' v u} J rv q => by
    have b := J.base
    rw [e3, e2, e1] at b
    have o := J.os
    rw [e1] at o
    exact ⟨v, H', o, J.bare, b, J.hok, rv, q⟩
  match fl, h with
  | .ret u, ⟨v, _, _, J, rv, q⟩ => exact fin J rv q
  | .next, ⟨_, _, J, q⟩ => exact fin (v := .non) J rfl q
  | .brk, ⟨_, _, _, q⟩ => exact q.elim
  | .cont, ⟨_, _, _, q⟩ => exact q.elim
/-- a body's reading begins -/
theorem body_reads {X : Cx} {ws : WPs} {spec : Ctr} {vs : List V} {Q : VK} (hN : X.N = N) (hle : ps.length ≤ N.length) (len : ∀ ds S Q E, spec ds S Q E → ds.length = ps.length) (hr : ∀ ds S Q X1, spec ds S Q X1 → ws (startD N ds) S (endQ Q X1))
    (h : lSp X.K spec vs H Q (fun _ _ _ => False)) : lS X.K (fun _ _ _ _ => False) X.N.length ws { nx := fun _ H' => Q .non H', rt := Q } (L2.start N vs) H := by
  obtain ⟨W, S', ds, Q0, X1, ok, r, h, cv, cx⟩ := h
  refine ⟨W, _, S', _, ok, sl_start r, ?_, hr ds S' Q0 X1 h, ?_, ?_, ?_, ?_, ?_⟩
  · rw [hN]
    unfold L2.start
    rw [List.length_append, List.length_map, List.length_replicate]
    have := r.length
    have := len ds S' Q0 X1 h
    omega
  · exact fun _ S1 σ1 W1 H1 h1 s1 ok1 _ _ => cv .non S1 .non W1 H1 h1 s1 ok1 rfl
  · exact fun d S1 v W1 H1 h1 s1 ok1 r1 => cv d S1 v W1 H1 h1 s1 ok1 r1
  · exact fun _ _ _ _ _ h1 _ _ _ => h1.elim
  · exact fun _ _ _ _ _ h1 _ _ _ => h1.elim
  · exact fun C fs _ S1 dd gs _ W1 H1 h1 s1 ok1 _ e1 r1 => cx C fs S1 dd gs W1 H1 h1 s1 ok1 e1 r1
theorem fnG_mk {k : Nat} {spec : Ctr} {ws : WPs} (F : Fun K x qual st f fd) (S : FnScope N ps (defScope st)) (hle : ps.length ≤ N.length) (len : ∀ ds S Q E, spec ds S Q E → ds.length = ps.length)
    (hd : ∀ (f : Addr) (cdv : Value) (A : Around) (outer : List Env) (s : Shared) (H : Hp) (E : XK), Room k (A.deeper (envOfC qual (defScope st) s.heap.objs.size f cdv)) → A.guards = some [] → PDss (cxOf (L2.CX P w) P w K mg base N qual (defScope st) f cdv A outer s H E) (defBody st) ws)
    (hr : ∀ ds S Q X1, spec ds S Q X1 → ws (startD N ds) S (endQ Q X1)) : FnG P w K mg base (k + 1) f fd ps spec := by
  refine ⟨len, fun A outer s H args us vs Q room gd env0 bnd r hs => codeAny_mono (fun_go (CX := L2.CX P w) (Q := Q) (E := fun _ _ _ => False) (N := N) F S room.depth env0 bnd fun cdv s1 entered => ?_) fun _ _ h => cr_ret h⟩
  have lv : vs.length = ps.length := by
    obtain ⟨W, S', ds, Q0, X1, ok, r, h, _⟩ := hs
    rw [r.length]; exact len ds S' Q0 X1 h
  have hp := (hd f cdv A outer s H (fun _ _ _ => False) (room.deeper _) gd).run (fun _ _ _ _ => False) (takes_of rfl rfl rfl rfl)
  have I : Inv (cxOf (L2.CX P w) P w K mg base N qual (defScope st) f cdv A outer s H (fun _ _ _ => False)) [] (L2.start N vs) H s1 := inv_start S room.hd env0 lv r entered
  exact wpAny_mono (hp.run [] s1 (L2.start N vs) H _ I (body_reads (X := cxOf (L2.CX P w) P w K mg base N qual (defScope st) f cdv A outer s H (fun _ _ _ => False)) rfl hle len hr hs)) (fun fl s' z => end_call (X := cxOf (L2.CX P w) P w K mg base N qual (defScope st) f cdv A outer s H (fun _ _ _ => False)) rfl rfl rfl z) fun _ _ z => z
theorem mark_same {A : Around} {a : Addr} (h : A.handled = some (.ref a)) : A.mark (some (.ref a)) = A := by
  obtain ⟨hd, d, fr, gs, u⟩ := A
  cases h
  rfl
theorem fnT_mk {k : Nat} {spec : Addr → Addr → Addr → Ctr} {ws : Addr → Addr → Addr → WPs} (F : Fun K x qual st f fd) (S : FnScope N ps (defScope st)) (hle : ps.length ≤ N.length) (len : ∀ a dd C ds S Q E, spec a dd C ds S Q E → ds.length = ps.length)
    (hd : ∀ (f : Addr) (cdv : Value) (A : Around) (outer : List Env) (s : Shared) (H : Hp) (E : XK) (a dd C : Addr) (oe : Obj), CaughtAs a dd C oe → L2H.RoomH k (A.deeper (envOfC qual (defScope st) s.heap.objs.size f cdv)) → A.guards = some [] →
      PDss ((cxOf (L2.CX P w) P w K mg base N qual (defScope st) f cdv A outer s H E).suite a [(a, oe)]) (defBody st) (ws a dd C))
    (hr : ∀ a dd C ds S Q X1, spec a dd C ds S Q X1 → ws a dd C (startD N ds) S (endQ Q X1)) : FnT P w K mg base (k + 1) f fd ps spec := by
  refine ⟨len, fun a dd C oe A outer s H args us vs Q room gd hot ca pin env0 bnd r hs => codeAny_mono (fun_go (CX := L2.CX P w) (Q := Q) (E := fun _ _ _ => False) (N := N) F S room.depth env0 bnd fun cdv s1 entered => ?_) fun _ _ h => cr_ret h⟩
  have lv : vs.length = ps.length := by
    obtain ⟨W, S', ds, Q0, X1, ok, r, h, _⟩ := hs
    rw [r.length]; exact len a dd C ds S' Q0 X1 h
  have hp := (hd f cdv A outer s H (fun _ _ _ => False) a dd C oe ca (room.deeper _) gd).run (fun _ _ _ _ => False) takes0
  have I0 : Inv (L2H.cxH (L2.CX P w) P w K mg base N qual (defScope st) f cdv A outer s H (fun _ _ _ => False) (a, oe)) [] (L2.start N vs) H s1 := L2H.inv_startH S pin env0 lv r entered
  have K0 := I0.ok
  have I : Inv ((cxOf (L2.CX P w) P w K mg base N qual (defScope st) f cdv A outer s H (fun _ _ _ => False)).suite a [(a, oe)]) [] (L2.start N vs) H s1 :=
    ⟨⟨K0.mod, K0.kind, K0.glob, K0.blt, K0.above, K0.inj, K0.has, K0.cab, (fun z => absurd z Bool.false_ne_true), K0.frames, K0.stk, K0.exf, K0.bs, K0.bsz, K0.noex, K0.exfs, K0.funs, K0.frf⟩, I0.os, I0.bare, I0.base, I0.loc, I0.cell, I0.free, I0.freeC, I0.pin, I0.hok, I0.len⟩
  have go := hp.run [] s1 (L2.start N vs) H _ I (body_reads (X := (cxOf (L2.CX P w) P w K mg base N qual (defScope st) f cdv A outer s H (fun _ _ _ => False)).suite a [(a, oe)]) rfl hle (len a dd C) (hr a dd C) hs)
  have eA : ((cxOf (L2.CX P w) P w K mg base N qual (defScope st) f cdv A outer s H (fun _ _ _ => False)).suite a [(a, oe)]).A = A.deeper (envOfC qual (defScope st) s.heap.objs.size f cdv) := mark_same hot
  rw [eA] at go
  exact wpAny_mono go (fun fl s' z => end_call (X := (cxOf (L2.CX P w) P w K mg base N qual (defScope st) f cdv A outer s H (fun _ _ _ => False)).suite a [(a, oe)]) rfl rfl rfl z) fun _ _ z => z.elim
end
/-! ### the same by name, and their calls -/
section
variable (P : Program) (w : World) (K : PySem.W.Frag) (mg : Str → Option Value) (base : Heap)
def FnGC (k : Nat) (x : Str) (ps : List Str) (spec : Ctr) : Prop := (∀ ds S Q E E', spec ds S Q E → spec ds S Q E') ∧ ∃ f fd, FnG P w K mg base k f fd ps spec ∧ mg x = some (.ref f) ∧ PySem.W.keepIn K (.ref f) = true ∧ Binds K fd ps []
def FnTC (k : Nat) (x : Str) (ps : List Str) (spec : Addr → Addr → Addr → Ctr) : Prop := (∀ a dd C ds S Q E E', spec a dd C ds S Q E → spec a dd C ds S Q E') ∧ ∃ f fd, FnT P w K mg base k f fd ps spec ∧ mg x = some (.ref f) ∧ PySem.W.keepIn K (.ref f) = true ∧ Binds K fd ps []
end
section
variable {P : Program} {w : World} {K : PySem.W.Frag} {mg : Str → Option Value} {base : Heap} {x qual : Str} {st : Stmt} {N ps : List Str} {k : Nat}
theorem FnGC.mk {spec : Ctr} {ws : WPs} (D : DefAt K mg x qual st ps) (S : FnScope N ps (defScope st)) (hle : ps.length ≤ N.length) (nox : ∀ ds S Q E E', spec ds S Q E → spec ds S Q E') (len : ∀ ds S Q E, spec ds S Q E → ds.length = ps.length)
    (hd : ∀ (f : Addr) (cdv : Value) (A : Around) (outer : List Env) (s : Shared) (H : Hp) (E : XK), Room k (A.deeper (envOfC qual (defScope st) s.heap.objs.size f cdv)) → A.guards = some [] → PDss (cxOf (L2.CX P w) P w K mg base N qual (defScope st) f cdv A outer s H E) (defBody st) ws)
    (hr : ∀ ds S Q X1, spec ds S Q X1 → ws (startD N ds) S (endQ Q X1)) : FnGC P w K mg base (k + 1) x ps spec := by
  obtain ⟨f, fd, F, hm, hb⟩ := D
  exact ⟨nox, f, fd, fnG_mk F S hle len hd hr, hm, F.kp, hb⟩
theorem FnTC.mk {spec : Addr → Addr → Addr → Ctr} {ws : Addr → Addr → Addr → WPs} (D : DefAt K mg x qual st ps) (S : FnScope N ps (defScope st)) (hle : ps.length ≤ N.length) (nox : ∀ a dd C ds S Q E E', spec a dd C ds S Q E → spec a dd C ds S Q E') (len : ∀ a dd C ds S Q E, spec a dd C ds S Q E → ds.length = ps.length)
    (hd : ∀ (f : Addr) (cdv : Value) (A : Around) (outer : List Env) (s : Shared) (H : Hp) (E : XK) (a dd C : Addr) (oe : Obj), CaughtAs a dd C oe → L2H.RoomH k (A.deeper (envOfC qual (defScope st) s.heap.objs.size f cdv)) → A.guards = some [] →
      PDss ((cxOf (L2.CX P w) P w K mg base N qual (defScope st) f cdv A outer s H E).suite a [(a, oe)]) (defBody st) (ws a dd C))
    (hr : ∀ a dd C ds S Q X1, spec a dd C ds S Q X1 → ws a dd C (startD N ds) S (endQ Q X1)) : FnTC P w K mg base (k + 1) x ps spec := by
  obtain ⟨f, fd, F, hm, hb⟩ := D
  exact ⟨nox, f, fd, fnT_mk F S hle len hd hr, hm, F.kp, hb⟩
end
section
variable {X : Cx} {k : Nat} {ps : List Str} {x : Str} {p pos : Pos} {e : Expr} {es : List Expr} {wa : WPa}
/-- a name's call, by the values of its arguments -/
theorem pe_named {f : Addr} {Wx : WX} {spec : Ctr} (hm : X.mg x = some (.ref f)) (hk : PySem.W.keepIn X.K (.ref f) = true) (nox : ∀ ds S Q E E', spec ds S Q E → spec ds S Q E')
    (run : ∀ (pins : List (Addr × Obj)) (σ : L2.St) (H : Hp) (s : Shared) (Q : VK) (us : List Value) (vs : List V), Inv X pins σ H s → Vals vs us → lSp X.K spec vs H Q (fun _ _ _ => False) → wpAny (model X.prog X.w) X.A (call (.ref f) us) (EP X pins σ Q) X.xe s)
    (ha : PA X (e :: es) (lA X.K Wx wa)) (hg : Gl X x) (hdb : (x == ("__debug__" : Str)) = false) (he : starEach (e :: es) X.env = (false, eval e X.env) :: starEach es X.env) (hpl : (backTo pos (starEach es X.env)).any (·.1) = false) :
    PE X (.Call (.Name x p) (e :: es) [] pos) (lE X.K Wx (wCall spec wa)) := by
  refine ⟨fun pins s σ H Q I ⟨W, env, S, Q0, X1, ok, sl, hw, cv, cx⟩ => wpAny_Call_Name_kw (ld_glob I hg hm ?_ hdb)⟩
  have h1 : lA X.K Wx wa σ H fun vs H1 => lSp X.K spec vs H1 Q (fun _ _ _ => False) := ⟨W, env, S, _, X1, ok, sl, hw, fun ds S1 vs W1 H1 h1 s1 ok1 r1 => ⟨W1, S1, ds, Q0, _, ok1, r1, nox _ _ _ _ _ h1, cv.mono s1, CXc.no⟩, cx⟩
  exact PySem.W.callWith_K (h₀ := X.base) I.ok.mod.kin hk (thn (ha.run pos pins s σ H _ I h1) fun us s1 ⟨vs, H1, I1, r1, q1⟩ => ⟨I1.kIn, run pins σ H1 s1 Q us vs I1 r1 q1⟩) he hpl
theorem binds_at {fd : FuncData} {pins : List (Addr × Obj)} {σ : L2.St} {H : Hp} {s : Shared} {us : List Value} {vs : List V} (hb : Binds X.K fd ps []) (I : Inv X pins σ H s) (r : Vals vs us) (hl : vs.length = ps.length) : BindsTo s fd ⟨us, []⟩ (ps.zip us) := by
  have hl2 : (us ++ []).length = ps.length := by rw [List.append_nil, ← r.length]; exact hl
  have := hb s us I.kIn hl2
  rw [List.append_nil] at this
  exact this
theorem lsp_len {spec : Ctr} {K : PySem.W.Frag} {vs : List V} {H : Hp} {Q : VK} {E : XK} (len : ∀ ds S Q E, spec ds S Q E → ds.length = ps.length) (h : lSp K spec vs H Q E) : vs.length = ps.length := by
  obtain ⟨W, S', ds, Q0, X1, ok, r, h, _⟩ := h
  rw [r.length]; exact len ds S' Q0 X1 h
theorem pd_fnG {spec : Ctr} (G : FnGC X.prog X.w X.K X.mg X.base k x ps spec) (hr : Room k X.A) (hgd : X.A.guards = some []) (ha : PDa X (e :: es) wa) (hg : Gl X x := by rfl) (hdb : (x == ("__debug__" : Str)) = false := by decide)
    (he : starEach (e :: es) X.env = (false, eval e X.env) :: starEach es X.env := by rfl) (hpl : (backTo pos (starEach es X.env)).any (·.1) = false := by rfl) : PD X (.Call (.Name x p) (e :: es) [] pos) (wCall spec wa) := by
  obtain ⟨nox, f, fd, F, hm, hk, hb⟩ := G
  refine ⟨fun Wx tk => pe_named hm hk nox (fun pins σ H s Q us vs I r h => ?_) (ha.run Wx tk) hg hdb he hpl⟩
  refine wpAny_call (codeAny_mono (F.run X.A X.stack s H ⟨us, []⟩ us vs Q hr hgd I.env0 (binds_at hb I r (lsp_len F.len h)) r h) fun r s' ⟨u, eu, hq⟩ => ?_)
  subst eu
  exact I.after hq
variable {a dd C : Addr} {oe : Obj} {pn : List (Addr × Obj)}
theorem pd_fnT {spec : Addr → Addr → Addr → Ctr} (G : FnTC X.prog X.w X.K X.mg X.base k x ps spec) (hr : L2H.RoomH k X.A) (hgd : X.A.guards = some []) (ca : CaughtAs a dd C oe) (ha : PDa (X.suite a ((a, oe) :: pn)) (e :: es) wa) (hg : Gl (X.suite a ((a, oe) :: pn)) x := by rfl) (hdb : (x == ("__debug__" : Str)) = false := by decide)
    (he : starEach (e :: es) X.env = (false, eval e X.env) :: starEach es X.env := by rfl) (hpl : (backTo pos (starEach es X.env)).any (·.1) = false := by rfl) : PD (X.suite a ((a, oe) :: pn)) (.Call (.Name x p) (e :: es) [] pos) (wCall (spec a dd C) wa) := by
  obtain ⟨nox, f, fd, F, hm, hk, hb⟩ := G
  refine ⟨fun Wx tk => pe_named (X := X.suite a ((a, oe) :: pn)) hm hk (nox a dd C) (fun pins σ H s Q us vs I r h => ?_) (ha.run Wx tk) hg hdb he hpl⟩
  have pp := I.pin (a, oe) (List.mem_append_left _ List.mem_cons_self)
  have pin : L2H.PinOk X.stack H s (a, oe) := ⟨pp.1, pp.2.1, fun z => by
    rcases List.mem_cons.mp (I.stkSub a z) with z | z
    · exact pp.2.2.1 z
    · exact pp.2.2.2.1 z, pp.2.2.2.2⟩
  refine wpAny_call (codeAny_mono (F.run a dd C oe (X.suite a ((a, oe) :: pn)).A X.stack s H ⟨us, []⟩ us vs Q ⟨hr.dp, hr.un⟩ hgd rfl ca pin I.env0 (binds_at (X := X.suite a ((a, oe) :: pn)) hb I r (lsp_len (F.len a dd C) h)) r h) fun r s' ⟨u, eu, hq⟩ => ?_)
  subst eu
  exact I.after hq
end
theorem _root_.L2H.RoomH.units {k : Nat} {A : Around} (r : L2H.RoomH k A) : A.units + 64 < cLine := by have := r.un; omega
/-! ### repr(d), abs(i) -/
def oRepr : OC := fun S ds Q => one ds fun d => layP S d ∧ (toP (resD S d)).showable = true ∧ (toP (resD S d)).shown.length ≤ sizeLine ∧ Q (.str (toP (resD S d)).shown) S
theorem cd_repr {X : Cx} (hg : X.A.guards = some []) (hu : X.A.units + 64 < cLine) : CallR X (.builtin "repr") (lC X.K oRepr) := fun pins s σ H xs us Q I rv h => by
  obtain ⟨W, S, ds, Q0, ok, r, ho, cv⟩ := h
  obtain ⟨d, rfl, ⟨h1, h2⟩, h3, h4, ho⟩ := one_ex ho
  obtain ⟨v, rfl, rvd⟩ := reps1 r
  obtain ⟨u, rfl, ru⟩ := vals1 rv
  obtain ⟨as, r1⟩ := Dp.reads I _ v u (dp_lay ok rvd h1) ru
  have nd := PyData.hasDict_of_canLay _ h1
  have fin : ∀ (h' : Heap) (tk : Nat) (t : Tok), (∀ b o, s.heap.get? b = some o → h'.get? b = some o) → EP X pins σ Q (.str (toP (resD S d)).shown t) { s with heap := h', toks := tk } := fun h' tk t hk =>
    ⟨.str _, H, I.kept (t' := tk) hk, ⟨_, rfl⟩, cv (.str _) S _ W H ho Stp.refl ok rfl⟩
  generalize toP (resD S d) = p at *
  have same : ∀ (tk : Nat) (t : Tok), EP X pins σ Q (.str p.shown t) { s with toks := tk } := fun tk t => fin s.heap tk t fun _ _ z => z
  have r2 := r1
  have hd8 : p.depth ≤ 8 := h2
  have big : ∀ a : Addr, u = .ref a → wpAny (model X.prog X.w) X.A (call (.builtin "repr") [u]) (EP X pins σ Q) X.xe s := fun a e => by
    subst e
    exact repr_of_reads' r2 h3 (fun z => by rw [nd] at z; cases z) hg (by omega) (fun _ _ z => z) (fun h' t tk hk => fin h' tk t hk) h4
  cases r1 with
  | none => exact PySem.P.repr_of_none (same _ _)
  | bool => exact PySem.P.repr_of_bool (same _ _)
  | int => exact PySem.P.repr_of_int (of_decide_eq_true h3) (same _ _)
  | str => exact PySem.P.repr_of_str (same _ _) h4
  | _ => exact big _ rfl
def oAbs : OC := fun S ds Q => one ds fun d => match d with
  | .int i => Q (.int (if i < 0 then -i else i)) S
  | _ => False
theorem cd_abs {X : Cx} : CallR X (.builtin "abs") (lC X.K oAbs) := CallR.imp call_abs fun vs H Q ⟨W, S, ds, Q0, ok, r, ho, cv⟩ => by
  obtain ⟨d, rfl, ho⟩ := one_ex ho
  obtain ⟨v, rfl, rv⟩ := reps1 r
  cases d with
  | int i => exact ⟨i, by rw [show v = V.int i from rv], cv _ S _ W H ho Stp.refl ok rfl⟩
  | _ => exact ho.elim
/-! ### x[k] op= e, x a list that changes -/
def wAugI (o : O2) (wo wi we : WPe) : WPs := fun env S q => wo env S (fun x S1 => wi env S1 (fun i S2 => mutL S2 x fun _ xs => match i with
  | .int k => 0 ≤ k ∧ some! (atI xs k) fun d => we env S2 (fun y S3 => o S3 d y fun z S4 => setIx S4 x i z fun S5 => q.nx env S5) (xcQ q env)
  | _ => False) (xcQ q env)) (xcQ q env)
section
variable {X : Cx} {o i e : Expr} {pos tpos : Pos} {wo wi we : WPe}
theorem get_at : PGet X (fun x y H Q => ∃ p xs k v, x = .ref p ∧ y = .int k ∧ 0 ≤ k ∧ SqL X.K H p xs ∧ atI xs k = some v ∧ Q v H) := by
  rintro pins s σ H x y xv yv Q I rx ry ⟨p, xs, k, z, rfl, rfl, k0, hs, hat, q⟩
  cases rx
  obtain ⟨t, rfl⟩ := ry
  obtain ⟨its, rs, pl, hz⟩ := I.list hs
  obtain ⟨j, j1, j2, j3, j4, j5⟩ := atI_get hat
  obtain ⟨u, eu, ru⟩ := rs.get j2
  have hl := rs.length
  have hj : k.toNat = j := by
    rw [seqIndex_of k0 j5] at j1
    exact Option.some.inj j1
  have hb := line63
  exact PySem.wpAny_getItem_list pl.isList k0 (by omega) (by rw [hj]; simpa using eu) ⟨z, H, I, ru, q⟩
theorem pds_augI {op : Operator} {ob : O2} (ho : PD X o wo) (hi : PD X i wi) (he : PD X e we) (hop : OpR X (inplaceOp op) (lOp X.K ob)) (ha : ∀ ov iv new, augStore i ov iv new = (do holding [new, ov, iv] (setItem ov iv new); release [new, ov, iv] []; pure .next) := by intros; rfl) :
    PDs X (.AugAssign (.Subscript o i tpos) op e pos) (wAugI ob wo wi we) :=
  ⟨fun Wx tk => PS.imp (ps_augS (ho.run Wx tk) (hi.run Wx tk) get_at (he.run Wx tk) (fun pins s σ H x y v u Q I rx ry q => hop pins s σ H x y v u Q I rx ry q) set_list ha) fun D σ H ⟨W, env, S, q, ok, sl, hl, hw, cs⟩ =>
    ⟨W, env, S, _, _, ok, sl, hw, fun x S1 v W1 H1 h1 s1 ok1 r1 => ⟨W1, env, S1, _, _, ok1, sl.mono s1.vis, h1, fun iy S2 u W2 H2 h2 s2 ok2 r2 => by
      obtain ⟨a, xs, us, rfl, rfl, e1, e2, rv, h2⟩ := mutL_rep ok2 (r1.mono s2.vis) h2
      cases iy with
      | int k =>
        obtain ⟨k0, h2⟩ := h2
        obtain ⟨d, hd, h2⟩ := some!_ex h2
        obtain ⟨w, hw2, rw2⟩ := reps_at rv hd
        have s12 := s1.trans s2
        refine ⟨a, us, k, w, rfl, r2, k0, ?_, hw2, W2, env, S2, _, _, ok2, sl.mono s12.vis, h2, fun y S3 t W3 H3 h3 s3 ok3 r3 => ?_, CXc.of (cs.mono s12) (sl.mono s12.vis)⟩
        · exact SqL.of e2
        refine ⟨W3, S3, d, y, _, ok3, rw2.mono s3.vis, r3, h3, fun z S4 t2 W4 H4 h4 s4 ok4 r4 => ?_⟩
        have s34 := s3.trans s4
        obtain ⟨a', xs', n, j, S5, ea, ej, e5, e6, st5, ok5, h5⟩ := setIx_rep ok4 (r1.mono (s2.trans s34).vis) (r2.mono s34.vis) r4 h4
        exact ⟨a', xs', j, n, ea, ej, e5, e6, cs.nx _ S5 _ W4 _ h5 (s12.trans (s34.trans st5)) ok5 (sl.mono (s12.trans s34).vis) hl⟩
      | _ => exact h2.elim, CXc.of (cs.mono s1) (sl.mono s1.vis)⟩, CXc.of cs sl⟩⟩
end
/-! ### the end: a law that knows that no repr is under way -/
section
variable {P : Program} {w : World} {K : PySem.W.Frag} {mg mb : Str → Option Value} {k : Nat} {fa a : Addr} {fd : FuncData} {x : Str} {spec : Ctr} {s1 : Shared} {vs : List Value} {ns : List Int}
/-- the script, as it stands -/
abbrev scrO (vs : List Value) : Obj := { cls := .type "list", data := .seq vs.toArray }
theorem law_from {H : Hp} (inK : K.In s1.heap) (nsG : s1.heap.Ns mainGlobals mg) (nsB : s1.heap.Ns builtinsNs mb) (boot : ∀ x : Str, x ≠ "__name__" → mb x = bootBuiltins x) (lim : s1.heap.NoLimit) (noG : s1.gens = #[])
    (scr : s1.heap.get? a = some (scrO vs)) (room : Room k callerA)
    (F : ∀ base : Heap, K.In base → base.Ns mainGlobals mg → FnG P w K mg base k fa fd [x] spec) (bind : ∀ (s : Shared) (u : Value), BindsTo s fd ⟨[u], []⟩ [(x, u)])
    (hH : ∀ b, H b = none ∨ (b = a ∧ K.lookup a = none ∧ H b = some (.frz (scrO vs) (.lst (ns.map V.int))))) (ok : HOk P w H s1.heap) (hs : lSp K spec [.ref a] H (fun v _ => v = .bl true) fun _ _ _ => False) :
    codeAny (model P w) callerA (.call (.ref fa) ⟨[.ref a], []⟩) (fun r s' => r = .ok (.ret (.bool true)) ∧ OldK s1.heap s'.heap ∧ s'.os = s1.os ∧ AllBare s'.gens) s1 := by
  have dicts : ∀ {b : Addr} {m : Str → Option Value}, s1.heap.Ns b m → (hidT s1.heap H).Ns b m := by
    rintro b m ⟨o, es, ep, ho, hd, r⟩
    refine ⟨o, es, ep, hidT_get ho ?_, hd, r⟩
    rcases hH b with z | ⟨z, _, _⟩
    · exact z
    · rw [z, scr] at ho
      cases ho
      cases hd
  have inK2 : K.In (hidT s1.heap H) := fun b o e => hidT_get (inK b o e) (by
    rcases hH b with z | ⟨z, z2, _⟩
    · exact z
    · rw [z, z2] at e; cases e)
  have M : Mod K mg (hidT s1.heap H) := ⟨inK2, dicts nsG, ⟨mb, dicts nsB, boot⟩, by
    obtain ⟨mc, h1, h2⟩ := lim
    exact ⟨mc, dicts h1, h2⟩⟩
  have E0 : Env0 P w K mg (hidT s1.heap H) callerA [] s1 H := ⟨rfl, M, fun _ _ e => of_hidT e, Nat.le_of_eq (hidT_size _ _), trivial, (fun b hb => by cases hb), ok, .of_eq noG⟩
  refine codeAny_mono ((F _ inK2 (dicts nsG)).run callerA [] s1 H ⟨[.ref a], []⟩ [.ref a] [.ref a] _ room rfl E0 (bind s1 (.ref a)) (.cons rfl .nil) hs) ?_
  rintro r s' ⟨u, rfl, v, H', os, bare, un, ok', rv, q⟩
  have q : v = .bl true := q
  subst q
  have eu : u = Value.bool true := rv
  subst eu
  refine ⟨rfl, OldK.of_keep fun b o e => ?_, os, bare⟩
  rcases hH b with z | ⟨_, _, z⟩
  · exact un.keep b o e z (fun z => by cases z) (fun z => by cases z)
  · have e1 := (ok b _ z).1
    have e2 := (ok' b _ (un.frzs b _ _ z)).1
    rw [e] at e1
    cases e1
    exact e2
theorem law_goes (inK : K.In s1.heap) (nsG : s1.heap.Ns mainGlobals mg) (nsB : s1.heap.Ns builtinsNs mb) (boot : ∀ x : Str, x ≠ "__name__" → mb x = bootBuiltins x) (lim : s1.heap.NoLimit) (noG : s1.gens = #[])
    (scr : s1.heap.get? a = some (scrO vs)) (numb : IntsAre vs ns) (fits : ns.length ≤ sizeLine) (room : Room k callerA)
    (F : ∀ base : Heap, K.In base → base.Ns mainGlobals mg → FnG P w K mg base k fa fd [x] spec) (bind : ∀ (s : Shared) (u : Value), BindsTo s fd ⟨[u], []⟩ [(x, u)])
    (hs : ∀ H : Hp, SqL K H a (ns.map V.int) → lSp K spec [.ref a] H (fun v _ => v = .bl true) fun _ _ _ => False) :
    codeAny (model P w) callerA (.call (.ref fa) ⟨[.ref a], []⟩) (fun r s' => r = .ok (.ret (.bool true)) ∧ OldK s1.heap s'.heap ∧ s'.os = s1.os ∧ AllBare s'.gens) s1 := by
  have rv := vals_ints numb
  cases own : K.lookup a with
  | some o =>
    have e := inK a o own
    rw [scr] at e
    cases e
    exact law_from (H := fun _ => none) (ns := ns) inK nsG nsB boot lim noG scr room F bind (fun b => .inl rfl) (fun b u z => nomatch z) (hs _ (.inr ⟨_, vs.toArray, _, own, rfl, rfl, rfl, by rw [List.size_toArray, numb.length]; exact fits, by simpa using rv⟩))
  | none =>
    have at_ : (fun b => if b = a then some (HO.frz (scrO vs) (.lst (ns.map V.int))) else none : Hp) a = some (.frz (scrO vs) (.lst (ns.map V.int))) := if_pos rfl
    refine law_from (H := fun b => if b = a then some (HO.frz (scrO vs) (.lst (ns.map V.int))) else none) (ns := ns) inK nsG nsB boot lim noG scr room F bind (fun b => ?_) (fun b u z => ?_) (hs _ (.inl (.inr ⟨_, at_⟩)))
    · by_cases e : b = a
      · exact .inr ⟨e, own, if_pos e⟩
      · exact .inl (if_neg e)
    · by_cases e : b = a
      · have z := (if_pos e).symm.trans z
        cases z
        subst e
        exact ⟨scr, by rw [List.length_map]; exact fits, vs, _, rv, scr⟩
      · have z := (if_neg e).symm.trans z
        cases z
theorem walk_G {l : PySem.W.OpenLaw} {n k : Nat} {q : Program} {loose : List Str} {XP : (Str → Option Value) → Heap → Prop} {YP : World → Heap → Prop} {d : DefRec} {K : Params → PySem.W.Frag} {spec : Ctr} {x : Str}
    (hn : l.most = some n) (hn2 : n ≤ sizeLine) (hdf : d.params.defaults = []) (hr : Room k callerA) (hY : ∀ (w : World) (h : Heap), YP w h → (K w.params).In h)
    (F : ∀ (w : World) (mg : Str → Option Value) (fa : Addr) (h : Heap), (K w.params).In h → h.Ns mainGlobals mg → mg d.name = some (.ref fa) →
      ∃ fd : FuncData, (∀ (s : Shared) (u : Value), BindsTo s fd ⟨[u], []⟩ [(x, u)]) ∧ ∀ base : Heap, (K w.params).In base → base.Ns mainGlobals mg → FnG l.prog w (K w.params) mg base k fa fd [x] spec)
    (hsp : ∀ (w : World) (H : Hp) (a : Addr) (ns : List Int), ns.length ≤ n → SqL (K w.params) H a (ns.map V.int) → lSp (K w.params) spec [.ref a] H (fun v _ => v = .bl true) fun _ _ _ => False) :
    PySem.W.WalkO q loose XP YP l.row.toRowW d [] (fun f vs => PySem.call f vs) := by
  refine Att.attach_call hn hdf fun w s0 s1 mg mb fa o pm cd doc a vs ns G Y ho hd hcd hmg hobj hints hlen hg => ?_
  obtain ⟨fd, hb, hF⟩ := F w mg fa _ (hY w _ Y) G.T.g hmg
  exact law_goes (hY w _ Y) G.T.g G.T.b G.T.builtins G.T.nolimit hg hobj hints (Nat.le_trans hlen hn2) hr hF hb fun H hS => hsp w H a ns hlen hS
end
end DL
set_option Elab.async false
set_option linter.all false
set_option maxRecDepth 100000
set_option maxHeartbeats 1000000
/-! The data layer, part u: sum and max of a tuple. -/
namespace DL
open PySem PySem.Spec PyProof.Rows L2
section
variable {X : Cx}
theorem cr_sumT (hc : X.calm = true) : CallR X (.builtin "sum") (fun vs H Q => ∃ (a : Addr) (ns : List Int), vs = [V.ref a] ∧ SqT X.K H a (ns.map V.int) ∧ Q (.int ns.sum) H) := by
  rintro pins s σ H vs us Q I r ⟨a, ns, rfl, hs, q⟩
  obtain ⟨its, rv, pl, _⟩ := I.tuple hs
  rw [Vals.ref1 r]
  have hi := rv.ints
  obtain ⟨xs, e⟩ := hi.allInts.items
  have hn : numsOf (intItems xs).toList = ns := by rw [← e]; exact hi.numsOf
  rw [nums_intItems] at hn
  rw [e] at pl
  refine PySem.W.ktm_sumG (I.ok.hd hc) pl fun h' tk t' hk => ?_
  rw [preSum_eq, List.take_of_length_le (by simp), hn]
  exact ⟨.int _, H, I.kept (t' := tk) hk, ⟨_, rfl⟩, q⟩
theorem dpAll_numbers {K : PySem.W.Frag} {H : Hp} : ∀ ns : List Int, DpAll K H (ns.map V.int) (ns.map PyData.int)
  | [] => .nil
  | n :: r => .cons (.int n) (dpAll_numbers r)
theorem depth_numbers : ∀ ns : List Int, PyData.depthAll (ns.map PyData.int) = 0
  | [] => rfl
  | n :: r => by
    show max (PyData.int n).depth (PyData.depthAll (r.map PyData.int)) = 0
    rw [depth_numbers r]; rfl
theorem alike_numbers (ns : List Int) : PySem.W.AlikeAll (ns.map PyData.int) := by
  refine ⟨fun x hx y hy => ?_, fun x hx => ?_⟩
  · obtain ⟨a, _, rfl⟩ := List.mem_map.mp hx
    obtain ⟨b, _, rfl⟩ := List.mem_map.mp hy
    rfl
  · obtain ⟨a, _, rfl⟩ := List.mem_map.mp hx
    exact fun z => nomatch z
theorem cr_maxT (hc : X.calm = true) (hu : X.A.units + 64 < cLine) : CallR X (.builtin "max") (fun vs H Q => ∃ (a : Addr) (n : Int) (ns : List Int), vs = [V.ref a] ∧ SqT X.K H a ((n :: ns).map V.int) ∧ Q (.int (ns.foldl max n)) H) := by
  rintro pins s σ H vs us Q I r ⟨a, n, ns, rfl, hs, q⟩
  obtain ⟨its, rv, pl, _⟩ := I.tuple hs
  rw [Vals.ref1 r]
  obtain ⟨as, ra⟩ := Dp.readsAll I _ _ _ (dpAll_numbers (n :: ns)) rv
  refine PySem.W.max_tuple_data (x := .int n) (xs := ns.map PyData.int) (I.ok.hd hc) pl ra (alike_numbers (n :: ns)) (by rw [← List.map_cons, depth_numbers]; omega) fun i v h' tk bs hi rr hk => ?_
  rw [PySem.W.maxD_ints] at rr
  cases rr with
  | int _ t => exact ⟨.int _, H, I.kept (t' := tk) hk, ⟨t, rfl⟩, q⟩
/-- sum and max of a list or a tuple of ints -/
def oSumA : OC := fun S ds Q => one ds fun d => some! (seqA S d) fun xs => some! (toInts xs) fun bs => Q (.int bs.sum) S
def oMaxA : OC := fun S ds Q => one ds fun d => some! (seqA S d) fun xs => some! (toInts xs) fun bs => 0 < bs.length ∧ ∀ m, m ∈ bs → (∀ y, y ∈ bs → y ≤ m) → Q (.int m) S
theorem rowI {K : PySem.W.Frag} {W : Hp} {S : Sto} {H : Hp} {d : D} {v : V} {k : List Int → Prop} (ok : Ok K W S H) (r : Rep K W d v) (h : some! (seqA S d) fun xs => some! (toInts xs) k) : ∃ a ns, v = .ref a ∧ (SqL K H a (ns.map V.int) ∨ SqT K H a (ns.map V.int)) ∧ k ns := by
  obtain ⟨xs, e1, h⟩ := some!_ex h
  obtain ⟨bs, e2, h⟩ := some!_ex h
  obtain ⟨p, vs, rfl, hq, r1⟩ := seqA_rep ok r e1
  rw [toInts_rep e2 r1] at hq
  exact ⟨p, bs, rfl, hq, h⟩
theorem cd_sumA (hc : X.calm = true) : CallR X (.builtin "sum") (lC X.K oSumA) := CallR.imp ((cr_sum hc).or (cr_sumT hc)) fun vs H Q ⟨W, S, ds, Q0, ok, r, ho, cv⟩ => by
  obtain ⟨d, rfl, ho⟩ := one_ex ho
  obtain ⟨v, rfl, rv⟩ := reps1 r
  obtain ⟨a, bs, rfl, h1, h2⟩ := rowI ok rv ho
  rcases h1 with h1 | h1
  · exact .inl ⟨a, bs, rfl, h1, cv _ S _ W H h2 Stp.refl ok rfl⟩
  · exact .inr ⟨a, bs, rfl, h1, cv _ S _ W H h2 Stp.refl ok rfl⟩
theorem fold_max : ∀ (ns : List Int) (n : Int), ns.foldl max n ∈ n :: ns ∧ ∀ y, y ∈ n :: ns → y ≤ ns.foldl max n
  | [], n => ⟨List.mem_cons_self, fun y hy => by rw [List.mem_singleton.mp hy]; exact Int.le_refl _⟩
  | m :: r, n => by
    obtain ⟨h1, h2⟩ := fold_max r (max n m)
    have hb := h2 (max n m) List.mem_cons_self
    refine ⟨?_, fun y hy => ?_⟩
    · show r.foldl max (max n m) ∈ _
      rcases List.mem_cons.mp h1 with h | h
      · rw [h]
        by_cases z : n ≤ m
        · rw [Int.max_eq_right z]; exact List.mem_cons_of_mem _ List.mem_cons_self
        · rw [Int.max_eq_left (by omega)]; exact List.mem_cons_self
      · exact List.mem_cons_of_mem _ (List.mem_cons_of_mem _ h)
    · show y ≤ r.foldl max (max n m)
      rcases List.mem_cons.mp hy with rfl | hy
      · omega
      · rcases List.mem_cons.mp hy with rfl | hy
        · omega
        · exact h2 y (List.mem_cons_of_mem _ hy)
theorem cd_maxA (hc : X.calm = true) (hu : X.A.units + 64 < cLine) : CallR X (.builtin "max") (lC X.K oMaxA) := CallR.imp ((cr_max hc).or (cr_maxT hc hu)) fun vs H Q ⟨W, S, ds, Q0, ok, r, ho, cv⟩ => by
  obtain ⟨d, rfl, ho⟩ := one_ex ho
  obtain ⟨v, rfl, rv⟩ := reps1 r
  obtain ⟨a, bs, rfl, h1, h2, h3⟩ := rowI ok rv ho
  rcases h1 with h1 | h1
  · exact .inl ⟨a, bs, rfl, h1, h2, fun m q1 q2 => cv _ S _ W H (h3 m q1 q2) Stp.refl ok rfl⟩
  · cases bs with
    | nil => cases h2
    | cons n ns =>
      obtain ⟨m1, m2⟩ := fold_max ns n
      exact .inr ⟨a, n, ns, rfl, h1, cv _ S _ W H (h3 _ m1 m2) Stp.refl ok rfl⟩
end
end DL
set_option Elab.async false
set_option linter.all false
set_option maxRecDepth 100000
set_option maxHeartbeats 2000000
/-! The data layer, part v: zip of lists and tuples in any mix. -/
namespace DL
open PySem PySem.Spec PyProof.Rows L2
/-- a tuple, or a list -/
def SqK (t : Bool) (K : PySem.W.Frag) (H : Hp) (a : Addr) (xs : List V) : Prop := match t with
  | true => SqT K H a xs
  | false => SqL K H a xs
def IterK (t : Bool) (h : Heap) (it a : Addr) (i : Nat) : Prop := match t with
  | true => h.IsTupleIter it a i
  | false => h.IsListIter it a i
def SeqK (t : Bool) (h : Heap) (a : Addr) (its : Array Value) : Prop := match t with
  | true => h.IsTuple a its
  | false => h.IsList a its
theorem IterK.obj {t : Bool} {h : Heap} {it a : Addr} {i : Nat} (s : IterK t h it a i) : ∃ o, h.get? it = some o ∧ ∀ v, o.data ≠ .cell v := by
  cases t with
  | true => obtain ⟨o, e, _, d⟩ := s; exact ⟨o, e, fun v q => by rw [d] at q; cases q⟩
  | false => obtain ⟨o, e, _, d⟩ := s; exact ⟨o, e, fun v q => by rw [d] at q; cases q⟩
theorem IterK.at {t : Bool} {h h' : Heap} {it a : Addr} {i : Nat} (s : IterK t h it a i) (k : ∀ o, h.get? it = some o → h'.get? it = some o) : IterK t h' it a i := by
  cases t with
  | true => exact Heap.IsTupleIter.at s k
  | false => exact Heap.IsListIter.at s k
theorem SeqK.lt {t : Bool} {h : Heap} {a : Addr} {its : Array Value} (s : SeqK t h a its) : a < h.objs.size := by
  cases t with
  | true => obtain ⟨o, e, _⟩ := s; exact Heap.lt_size e
  | false => obtain ⟨o, e, _⟩ := s; exact Heap.lt_size e
theorem drawsK {t : Bool} {prog : Program} {w : World} {A : Around} (hh : A.handled = none) (it a : Addr) (hne : a ≠ it) (its : Array Value) :
    Draws prog w A it [it, a] its.size (fun i v => its[i]? = some v) (fun i h => IterK t h it a i ∧ SeqK t h a its) := by
  cases t with
  | true => exact Draws.tuple hh it a hne its
  | false => exact Draws.list hh it a hne its
theorem sqK_at {X : Cx} {pins : List (Addr × Obj)} {σ : L2.St} {H : Hp} {s : Shared} {t : Bool} {a : Addr} {xs : List V} (I : L2.Inv X pins σ H s) (h : SqK t X.K H a xs) : ∃ its : List Value, Vals xs its ∧ SeqK t s.heap a its.toArray := by
  cases t with
  | true => obtain ⟨its, rv, p, _⟩ := I.tuple h; exact ⟨its, rv, p⟩
  | false => obtain ⟨its, rv, p, _⟩ := I.list h; exact ⟨its, rv, p.isList⟩
theorem sqK_inj {X : Cx} {pins : List (Addr × Obj)} {σ : L2.St} {H : Hp} {s : Shared} {t : Bool} {a : Addr} {xs ys : List V} (I : L2.Inv X pins σ H s) (h : SqK t X.K H a xs) (h2 : SqK t X.K H a ys) : xs = ys := by
  cases t with
  | true => exact I.tuple_inj h h2
  | false => exact I.list_inj h h2
def beginK (t : Bool) (a : Addr) : Obj := match t with
  | true => { cls := .type "tuple_iterator", data := .fields #[.ref a, .int 0 0] }
  | false => { cls := .type "list_iterator", data := .fields #[.ref a, .int 0 0] }
theorem beginsK {t : Bool} (a : Addr) (its : Array Value) : PySem.Begins (.ref a) (beginK t a) fun h => SeqK t h a its := by
  cases t with
  | true => exact begins_tuple a its
  | false => exact begins_list a its
theorem iterK_0 {t : Bool} {h : Heap} {it a : Addr} (e : h.get? it = some (beginK t a)) : IterK t h it a 0 := by
  cases t with
  | true => exact ⟨_, e, rfl, rfl⟩
  | false => exact ⟨_, e, rfl, rfl⟩
/-- the two as they stand at each turn, the items in new pairs -/
def ItzK (t u : Bool) (K : PySem.W.Frag) (a b : Addr) : It :=
  ⟨fun i H => ∃ (xs ys : List V) (x y : V), SqK t K H a xs ∧ SqK u K H b ys ∧ xs[i]? = some x ∧ ys[i]? = some y,
    fun i H v H' => ∃ T x y, v = .ref T ∧ H T = none ∧ H' = upd H T (.tup [x, y]) ∧ (∀ xs, SqK t K H a xs → xs[i]? = some x) ∧ ∀ ys, SqK u K H b ys → ys[i]? = some y,
    fun i H => ∃ xs ys : List V, SqK t K H a xs ∧ SqK u K H b ys ∧ i ≤ xs.length ∧ i ≤ ys.length ∧ (i = xs.length ∨ i = ys.length)⟩
theorem turn_zipK {t u : Bool} {P : Program} {w : World} {K : PySem.W.Frag} {elts : List Expr} {kk : Nat} {tpos : Pos} {a b z TI TO i1 i2 : Addr} (D : ZipSep2 z TI TO i1 i2 [i1, a] [i2, b]) (n1 : a ≠ i1) (n2 : b ≠ i2) :
    Turn P w K (.Tuple elts kk tpos) (ItzK t u K a b) [z, TI, TO, i1, i2] z (fun i h => IsZip h z TI TO .none ∧ IsTupOf2 h TI (.ref i1) (.ref i2) ∧ (∃ x y, IsTupOf2 h TO x y) ∧ IterK t h i1 a i ∧ IterK u h i2 b i) where
  mem := by simp
  obj := fun i h st c hc => by
    obtain ⟨hz, hTI, ⟨x, y, hTO⟩, h1, h2⟩ := st
    have e' : c = z ∨ c = TI ∨ c = TO ∨ c = i1 ∨ c = i2 := by simpa using hc
    rcases e' with q | q | q | q | q
    · rw [q]; exact ⟨_, hz, fun v q => nomatch q⟩
    · rw [q]; exact ⟨_, hTI, fun v q => nomatch q⟩
    · rw [q]; exact ⟨_, hTO, fun v q => nomatch q⟩
    · rw [q]; exact h1.obj
    · rw [q]; exact h2.obj
  keep := fun i h h' st k => by
    obtain ⟨hz, hTI, ⟨x, y, hTO⟩, h1, h2⟩ := st
    exact ⟨k z (by simp) _ hz, k TI (by simp) _ hTI, ⟨x, y, k TO (by simp) _ hTO⟩, h1.at fun o q => k i1 (by simp) o q, h2.at fun o q => k i2 (by simp) o q⟩
  item := by
    intro X hP hw hK hc i pins s σ H E I hf st hg
    subst hP hw hK
    obtain ⟨hz, hTI, ⟨x0, y0, hTO⟩, h1, h2⟩ := st
    obtain ⟨xs, ys, x, y, hqx, hqy, hx, hy⟩ := hg
    obtain ⟨its, rv, p⟩ := sqK_at I hqx
    obtain ⟨its2, rv2, p2⟩ := sqK_at I hqy
    obtain ⟨v1, hv1, ru⟩ := rv.get hx
    obtain ⟨v2, hv2, ru2⟩ := rv2.get hy
    have hzl : z < s.heap.objs.size := Heap.lt_size hz
    have hh : X.A.in1.handled = Option.none := I.ok.hd hc
    have hlt1 : i < its.toArray.size := by have := lt_of_some hv1; simpa using this
    have hlt2 : i < its2.toArray.size := by have := lt_of_some hv2; simpa using this
    refine wpAny_pyNext_zipD2_item D (drawsK hh i1 a n1 its.toArray) (drawsK hh i2 b n2 its2.toArray) hz hTI hTO ⟨h1, p⟩ ⟨h2, p2⟩ hlt1 hlt2 fun x1 x2 h' tk q1 q2 z' TO' s1 s2 hT hsz hk => ?_
    have e1 : x1 = v1 := by
      have : its[i]? = some x1 := by simpa using q1
      rw [hv1] at this; exact (Option.some.inj this).symm
    have e2 : x2 = v2 := by
      have : its2[i]? = some x2 := by simpa using q2
      rw [hv2] at this; exact (Option.some.inj this).symm
    subst e1 e2
    refine ⟨_, rfl, wpAny_letOwnedTupleGo_zip (s := { s with heap := h', toks := tk }) z' fun h'' z'' sb => ?_⟩
    have hT2 : h''.get? s.heap.objs.size = some { cls := .type "tuple", data := .seq #[x1, x2] } := (sb.2 _ (Nat.ne_of_gt hzl)).trans hT
    have new : ObjOk X.prog X.w (upd H s.heap.objs.size (.tup [x, y])) h'' s.heap.objs.size (.tup [x, y]) :=
      ⟨by show 2 ≤ sizeLine; decide, [x1, x2], .cons ru (.cons ru2 .nil), ⟨_, hT2, rfl, _, rfl⟩⟩
    have I1 : L2.Inv X pins σ (upd H s.heap.objs.size (.tup [x, y])) { s with heap := h'', toks := tk } :=
      I.turnedNew (t' := tk) (ch := [z, TI, TO, i1, i2]) (fun c o hb q => (sb.2 c (fun q' => hb (by simp [q']))).trans (hk c o (fun q' => hb (by simp [q'])) (fun q' => hb (by simp [q'])) (fun q' => hb (by simp [q'])) (fun q' => hb (by simp [q'])) q)) hf (Nat.le_refl _) new
    refine ⟨.ref s.heap.objs.size, _, I1, rfl, ⟨_, x, y, rfl, I.hok.fresh (Nat.le_refl _), rfl, fun l hl => by rw [sqK_inj I hl hqx]; exact hx, fun l hl => by rw [sqK_inj I hl hqy]; exact hy⟩, ⟨z'', ?_, ⟨x1, x2, ?_⟩, ?_, ?_⟩, fun c hcm => ?_⟩
    · exact (sb.2 _ D.TIz).trans (hk _ _ D.TIz D.TITO D.TIi1 D.TIi2 hTI)
    · exact (sb.2 _ D.TOz).trans TO'
    · exact s1.1.at fun o q => (sb.2 _ (Ne.symm D.zi1)).trans q
    · exact s2.1.at fun o q => (sb.2 _ (Ne.symm D.zi2)).trans q
    · have hlt : c < s.heap.objs.size := by
        have e' : c = z ∨ c = TI ∨ c = TO ∨ c = i1 ∨ c = i2 := by simpa using hcm
        rcases e' with q | q | q | q | q
        · rw [q]; exact hzl
        · rw [q]; exact Heap.lt_size hTI
        · rw [q]; exact Heap.lt_size hTO
        · rw [q]; obtain ⟨_, e1, _⟩ := h1.obj; exact Heap.lt_size e1
        · rw [q]; obtain ⟨_, e1, _⟩ := h2.obj; exact Heap.lt_size e1
      rw [upd_ne (Nat.ne_of_lt hlt)]
      exact (hf c hcm).1
  done := by
    intro X hP hw hK hc i pins s σ H E I hf st hg
    subst hP hw hK
    obtain ⟨hz, hTI, ⟨x0, y0, hTO⟩, h1, h2⟩ := st
    obtain ⟨xs, ys, hqx, hqy, l1, l2, hend⟩ := hg
    obtain ⟨its, rv, p⟩ := sqK_at I hqx
    obtain ⟨its2, rv2, p2⟩ := sqK_at I hqy
    have l3 := rv.length
    have l4 := rv2.length
    have hh : X.A.in1.handled = Option.none := I.ok.hd hc
    exact wpAny_pyNext_zipD2_end D (drawsK hh i1 a n1 its.toArray) (drawsK hh i2 b n2 its2.toArray) hz hTI hTO ⟨h1, p⟩ ⟨h2, p2⟩ (by simp; omega) (by simp; omega) (by simp; omega) fun h' tk hk =>
      ⟨rfl, I.turnedL (t' := tk) (ch := [z, TI, TO, i1, i2]) (fun c o hb q => hk c o (fun q' => hb (by simp [q'])) (fun q' => hb (by simp [q'])) (fun q' => hb (by simp [q'])) (fun q' => hb (by simp [q'])) q) hf⟩
  self := fun A i s Q E st h => wpAny_pyIter_zip st.1 h
def iZipK (K : PySem.W.Frag) (ta : TA) : TI := fun σ H R => ta σ H fun vs H1 => ∃ (a b : Addr) (t u : Bool), vs = [.ref a, .ref b] ∧ (∃ xs, SqK t K H1 a xs) ∧ (∃ ys, SqK u K H1 b ys) ∧ R (ItzK t u K a b) H1
theorem pi_zipK {X : Cx} {e e2 : Expr} {ta : TA} {p pos tpos : Pos} {elts : List Expr} {kk : Nat} (hg : Gl X "zip") (hm : X.mg "zip" = none) (ha : PA X [e, e2] ta)
    (hs : starEach [e, e2] X.env = (false, eval e X.env) :: starEach [e2] X.env := by rfl) (hpl : (backTo pos (starEach [e2] X.env)).any (·.1) = false := by rfl) :
    PI X (.Tuple elts kk tpos) (.Call (.Name "zip" p) [e, e2] [] pos) (iZipK X.K ta) := by
  refine ⟨fun pins s σ H R I h => ?_⟩
  refine Call_ (ld_blt I hg hm PyProof.Rows.boot_zip (PyProof.Rows.callWith_type1 (thn (ha.run pos pins s σ H _ I h) fun us s1 ⟨vs, H1, I1, r1, q1⟩ => ?_) hs hpl))
  obtain ⟨a, b, t, u, ex, ⟨xs, hqx⟩, ⟨ys, hqy⟩, q⟩ := q1
  subst ex
  cases r1 with
  | cons r rr =>
    cases rr with
    | cons r' rr =>
      cases rr
      cases r
      cases r'
      have fresh5 : ∀ c, c ∈ [s1.heap.objs.size + 4, s1.heap.objs.size + 2, s1.heap.objs.size + 3, s1.heap.objs.size, s1.heap.objs.size + 1] → FpOk X pins H1 c := fun c hcm => by
        have e' : c = s1.heap.objs.size + 4 ∨ c = s1.heap.objs.size + 2 ∨ c = s1.heap.objs.size + 3 ∨ c = s1.heap.objs.size ∨ c = s1.heap.objs.size + 1 := by simpa using hcm
        have hle : s1.heap.objs.size ≤ c := by omega
        exact I1.fpOk hle (I1.hok.fresh hle)
      obtain ⟨its, rv, p1⟩ := sqK_at I1 hqx
      obtain ⟨its2, rv2, p2⟩ := sqK_at I1 hqy
      refine zip_begins2 (beginsK a its.toArray) (beginsK b its2.toArray) p1 p2 fun h' hz hTI hTO h1 h2 hsz hk => wpAny_pyIter_zip hz ?_
      have I2 : L2.Inv X pins σ H1 { s1 with heap := h' } := I1.kept (t' := s1.toks) hk
      have la := p1.lt
      have lb := p2.lt
      exact ⟨s1.heap.objs.size + 4, [s1.heap.objs.size + 4, s1.heap.objs.size + 2, s1.heap.objs.size + 3, s1.heap.objs.size, s1.heap.objs.size + 1], _, _, H1, rfl, I2,
        turn_zipK (PySem.zip_sep2 (fp1 := [a]) (fp2 := [b]) (fun c hc => by rw [List.mem_singleton] at hc; subst hc; exact la) (fun c hc => by rw [List.mem_singleton] at hc; subst hc; exact lb)) (Nat.ne_of_lt la) (Nat.ne_of_lt (Nat.lt_succ_of_lt lb)), ⟨hz, hTI, ⟨_, _, hTO⟩, iterK_0 h1, iterK_0 h2⟩, fresh5, q⟩
/-- pairs, as many as the shorter has -/
def zipD (xs ys : List D) : List D := (xs.zip ys).map fun p => .tup [p.1, p.2]
theorem zipD_get {xs ys : List D} {i : Nat} {d : D} (h : (zipD xs ys)[i]? = some d) : ∃ x y, xs[i]? = some x ∧ ys[i]? = some y ∧ d = .tup [x, y] := by
  unfold zipD at h
  rw [List.getElem?_map] at h
  obtain ⟨p, hp, rfl⟩ := Option.map_eq_some_iff.mp h
  obtain ⟨h1, h2⟩ := List.getElem?_zip_eq_some.mp hp
  exact ⟨p.1, p.2, h1, h2, rfl⟩
theorem zipD_length {xs ys : List D} : (zipD xs ys).length = min xs.length ys.length := by
  unfold zipD
  rw [List.length_map, List.length_zip]
def wZip (wa wb : WPe) : WPi := fun env S Q X => wa env S (fun d S1 => wb env S1 (fun e S2 => some! (seqA S2 d) fun xs => some! (seqA S2 e) fun ys => Q (zipD xs ys) (fun S' => seqA S' d = some xs ∧ seqA S' e = some ys) S2) X) X
section
variable {K : PySem.W.Frag}
/-- what stands at an address, again and again -/
theorem seqK_rep {W0 : Hp} {S0 : Sto} {H0 : Hp} {d : D} {v : V} {xs : List D} (ok : Ok K W0 S0 H0) (r : Rep K W0 d v) (h : seqA S0 d = some xs) : ∃ (a : Addr) (t : Bool), v = .ref a ∧ ∀ W S H, Same W0 W → Ok K W S H → seqA S d = some xs → ∃ vs, SqK t K H a vs ∧ Reps K W xs vs := by
  obtain ⟨a, vs, rfl, _, _⟩ := seqA_rep ok r h
  have li : (∀ {S}, seqA S d = seqL S d) → ∀ W S H, Same W0 W → Ok K W S H → seqA S d = some xs → ∃ vs, SqK false K H a vs ∧ Reps K W xs vs := fun hA W S H s1 ok1 g => by
    rw [hA] at g
    obtain ⟨c, zs, e7, e8, e9⟩ := seqL_rep ok1 (r.mono s1) g
    cases e7
    exact ⟨zs, e8, e9⟩
  cases d with
  | tup ys =>
    cases h
    obtain ⟨b, ws, e1, e2, e3⟩ := r
    cases e1
    exact ⟨_, true, rfl, fun W S H s1 ok1 _ => ⟨ws, sqT_mono (s1.trans ok1.vis) e2, e3.mono s1⟩⟩
  | lst ys => exact ⟨_, false, rfl, li rfl⟩
  | fro ys => exact ⟨_, false, rfl, li rfl⟩
  | ref b => exact ⟨_, false, rfl, li rfl⟩
  | _ => cases h
end
theorem pdi_zip {X : Cx} {e e2 : Expr} {wa wb : WPe} {p pos tpos : Pos} {elts : List Expr} {kk : Nat} (hm : X.mg "zip" = none) (ha : PD X e wa) (hb : PD X e2 wb) (hg : Gl X "zip" := by rfl)
    (hs : starEach [e, e2] X.env = (false, eval e X.env) :: starEach [e2] X.env := by rfl) (hs2 : starEach [e2] X.env = (false, eval e2 X.env) :: starEach [] X.env := by rfl) (hpl : (backTo pos (starEach [e2] X.env)).any (·.1) = false := by rfl) :
    PDi X (.Tuple elts kk tpos) (.Call (.Name "zip" p) [e, e2] [] pos) (wZip wa wb) :=
  ⟨fun Wx tk => PI.imp (pi_zipK hg hm (pa_cons (ha.run Wx tk) (pa_cons (hb.run Wx tk) pa_nil hs2) hs) hs hpl) fun σ H R ⟨W, env, S, Q0, X1, ok, sl, hw, cv, cx⟩ => ⟨W, env, S, _, X1, ok, sl, hw, fun d S1 v W1 H1 h1 s1 ok1 r1 =>
    ⟨W1, env, S1, _, X1, ok1, sl.mono s1.vis, h1, fun d2 S2 v2 W2 H2 h2 s2 ok2 r2 => by
    obtain ⟨xs, e1, h2⟩ := some!_ex h2
    obtain ⟨ys, e3, h2⟩ := some!_ex h2
    have r1' := r1.mono s2.vis
    obtain ⟨a, t, rfl, ka⟩ := seqK_rep ok2 r1' e1
    obtain ⟨b, u, rfl, kb⟩ := seqK_rep ok2 r2 e3
    obtain ⟨vs, q1, _⟩ := ka W2 S2 H2 (Same.refl W2) ok2 e1
    obtain ⟨ws, q2, _⟩ := kb W2 S2 H2 (Same.refl W2) ok2 e3
    refine ⟨a, b, t, u, rfl, ⟨vs, q1⟩, ⟨ws, q2⟩, cv _ _ S2 W2 H2 _ h2 (s1.trans s2) ok2 ⟨fun i W S H d' hd s3 ok3 ⟨g1, g2⟩ => ?_, fun W S H s3 ok3 ⟨g1, g2⟩ => ?_⟩⟩
    · obtain ⟨x, y, hx, hy, rfl⟩ := zipD_get hd
      obtain ⟨vs3, q3, rv3⟩ := ka W S H s3 ok3 g1
      obtain ⟨ws3, q4, rw3⟩ := kb W S H s3 ok3 g2
      obtain ⟨v1, hv1, ru1⟩ := rv3.get hx
      obtain ⟨v2, hv2, ru2⟩ := rw3.get hy
      refine ⟨⟨vs3, ws3, v1, v2, q3, q4, hv1, hv2⟩, fun x' H' ⟨T, y1, y2, e4, e5, e6, e7, e8⟩ => ?_⟩
      subst e4 e6
      have e9 := e7 vs3 q3
      rw [hv1] at e9
      cases e9
      have e10 := e8 ws3 q4
      rw [hv2] at e10
      cases e10
      have n := ok3.fresh e5
      exact ⟨_, ok3.stW e5, ok3.newW e5, T, _, rfl, SqT.of upd_same, _, _, rfl, ru1.mono (same_new n.1), _, _, rfl, ru2.mono (same_new n.1), rfl⟩
    · obtain ⟨vs3, q3, rv3⟩ := ka W S H s3 ok3 g1
      obtain ⟨ws3, q4, rw3⟩ := kb W S H s3 ok3 g2
      have l1 := rv3.length
      have l2 := rw3.length
      rw [zipD_length]
      exact ⟨vs3, ws3, q3, q4, by omega, by omega, by omega⟩, cx.mono s1⟩, cx⟩⟩
end DL
set_option Elab.async false
set_option linter.all false
set_option maxRecDepth 100000
set_option maxHeartbeats 2000000
/-! The data layer, part w: classes called by keyword, keyword-only parameters with defaults, constant tuples. -/
namespace DL
open PySem PySem.Spec PyProof.Rows L2
section
variable {X : Cx} {C : Addr} {k n m : Nat} {f : Addr} {fd : FuncData} {ps ks : List Str} {perm : List Nat} {spec : Ctr} {x : Str} {p pos : Pos} {e : Expr} {es : List Expr} {kws : List Keyword} {wa wk : WPa}
theorem run_makeKS {CX : CXT} {sp : Sp} {E : L2.St → XK} {g : List Value → List Value → List Value} {gV : List V → List V → List V} {pins : List (Addr × Obj)} {σ : L2.St} {H : Hp} {s : Shared} {Q : VK} {us ws : List Value} {vs zs : List V} (M : Mk X.K C f) (F : FnOk X.prog X.w X.K X.mg X.base CX k f fd ps sp) (hr : Room (k + 1) X.A)
    (hb : KBinds X.K fd ps ks g gV) (hx : PassesAt CX X σ (E σ)) (I : L2.Inv X pins σ H s) (r : Vals vs us) (rz : Vals zs ws)
    (h : ∀ x dx, H x = none → H dx = none → dx ≠ x → sp (gV (.ref x :: vs) zs) (upd (upd H dx (.own x)) x (.ins C dx [])) (fun v H2 => v = .non ∧ Q (.ref x) H2) (E σ)) :
    wpAny (model X.prog X.w) X.A (call (.ref C) us (ks.zip ws)) (EP X pins σ Q) X.xe s := by
  have hq := h (s.heap.objs.size + 1) s.heap.objs.size (I.hok.fresh (Nat.le_succ _)) (I.hok.fresh (Nat.le_refl _)) (Nat.ne_of_lt (Nat.lt_succ_self _))
  have I2 := Inv.made (C := C) I
  have r1 : Vals (V.ref (s.heap.objs.size + 1) :: vs) (Value.ref (s.heap.objs.size + 1) :: us) := .cons rfl r
  have r2 := hb.rel r1 rz
  have hl : (g (Value.ref (s.heap.objs.size + 1) :: us) ws).length = ps.length := by rw [← r2.length]; exact F.len _ _ _ _ hq
  refine wpAny_call (make_map (f := f) I.kIn M.makes M.init (beq_iff_eq.mp M.fn) (codeAny_mono (F.run _ X.stack _ _ ⟨Value.ref (s.heap.objs.size + 1) :: us, ks.zip ws⟩ (g (Value.ref (s.heap.objs.size + 1) :: us) ws) _ _ (E σ) (hr.make C us (ks.zip ws))
    (I2.env0.make C us (ks.zip ws)) (hb.to _ (Value.ref (s.heap.objs.size + 1) :: us) ws I2.kIn hl) r2 hq) fun r s' hq' => ?_))
  cases r with
  | error e => exact hx pins _ _ e s' I2 hq'
  | ok fl =>
    cases fl with
    | ret u =>
      obtain ⟨v, H', I3, rv, ev, q3⟩ := I2.after hq'
      subst ev
      exact ⟨rv, ⟨V.ref (s.heap.objs.size + 1), H', I3, rfl, q3⟩⟩
    | next => exact False.elim hq'
    | brk => exact False.elim hq'
    | cont => exact False.elim hq'
/-- C(e, .., k = v, ..): n positional values (the new instance among them), m by name -/
def wMakeK (C : Addr) (N : List Str) (spec : Ctr) (n m : Nat) (perm : List Nat) (wa wk : WPa) : WPe := fun env S Q X => wa env S (fun ds S1 => wk env S1 (fun es S2 => ∀ x, S2 x = none → spec (pickK n m perm (.ref x :: ds) es) (put S2 x (.ins C N (noneV N))) (fun r S3 => r = .non ∧ Q (.ref x) S3) X) X) X
theorem pd_makeK {N : List Str} (M : Mk X.K C f) (hN : N.Nodup) (hl : N.length ≤ 900) (F : FnD X.prog X.w X.K X.mg X.base k f fd ps spec) (hr : Room (k + 1) X.A) (hm : X.mg x = some (.ref C)) (hb : KBinds X.K fd ps ks (fun us ws => pickK n m perm us ws) (fun us ws => pickK n m perm us ws))
    (ha : PDa X (e :: es) wa) (hkw : PDk X kws wk) (hg : Gl X x := by rfl) (hdb : (x == ("__debug__" : Str)) = false := by decide) (hall : (backToKw pos (keywordEach kws X.env)).all (·.1.isSome) = true := by rfl) (hks : (backToKw pos (keywordEach kws X.env)).filterMap (·.1) = ks := by rfl)
    (he : starEach (e :: es) X.env = (false, eval e X.env) :: starEach es X.env := by rfl)
    (hpl : ((backTo pos (starEach (e :: es) X.env)).any (·.1) || (backToKw pos (keywordEach kws X.env)).any (·.1.isNone)) = false := by rfl) : PD X (.Call (.Name x p) (e :: es) kws pos) (wMakeK C N spec n m perm wa wk) := by
  refine ⟨fun Wx tk => ⟨fun pins s σ H Q I h => ?_⟩⟩
  obtain ⟨W, env, S, Q0, X1, ok, sl, hw, cv, cx⟩ := h
  refine wpAny_Call_Name_kw (ld_glob I hg hm ?_ hdb)
  have h1 : lA X.K Wx wa σ H fun vs H1 => lA X.K Wx wk σ H1 fun zs H2 => ∀ y dy, H2 y = none → H2 dy = none → dy ≠ y →
      lSp X.K spec (pickK n m perm (.ref y :: vs) zs) (upd (upd H2 dy (.own y)) y (.ins C dy [])) (fun v H3 => v = .non ∧ Q (.ref y) H3) fun c d H' => Wx c d σ H' := ⟨W, env, S, _, X1, ok, sl, hw, fun ds S1 vs W1 H1 h1 s1 ok1 r1 =>
    ⟨W1, env, S1, _, X1, ok1, sl.mono s1.vis, h1, fun es S2 zs W2 H2 h2 s2 ok2 r2 y dy hy hdy hne => by
      have hy2 : (upd H2 dy (HO.own y)) y = none := by rw [upd_ne (Ne.symm hne)]; exact hy
      have ok3 := (ok2.junk (o := .own y) hdy).newS (m := .ins C N (noneV N)) (o := .ins C dy []) hy2 ⟨dy, [], rfl, frep_new hN hl⟩
      have st := (ok2.stJ (o := .own y) hdy).trans (Ok.stS (m := .ins C N (noneV N)) (o := .ins C dy []) (ok2.junk (o := .own y) hdy) hy2)
      exact ⟨W2, _, pickK n m perm (.ref y :: ds) es, _, X1, ok3, reps_pickK (ds := .ref y :: ds) (vs := .ref y :: vs) ⟨_, _, rfl, rfl, r1.mono s2.vis⟩ r2, h2 y (ok2.fresh hy).2, fun d S3 v W3 H3 ⟨hd, h3⟩ s3 ok4 r4 => by
        subst hd
        exact ⟨r4, cv _ S3 _ W3 H3 h3 (s1.trans (s2.trans (st.trans s3))) ok4 rfl⟩, cx.mono (s1.trans (s2.trans st))⟩, cx.mono s1⟩, cx⟩
  refine PySem.W.callWith_KW (h₀ := X.base) I.ok.mod.kin M.kp hall (thn ((ha.run Wx tk).run pos pins s σ H _ I h1) fun us s1 ⟨vs, H1, I1, r, q⟩ => ?_) hpl he
  refine thn ((hkw.run Wx tk).run pos pins s1 σ H1 _ I1 q) fun ws s2 ⟨zs, H2, I2, rz, q2⟩ => ⟨I2.kIn, ?_⟩
  rw [hks]
  exact run_makeKS M F hr hb (passAt tk σ) I2 r rz q2
end
def MkAtK (K : PySem.W.Frag) (C : Addr) (qual : Str) (st : Stmt) (ps ks : List Str) (n m : Nat) (perm : List Nat) : Prop := ∃ f fd, Fun K "__init__" qual st f fd ∧ Mk K C f ∧ KBinds K fd ps ks (fun us ws => pickK n m perm us ws) (fun us ws => pickK n m perm us ws)
def MkCK (P : Program) (w : World) (K : PySem.W.Frag) (mg : Str → Option Value) (base : Heap) (C : Addr) (k : Nat) (ps ks : List Str) (n m : Nat) (perm : List Nat) (spec : Ctr) : Prop :=
  ∃ f fd, FnD P w K mg base k f fd ps spec ∧ Mk K C f ∧ KBinds K fd ps ks (fun us ws => pickK n m perm us ws) (fun us ws => pickK n m perm us ws)
theorem MkCK.mk {P : Program} {w : World} {K : PySem.W.Frag} {mg : Str → Option Value} {base : Heap} {C : Addr} {qual : Str} {st : Stmt} {N ps ks : List Str} {k n m : Nat} {perm : List Nat} {spec : Ctr} {ws : WPs} (D : MkAtK K C qual st ps ks n m perm) (S : FnScope N ps (defScope st)) (hle : ps.length ≤ N.length)
    (len : ∀ ds S Q E, spec ds S Q E → ds.length = ps.length)
    (hd : ∀ (f : Addr) (cdv : Value) (A : Around) (outer : List Env) (s : Shared) (H : Hp) (E : XK), Room k (A.deeper (envOfC qual (defScope st) s.heap.objs.size f cdv)) → PDss (cxOf (L2.CX P w) P w K mg base N qual (defScope st) f cdv A outer s H E) (defBody st) ws)
    (hr : ∀ ds S Q X1, spec ds S Q X1 → ws (startD N ds) S (endQ Q X1)) : MkCK P w K mg base C (k + 1) ps ks n m perm spec := by
  obtain ⟨f, fd, F, hm, hb⟩ := D
  exact ⟨f, fd, fnd_mk F S hle len hd hr, hm, hb⟩
section
variable {X : Cx} {x : Str} {p pos : Pos} {e : Expr} {es : List Expr} {kws : List Keyword} {wa wk : WPa} {k n m : Nat} {perm : List Nat} {ps ks : List Str} {spec : Ctr} {C : Addr}
theorem pd_mkK {N : List Str} (G : MkCK X.prog X.w X.K X.mg X.base C k ps ks n m perm spec) (hm : X.mg x = some (.ref C)) (hN : N.Nodup) (hl : N.length ≤ 900) (hr : Room (k + 1) X.A) (ha : PDa X (e :: es) wa) (hkw : PDk X kws wk)
    (hg : Gl X x := by rfl) (hdb : (x == ("__debug__" : Str)) = false := by decide) (hall : (backToKw pos (keywordEach kws X.env)).all (·.1.isSome) = true := by rfl) (hks : (backToKw pos (keywordEach kws X.env)).filterMap (·.1) = ks := by rfl)
    (he : starEach (e :: es) X.env = (false, eval e X.env) :: starEach es X.env := by rfl)
    (hpl : ((backTo pos (starEach (e :: es) X.env)).any (·.1) || (backToKw pos (keywordEach kws X.env)).any (·.1.isNone)) = false := by rfl) : PD X (.Call (.Name x p) (e :: es) kws pos) (wMakeK C N spec n m perm wa wk) := by
  obtain ⟨f, fd, F, M, hb⟩ := G
  exact pd_makeK M hN hl F hr hm hb ha hkw hg hdb hall hks he hpl
end
/-! ### defaults that fill up -/
def DefAtD (K : PySem.W.Frag) (mg : Str → Option Value) (x qual : Str) (st : Stmt) (ps : List Str) (dfl : List D) : Prop := ∃ f fd, Fun K x qual st f fd ∧ mg x = some (.ref f) ∧ ∃ dvs us, Reps K (fun _ => none) dfl dvs ∧ Vals dvs us ∧ Binds K fd ps us
def FnCD (P : Program) (w : World) (K : PySem.W.Frag) (mg : Str → Option Value) (base : Heap) (k : Nat) (x : Str) (ps : List Str) (dfl : List D) (spec : Ctr) : Prop :=
  ∃ f fd, FnD P w K mg base k f fd ps spec ∧ mg x = some (.ref f) ∧ PySem.W.keepIn K (.ref f) = true ∧ ∃ dvs us, Reps K (fun _ => none) dfl dvs ∧ Vals dvs us ∧ Binds K fd ps us
theorem FnCD.mk {P : Program} {w : World} {K : PySem.W.Frag} {mg : Str → Option Value} {base : Heap} {x qual : Str} {st : Stmt} {N ps : List Str} {k : Nat} {dfl : List D} {spec : Ctr} {ws : WPs} (D : DefAtD K mg x qual st ps dfl) (S : FnScope N ps (defScope st)) (hle : ps.length ≤ N.length)
    (len : ∀ ds S Q E, spec ds S Q E → ds.length = ps.length)
    (hd : ∀ (f : Addr) (cdv : Value) (A : Around) (outer : List Env) (s : Shared) (H : Hp) (E : XK), Room k (A.deeper (envOfC qual (defScope st) s.heap.objs.size f cdv)) → PDss (cxOf (L2.CX P w) P w K mg base N qual (defScope st) f cdv A outer s H E) (defBody st) ws)
    (hr : ∀ ds S Q X1, spec ds S Q X1 → ws (startD N ds) S (endQ Q X1)) : FnCD P w K mg base (k + 1) x ps dfl spec := by
  obtain ⟨f, fd, F, hm, hb⟩ := D
  exact ⟨f, fd, fnd_mk F S hle len hd hr, hm, F.kp, hb⟩
/-- f(e, ..), the rest filled up -/
def wCallD (spec : Ctr) (dfl : List D) (wa : WPa) : WPe := fun env S Q X => wa env S (fun ds S1 => spec (ds ++ dfl) S1 Q X) X
theorem same_no {H : Hp} : Same (fun _ => none) H := fun _ _ z => by cases z
theorem run_fnDS {X : Cx} {k : Nat} {f : Addr} {fd : FuncData} {ps : List Str} {CX : CXT} {sp : Sp} {E : L2.St → XK} {pins : List (Addr × Obj)} {σ : L2.St} {H : Hp} {s : Shared} {Q : VK} {us ds : List Value} {vs dvs : List V}
    (F : FnOk X.prog X.w X.K X.mg X.base CX k f fd ps sp) (hr : Room k X.A) (hb : Binds X.K fd ps ds) (hd : Vals dvs ds) (hx : PassesAt CX X σ (E σ)) (I : L2.Inv X pins σ H s) (r1 : Vals vs us) (h : sp (vs ++ dvs) H Q (E σ)) :
    wpAny (model X.prog X.w) X.A (call (.ref f) us) (EP X pins σ Q) X.xe s := by
  have rr := r1.append hd
  have hl : (us ++ ds).length = ps.length := by rw [← rr.length]; exact F.len _ _ _ _ h
  refine wpAny_call (codeAny_mono (F.run X.A X.stack s H ⟨us, []⟩ (us ++ ds) (vs ++ dvs) Q (E σ) hr I.env0 (hb s us I.kIn hl) rr h) fun r s' hq => ?_)
  cases r with
  | error e => exact hx pins H s e s' I hq
  | ok fl =>
    cases fl with
    | ret u => exact I.after hq
    | next => exact hq.elim
    | brk => exact hq.elim
    | cont => exact hq.elim
theorem pd_fnD {X : Cx} {x : Str} {p pos : Pos} {e : Expr} {es : List Expr} {wa : WPa} {k : Nat} {ps : List Str} {dfl : List D} {spec : Ctr} (G : FnCD X.prog X.w X.K X.mg X.base k x ps dfl spec) (hr : Room k X.A) (ha : PDa X (e :: es) wa) (hg : Gl X x := by rfl) (hdb : (x == ("__debug__" : Str)) = false := by decide)
    (he : starEach (e :: es) X.env = (false, eval e X.env) :: starEach es X.env := by rfl) (hpl : (backTo pos (starEach es X.env)).any (·.1) = false := by rfl) : PD X (.Call (.Name x p) (e :: es) [] pos) (wCallD spec dfl wa) := by
  obtain ⟨f, fd, F, hm, hk, dvs, us0, rd, vd, hb⟩ := G
  refine ⟨fun Wx tk => ⟨fun pins s σ H Q I h => ?_⟩⟩
  obtain ⟨W, env, S, Q0, X1, ok, sl, hw, cv, cx⟩ := h
  refine wpAny_Call_Name_kw (ld_glob I hg hm ?_ hdb)
  have h1 : lA X.K Wx wa σ H fun vs H1 => lSp X.K spec (vs ++ dvs) H1 Q fun c d H' => Wx c d σ H' := ⟨W, env, S, _, X1, ok, sl, hw, fun ds S1 vs W1 H1 h1 s1 ok1 r1 =>
    ⟨W1, S1, ds ++ dfl, Q0, X1, ok1, r1.append (rd.mono same_no), h1, cv.mono s1, cx.mono s1⟩, cx⟩
  refine PySem.W.callWith_K (h₀ := X.base) I.ok.mod.kin hk (thn ((ha.run Wx tk).run pos pins s σ H _ I h1) fun us s1 ⟨vs, H1, I1, r, q⟩ => ⟨I1.kIn, ?_⟩) he hpl
  exact run_fnDS F hr hb vd (passAt tk σ) I1 r q
/-! ### a product with one small factor -/
abbrev oMulS : O2 := oI CMul fun i j => .int (i * j)
theorem opd_mulS {X : Cx} : OpR X (binaryOp .Mult) (lOp X.K oMulS) := opI_of op_mul fun _ _ _ => rfl
/-- a def with keyword-only defaults, no others, called without them -/
theorem binds0_mk {K : PySem.W.Frag} {x qual : Str} {st : Stmt} {f KD : Addr} {ps : List Str} {kws : List (Str × V)} {oc : Value} {od an : Option Addr} {osl : Array (Option Value)} {doc pm cdv ct : Value}
    (l : K.lookup f = some ⟨oc, od, .func (PySem.W.fnOf x qual (defArgs st) (defBody st) (defScope st) .none (.ref KD) doc pm an cdv ct), osl⟩) (c : PySem.W.codeIn K cdv qual = true) (k : PySem.W.keepIn K (.ref f) = true) (n : Nat) (hk : kws ≠ []) (hn : n + kws.length = ps.length)
    (hq : ∀ q ∈ kws, ∃ u, PySem.W.nsIn K KD q.1 = some (some u) ∧ RelV q.2 u)
    (h : ∀ (D : Addr) (doc pm : Value) (an : Option Addr) (cdv ct : Value) (us ks : List Value), us.length = n → ks.length = kws.length →
      KwChain D ((kws.map (·.1)).zip ks) (bindArgs (PySem.W.fnOf x qual (defArgs st) (defBody st) (defScope st) .none (.ref D) doc pm an cdv ct) ⟨us, []⟩) (ps.zip (us ++ ks))) :
    ∃ us, Vals (kws.map (·.2)) us ∧ Binds K (PySem.W.fnOf x qual (defArgs st) (defBody st) (defScope st) .none (.ref KD) doc pm an cdv ct) ps us := by
  have F : FunD K x qual (defArgs st) (defBody st) (defScope st) [] kws f (PySem.W.fnOf x qual (defArgs st) (defBody st) (defScope st) .none (.ref KD) doc pm an cdv ct) :=
    ⟨⟨oc, od, .none, .ref KD, doc, pm, an, cdv, ct, osl, rfl, l, c, .inl ⟨rfl, rfl⟩, .inr ⟨KD, rfl, hq⟩⟩, k⟩
  exact F.binds0 n hk hn h
/-! ### constant tuples -/
def isI (v : Value) (j : Int) : Bool := match v with
  | .int i _ => i == j
  | _ => false
def intsIs : List Value → List Int → Bool
  | [], [] => true
  | v :: r, j :: s => isI v j && intsIs r s
  | _, _ => false
def tupIs (o : Obj) (ns : List Int) : Bool := o.cls == .type "tuple" && match o.data with
  | .seq its _ => decide (its.size ≤ 1000) && intsIs its.toList ns
  | _ => false
theorem isI_rel {v : Value} {j : Int} (h : isI v j = true) : RelV (.int j) v := by
  cases v with
  | int i t =>
    have h' : (i == j) = true := h
    obtain rfl := beq_iff_eq.mp h'
    exact ⟨t, rfl⟩
  | _ => cases h
theorem intsIs_vals : ∀ {us : List Value} {ns : List Int}, intsIs us ns = true → Vals (ns.map V.int) us
  | [], [], _ => .nil
  | v :: r, j :: s, h => by
    have h' : (isI v j && intsIs r s) = true := h
    rw [Bool.and_eq_true] at h'
    exact .cons (isI_rel h'.1) (intsIs_vals h'.2)
  | [], _ :: _, h => by cases h
  | _ :: _, [], h => by cases h
theorem tupIs_sq {K : PySem.W.Frag} {T : Addr} {o : Obj} {ns : List Int} (l : K.lookup T = some o) (h : tupIs o ns = true) (H : Hp) : SqT K H T (ns.map V.int) := by
  unfold tupIs at h
  rw [Bool.and_eq_true] at h
  obtain ⟨h1, h2⟩ := h
  cases e : o.data with
  | seq its n =>
    rw [e] at h2
    have h2' : (decide (its.size ≤ 1000) && intsIs its.toList ns) = true := h2
    rw [Bool.and_eq_true] at h2'
    have := of_decide_eq_true h2'.1
    exact .inr ⟨o, its, n, l, beq_iff_eq.mp h1, e, by unfold sizeLine; omega, intsIs_vals h2'.2⟩
  | _ => rw [e] at h2; cases h2
theorem reps_intsW {K : PySem.W.Frag} {W : Hp} : ∀ {ns : List Int}, Reps K W (ns.map D.int) (ns.map V.int)
  | [] => rfl
  | n :: r => ⟨_, _, rfl, rfl, reps_intsW (ns := r)⟩
def ConT (K : PySem.W.Frag) (mg : Str → Option Value) (x : Str) (ns : List Int) : Prop := ∃ T, mg x = some (.ref T) ∧ ∀ H, SqT K H T (ns.map V.int)
theorem pd_globT {X : Cx} {x : Str} {ns : List Int} {pos : Pos} (h : ConT X.K X.mg x ns) (hg : Gl X x := by rfl) (hd : (x == ("__debug__" : Str)) = false := by decide) : PD X (.Name x pos) (wC (.tup (ns.map D.int))) := by
  obtain ⟨T, hm, r⟩ := h
  exact pd_c (pe_glob (v := .ref T) hg hm rfl hd) fun W => ⟨T, _, rfl, r W, reps_intsW⟩
/-- the empty tuple as a default -/
theorem dfl_empty {K : PySem.W.Frag} {T : Addr} {o : Obj} (l : K.lookup T = some o) (h : tupIs o [] = true) : Reps K (fun _ => none) [.tup []] [.ref T] := ⟨_, _, rfl, ⟨T, [], rfl, tupIs_sq (ns := []) l h _, rfl⟩, rfl⟩
end DL
set_option Elab.async false
set_option linter.all false
set_option maxRecDepth 100000
set_option maxHeartbeats 1000000
/-! The data layer, part x: isinstance of a caught exception against a class that the language brings. -/
namespace DL
open PySem PySem.Spec PyProof.Rows L2
theorem kit_ty {K : PySem.W.Frag} {C : Addr} {T : String} {b : Bool} (hm : PySem.W.kitMeta T = true) (h : PySem.W.subIn K (.ref C) (.type T) = some b) : PySem.W.kitOne K (.ref C) (.type T) = some b := by
  unfold PySem.W.kitOne
  rw [if_neg (fun z : (Value.ref C == Value.type T) = true => by have := beq_iff_eq.mp z; cases this)]
  show (if PySem.W.kitMeta T = true then PySem.W.subIn K (.ref C) (.type T) else none) = some b
  rw [if_pos hm]
  exact h
def wIsEB (K : PySem.W.Frag) (a dd C : Addr) (T : String) (w : WPe) : WPe := fun env S Q X => w env S (fun d S1 => match d with
  | .exc a' dd' C' _ _ => (a' = a ∧ dd' = dd ∧ C' = C ∧ IsC K C) ∧ some! (PySem.W.kitOne K (.ref C) (.type T)) fun b => Q (.bl b) S1
  | _ => False) X
section
variable {X : Cx} {a dd C : Addr} {T : String} {oe : Obj} {pn : List (Addr × Obj)} {e e2 : Expr} {w : WPe} {p pos : Pos}
theorem pd_isEB (hz : Zc (.ref C) (some dd) oe) (hf : ∃ vs, oe.data = .fields vs) (he : PD (X.suite a ((a, oe) :: pn)) e w) (hc : PE (X.suite a ((a, oe) :: pn)) e2 (tC (.ty T))) (hm : X.mg "isinstance" = none) (hg : Gl (X.suite a ((a, oe) :: pn)) "isinstance" := by rfl)
    (hs : starEach [e, e2] X.env = (false, eval e X.env) :: starEach [e2] X.env := by rfl) (hs2 : starEach [e2] X.env = [(false, eval e2 X.env)] := by rfl) (hpl : (backTo pos (starEach [e2] X.env)).any (·.1) = false := by rfl) :
    PD (X.suite a ((a, oe) :: pn)) (.Call (.Name "isinstance" p) [e, e2] [] pos) (wIsEB X.K a dd C T w) :=
  ⟨fun Wx tk => PE.imp (pe_callB (call_isD hz hf) hg hm (by decide +kernel) (pa_cons (he.run Wx tk) (pa_cons hc pa_nil hs2) hs) (by decide) (by decide) hs hpl) fun σ H Q ⟨W, env, S, Q0, X1, ok, sl, hw, cv, cx⟩ => ⟨W, env, S, _, X1, ok, sl, hw, fun d S1 v W1 H1 h1 s1 ok1 r1 => by
    cases d with
    | exc a' dd' C' g x =>
      obtain ⟨⟨rfl, rfl, rfl, ic⟩, h1⟩ := h1
      obtain ⟨b, e5, h1⟩ := some!_ex h1
      obtain ⟨e1, gs, u, e2, e3, ru⟩ := r1
      subst e1
      exact ⟨.ty T, .type T, b, gs, rfl, ok1.vis _ _ e2, .ty T, ic, e5, cv _ S1 _ W1 H1 h1 s1 ok1 rfl⟩
    | _ => exact h1.elim, cx⟩⟩
end
end DL
set_option Elab.async false
set_option linter.all false
set_option maxRecDepth 100000
set_option maxHeartbeats 1000000
/-! The data layer, part y: an operator that an own class brings, used on two of its instances; {} and d[k] of dicts with tuple keys. -/
namespace DL
open PySem PySem.Spec PyProof.Rows L2
/-- x op y, both instances of C: the method's contract; what it tells is an instance that stays as it is -/
def isObj : D → Bool
  | .obj _ _ _ => true
  | _ => false
def oOwn (C : Addr) (N : List Str) (spec : Ctr) : O2 := fun S x y Q => isIns C N S x ∧ isIns C N S y ∧ spec [x, y] S (fun d S' => isObj d = true ∧ Q d S') (fun _ _ _ => False)
theorem obj_ref {K : PySem.W.Frag} {W : Hp} {d : D} {v : V} (h : isObj d = true) (r : Rep K W d v) : ∃ a, v = .ref a := by
  cases d with
  | obj C N xs => obtain ⟨a, _, _, _, e, _⟩ := r; exact ⟨a, e⟩
  | _ => cases h
theorem opd_own {X : Cx} {C : Addr} {k : Nat} {N ps : List Str} {m : Str} {op : Operator} {spec : Ctr} (G : MtC X.prog X.w X.K X.mg X.base C k m ps spec) (hN : m ∉ N) (hsf : PySem.W.selfFirst X.K C = true) (hr : Room k X.A) (hm2 : PySem.dunder op.info.2 = m := by rfl) :
    OpR X (binaryOp op) (lOp X.K (oOwn C N spec)) := fun pins s σ H x y v u Q I rx ry ⟨W, S, d1, d2, Q0, okS, rep1, rep2, ⟨in1, in2, told⟩, cv⟩ => by
  obtain ⟨f, fd, F, hmet, hbind⟩ := G
  obtain ⟨p1, dx1, fs1, rfl, at1, _⟩ := isIns_rep okS rep1 in1 hN
  obtain ⟨p2, dx2, fs2, rfl, at2, _⟩ := isIns_rep okS rep2 in2 hN
  obtain rfl : v = Value.ref p1 := rx
  obtain rfl : u = Value.ref p2 := ry
  obtain ⟨_, i1, _⟩ := ins_get I.hok at1
  obtain ⟨_, i2, _⟩ := ins_get I.hok at2
  obtain ⟨_, J1, _⟩ := i1.look
  obtain ⟨_, J2, _⟩ := i2.look
  obtain ⟨_, frame⟩ := I.fr
  subst hm2
  have call : wpAny (model X.prog X.w) X.A (call (.ref f) [.ref p1, .ref p2]) (EP X pins σ fun z H' => (∃ a, z = V.ref a) ∧ Q z H') X.xe s :=
    run_fnN (E := fun _ _ _ _ => False) (vs := [.ref p1, .ref p2]) F hr hbind (fun _ _ _ _ _ _ h => (cx_no h).elim) I (.cons rfl (.cons rfl .nil))
      ⟨W, S, [d1, d2], _, fun _ _ _ => False, okS, ⟨_, _, rfl, rep1, ⟨_, _, rfl, rep2, rfl⟩⟩, told, fun d S' z W' H' ⟨h1, h2⟩ st ok' r' => ⟨obj_ref h1 r', cv d S' z W' H' h2 st ok' r'⟩, fun _ _ _ _ _ _ _ h => h.elim⟩
  refine PySem.W.binop_K frame I.ok.mod.kin J1 J2.type hsf hmet.at_ (hmet.fn) (wpAny_mono call (fun r s' ⟨z, H', I', rz, ⟨a, ez⟩, q⟩ => ?_) fun _ _ h => h)
  subst ez
  obtain rfl : r = Value.ref a := rz
  exact ⟨.ref a, H', I', rfl, q⟩
/-- {} -/
def wDict0 : WPe := fun _ S Q _ => ∀ p, S p = none → Q (.ref p) (DL.put S p (.dN p []))
theorem pd_dict0 {X : Cx} {pos : Pos} : PD X (.Dict [] [] pos) wDict0 := by
  refine ⟨fun Wx tk => ⟨fun pins s σ H Q I ⟨W, env, S, Q0, X1, okS, sl, hw, cv, cx⟩ => ?_⟩⟩
  refine wpAny_Dict_empty ?_
  have free : H s.heap.objs.size = none := I.hok.fresh (Nat.le_refl _)
  have notMods : (s.heap.objs.size == sysModules) = false := beq_eq_false_iff_ne.mpr (Ne.symm (Nat.ne_of_lt I.big))
  have laid := I.laid (a := s.heap.objs.size) (o := .ext (dnP s.heap.objs.size [])) (t' := s.toks) (fun _ _ q => Heap.get?_push_of_some _ q) (Nat.le_refl _)
    ⟨⟨{ cls := .type "dict", data := .dict #[] }, #[], 0, Heap.get?_push_size _ rfl, ⟨rfl, rfl, rfl⟩, rfl, rfl⟩, ⟨{ cls := .type "dict", data := .dict #[] }, Heap.get?_push_size _ rfl⟩, fun _ _ ⟨_, _, _, g1, g2⟩ e => ⟨_, _, _, e _ g1, g2⟩⟩
  obtain ⟨_, hS⟩ := okS.fresh free
  exact ⟨.ref _, _, laid, rfl, cv _ _ _ _ _ (hw _ hS) (okS.stS free) (okS.newS free ⟨_, rfl, ⟨Nat.zero_le _, notMods, List.nodup_nil⟩, rfl⟩) rfl⟩
theorem opd_ixN {X : Cx} (hu : X.A.units + 64 < cLine) : IxR X (lOp X.K oIxN) := by
  intro value slice pins s σ H x y v u Q I rx ry ⟨W, S, d1, d2, Q0, okS, rep1, rep2, told, cv⟩ hs
  obtain ⟨p, kvs, rfl, hS, told⟩ := dnAt_ex told
  obtain ⟨key, hk, told⟩ := some!_ex told
  obtain ⟨got, hgot, told⟩ := some!_ex told
  obtain ⟨⟨k1, k2⟩, parts, rfl⟩ := keyD_ex hk
  obtain ⟨es, _, dn, ⟨_, z2, _⟩, dd⟩ := dict_at I okS hS
  obtain ⟨q, vs, rfl, _, _⟩ := id rep2
  obtain rfl : u = Value.ref q := ry
  rw [show x = V.ref p from rep1] at rx
  obtain rfl : v = Value.ref p := rx
  rcases dn.find (k := key) with ⟨e1, _⟩ | ⟨d', b, w', v', e1, e2, e3, e4⟩
  · rw [e1] at hgot; cases hgot
  · rw [e1] at hgot
    obtain rfl := Option.some.inj hgot
    refine subscriptTail_builtinR (x := w') dd.typeIs slot_dict_getitem.lookup (wpAny_getItem_heap (room_in1 hu) ⟨nest_of I okS.vis rep2 rfl k1, k2⟩ dd e2 ⟨rfl, ?_⟩) hs
    exact ⟨v', H, I.tok _, e4, cv d' S v' W H told Stp.refl okS e3⟩
/-- a, b = x, y: two plain names, stored from the right -/
def wPar (i j : Nat) (wa : WPa) : WPs := fun env S q => wa env S (fun ds S1 => ∃ v w, ds = [v, w] ∧ q.nx (setV (setV env i v) j w) S1) (xcQ q env)
theorem pds_par {X : Cx} {i j : Nat} {x y : Str} {a b : Expr} {wa : WPa} {px py pt pos : Pos} {kt k2 : Nat} {pt2 : Pos} (hc : X.calm = true) (hN : X.N.Nodup) (hi : X.N[i]? = some x) (hj : X.N[j]? = some y) (hij : i ≠ j)
    (hx : X.env.scope.names.lookup x = some .local) (hy : X.env.scope.names.lookup y = some .local) (ha : PDa X [a, b] wa)
    (hw : swappedStores [.Tuple [.Name x px, .Name y py] kt pt] (.Tuple [a, b] k2 pt2) X.env = pure (some [x, y]))
    (hs : swapsWithSole [.Tuple [.Name x px, .Name y py] kt pt] (.Tuple [a, b] k2 pt2) pos.line X.env = pure false := by rfl) :
    PDs X (.Assign [.Tuple [.Name x px, .Name y py] kt pt] (.Tuple [a, b] k2 pt2) pos) (wPar i j wa) :=
  ⟨fun Wx tk => PS.imp (ps_par hc hN hi hj hij hx hy (ha.run Wx tk) hw hs) fun D σ H ⟨W, env, S, q, ok, sl, hl, hw, cs⟩ => ⟨W, env, S, _, _, ok, sl, hw, fun ds S1 vs W1 H1 ⟨v, w, e, h1⟩ s1 ok1 r1 => by
    subst e
    obtain ⟨v1, _, rfl, rv, v2, _, rfl, rw2, rfl⟩ := r1
    refine ⟨v1, v2, rfl, cs.nx _ S1 _ W1 H1 h1 s1 ok1 (((sl.mono s1.vis).set (by rw [hl]; exact lt_of_some hi) rv).set (by rw [List.length_set, hl]; exact lt_of_some hj) rw2) (by rw [List.length_set, List.length_set]; exact hl)⟩, CXc.of cs sl⟩⟩
end DL
set_option Elab.async false
set_option linter.all false
set_option maxRecDepth 100000
set_option maxHeartbeats 1000000
/-! The data layer, part z: try with several clauses, each with a name for the exception or without; one of them must take it. -/
namespace DL
open PySem PySem.Spec PyProof.Rows L2
/-- a clause: the class it names, the slot that it binds, its suite's wish -/
structure Clz where
  cls : Value
  slot : Option Nat
  wish : Addr → Value → Option Addr → TS
def gone (D : Ends) : Option Nat → Ends
  | none => D
  | some i => { nx := fun τ G => D.nx (τ.set i none) G, rt := D.rt, bk := fun τ G => D.bk (τ.set i none) G, ct := fun τ G => D.ct (τ.set i none) G }
def held (τ : L2.St) (a : Addr) : Option Nat → L2.St
  | none => τ
  | some i => τ.set i (some (.ref a))
/-- what the clauses wish, the first that matches taken -/
def wClz (K : PySem.W.Frag) (D : Ends) : List Clz → WX
  | [] => fun _ _ _ _ => False
  | z :: r => fun t d τ G => ∃ b, PySem.W.exmOne K t z.cls = some b ∧ (b = true → ∀ a, G a = none → z.wish a t d (gone D z.slot) (held τ a z.slot) G) ∧ (b = false → wClz K D r t d τ G)
/-- how a clause stands in the text -/
inductive ClzAt (X : Cx) : ExceptHandler → Clz → Prop
  | bare {x : Str} {np p : Pos} {z : Clz} {st : Stmt} {more : List Stmt} (hn : Names X x z.cls) (hz : z.slot = none)
      (hsu : ∀ (a : Addr) (ob : Obj) (t : Value) (d : Option Addr) (pn : List (Addr × Obj)), Zc t d ob → (∃ vs, ob.data = .fields vs) → PSs (X.suite a ((a, ob) :: pn)) (st :: more) (z.wish a t d)) : ClzAt X (.ExceptHandler (some (.Name x np)) none (st :: more) p) z
  | named {x n : Str} {i : Nat} {np p : Pos} {z : Clz} {st : Stmt} {more : List Stmt} (hn : Names X x z.cls) (hz : z.slot = some i) (hi : X.N[i]? = some n) (hl : X.env.kindOf n = some .local)
      (hsu : ∀ (a : Addr) (ob : Obj) (t : Value) (d : Option Addr) (pn : List (Addr × Obj)), Zc t d ob → (∃ vs, ob.data = .fields vs) → PSs (X.suite a ((a, ob) :: pn)) (st :: more) (z.wish a t d)) : ClzAt X (.ExceptHandler (some (.Name x np)) (some n) (st :: more) p) z
section
variable {X : Cx} {pins : List (Addr × Obj)} {D : Ends} {s0 : Shared} {hp : Heap} {a : Addr} {t : Value} {d : Option Addr} {τ : L2.St} {G : Hp} {base : Heap}
/-- an exception that has come to the try: what is known of it, at each heap from then on -/
structure Come (X : Cx) (pins : List (Addr × Obj)) (s0 : Shared) (a : Addr) (t : Value) (d : Option Addr) (τ : L2.St) (G : Hp) (h : Heap) : Prop where
  inv : L2.Inv X pins τ G { s0 with heap := h }
  obj : ∃ ob vs, h.get? a = some ob ∧ Zc t d ob ∧ ob.data = .fields vs
  new : G a = none
  nL : a ≠ X.env.locals
  nF : a ∉ X.fs
theorem Come.suited {h : Heap} (c : Come X pins s0 a t d τ G h) : ∃ ob, Zc t d ob ∧ (∃ vs, ob.data = .fields vs) ∧ h.get? a = some ob ∧ L2.Inv (X.suite a ((a, ob) :: (X.pn ++ pins))) [] τ G { s0 with heap := h } := by
  obtain ⟨ob, vs, g, z, dt⟩ := c.obj
  exact ⟨ob, z, ⟨vs, dt⟩, g, c.inv.suite g dt c.new c.nL c.nF⟩
theorem names_read {h : Heap} {x : Str} {c : Value} {np : Pos} (k : Come X pins s0 a t d τ G h) (hn : Names X x c) {Q : Value → Shared → Prop} {E : Value → Shared → Prop} (q : Q c { s0 with heap := h }) :
    wpAny (model X.prog X.w) (X.A.mark (some (.ref a))) (eval (.Name x np) X.env) Q E { s0 with heap := h } := by
  obtain ⟨ob, _, _, _, inv⟩ := k.suited
  obtain ⟨gl, nd, own | ⟨no, bv, nn⟩⟩ := hn
  · exact ld_glob (X := X.suite a ((a, ob) :: (X.pn ++ pins))) inv gl own q nd
  · exact ld_blt (X := X.suite a ((a, ob) :: (X.pn ++ pins))) inv gl no bv q nn nd
theorem suite_end {f : Flow} {s1 : Shared} {ob : Obj} (okX : X.Ok) (h : SP (X.suite a ((a, ob) :: (X.pn ++ pins))) [] D f s1) : SP X pins D f s1 := by
  cases f with
  | ret u => obtain ⟨v, τ1, G1, inv, rv, q⟩ := h; exact ⟨v, τ1, G1, inv.unsuite okX, rv, q⟩
  | next => obtain ⟨τ1, G1, inv, q⟩ := h; exact ⟨τ1, G1, inv.unsuite okX, q⟩
  | brk => obtain ⟨τ1, G1, inv, q⟩ := h; exact ⟨τ1, G1, inv.unsuite okX, q⟩
  | cont => obtain ⟨τ1, G1, inv, q⟩ := h; exact ⟨τ1, G1, inv.unsuite okX, q⟩
theorem named_end {f : Flow} {s1 : Shared} {ob : Obj} {i : Nat} {n : Str} {p : Pos} (okX : X.Ok) (nd : X.N.Nodup) (hi : X.N[i]? = some n) (hl : X.env.kindOf n = some .local) (h : SP (X.suite a ((a, ob) :: (X.pn ++ pins))) [] (gone D (some i)) f s1) :
    wpAny (model X.prog X.w) X.A (do bindName X.env n .none; unbindBehindTheSuite X.env n p) (fun _ s2 => SP X pins D f s2) X.xe s1 := by
  cases f with
  | ret u => obtain ⟨v, τ1, G1, inv, rv, q⟩ := h; exact gone_ok (inv.unsuite okX) nd hi hl fun _ inv2 => ⟨v, _, G1, inv2, rv, q⟩
  | next => obtain ⟨τ1, G1, inv, q⟩ := h; exact gone_ok (inv.unsuite okX) nd hi hl fun _ inv2 => ⟨_, G1, inv2, q⟩
  | brk => obtain ⟨τ1, G1, inv, q⟩ := h; exact gone_ok (inv.unsuite okX) nd hi hl fun _ inv2 => ⟨_, G1, inv2, q⟩
  | cont => obtain ⟨τ1, G1, inv, q⟩ := h; exact gone_ok (inv.unsuite okX) nd hi hl fun _ inv2 => ⟨_, G1, inv2, q⟩
inductive Clzs (X : Cx) : List ExceptHandler → List Clz → Prop
  | nil : Clzs X [] []
  | cons {hd : ExceptHandler} {z : Clz} {hds : List ExceptHandler} {zs : List Clz} (h : ClzAt X hd z) (r : Clzs X hds zs) : Clzs X (hd :: hds) (z :: zs)
/-- the clauses, one after the other -/
theorem clauses_take (okX : X.Ok) (nd : X.N.Nodup) (fl : HandSPX.FlyingZ base (X.env :: X.outer) a (Zc t d) hp) (k : Come X pins s0 a t d τ G hp)
    (again : ∀ h', HandSPX.FlyingZ base (X.env :: X.outer) a (Zc t d) h' → hp.UpToSlots h' → Come X pins s0 a t d τ G h') :
    ∀ {hds : List ExceptHandler} {zs : List Clz}, Clzs X hds zs → wClz X.K D zs t d τ G → wpAny (model X.prog X.w) X.A (handleBy (.ref a) X.env hds) (SP X pins D) X.xe { s0 with heap := hp } := by
  intro hds zs cz
  induction cz with
  | nil => exact fun w => w.elim
  | @cons hd z hds zs cl rest ih =>
    rintro ⟨b, hit, yes, no⟩
    obtain ⟨ob, vs, got, zc, dt⟩ := k.obj
    have looks : PySem.W.Looks (model X.prog X.w) hp (typeOf (.ref a)) t := fun _ _ _ _ kp q => wpAny_typeOf_ref (kp _ _ got) (by rw [zc.1]; exact q)
    have hits := PySem.W.exm_one (M := model X.prog X.w) k.inv.kIn looks hit
    cases cl with
    | bare hn hz hsu =>
      refine wpAny_handleBy_cons (codeAny_handlers_test (names_read k hn (hits.here ?_))) (by intro q; cases q)
      cases b with
      | false => exact ih (no rfl)
      | true =>
        have yes := yes rfl a k.new
        rw [hz] at yes
        refine codeAny_handlers_suite (HandSPX.lands_againZ fl fun h4 fl4 up4 => ?_)
        obtain ⟨ob4, z4, dt4, _, inv4⟩ := (again h4 fl4 up4).suited
        exact wpAny_mono ((hsu a ob4 t d _ z4 dt4).run [] _ _ G _ inv4 yes) (fun f s6 h6 => suite_end okX h6) fun _ _ w => w.elim
    | named hn hz hi hl hsu =>
      refine wpAny_handleBy_cons (codeAny_handlers_test (names_read k hn (hits.here ?_))) (by intro q; cases q)
      cases b with
      | false => exact ih (no rfl)
      | true =>
        have yes := yes rfl a k.new
        rw [hz] at yes
        refine codeAny_handlers_suite_as (HandSPX.lands_againZ fl fun h4 fl4 up4 => ?_)
        obtain ⟨ob4, z4, dt4, _, inv4⟩ := (again h4 fl4 up4).suited
        refine store_ok (X := X.suite a ((a, ob4) :: (X.pn ++ pins))) (v := .ref a) inv4 nd hi (.inl hl) rfl (fun s5 inv5 => ?_) (.inr hl)
        exact wpAny_mono ((hsu a ob4 t d _ z4 dt4).run [] s5 _ G _ inv5 yes) (fun f s6 h6 => named_end okX nd hi hl h6) fun _ _ w => w.elim
end
section
variable {X : Cx} {body : List Stmt} {h₀ : ExceptHandler} {hds : List ExceptHandler} {zs : List Clz} {pos : Pos} {tb : WX → TS}
theorem body_end {pins : List (Addr × Obj)} {D : Ends} {xe : Value → Shared → Prop} {f : Flow} {s1 : Shared} (okX : X.Ok) (h : SP (X.tr (X.pn ++ pins) xe) [] D f s1) : SP X pins D f s1 := by
  cases f with
  | ret u => obtain ⟨v, τ1, G1, inv, rv, q⟩ := h; exact ⟨v, τ1, G1, inv.ofTry okX, rv, q⟩
  | next => obtain ⟨τ1, G1, inv, q⟩ := h; exact ⟨τ1, G1, inv.ofTry okX, q⟩
  | brk => obtain ⟨τ1, G1, inv, q⟩ := h; exact ⟨τ1, G1, inv.ofTry okX, q⟩
  | cont => obtain ⟨τ1, G1, inv, q⟩ := h; exact ⟨τ1, G1, inv.ofTry okX, q⟩
theorem ps_try_clz (hs : X.stack = X.env :: X.outer) (hf : X.env.frame = some X.env.locals) (nd : X.N.Nodup)
    (hb : ∀ (W : WX) (pn : List (Addr × Obj)) (xe : Value → Shared → Prop), Takes (X.tr pn xe) W → PassesOwn (model X.prog X.w) X.A X.env xe → PSs (X.tr pn xe) body (tb W))
    (cz : Clzs X (h₀ :: hds) zs) : PS X (.Try body (h₀ :: hds) [] [] pos) (fun D τ G => tb (wClz X.K D zs) D τ G) := by
  refine ⟨fun pins s0 τ0 G0 D I start => ?_⟩
  have okX := I.ok
  have frames : X.A.frames = some (X.env :: X.outer) := by rw [okX.frames, hs]
  refine wpAny_Try_except (wpAny_mono ((hb (wClz X.K D zs) (X.pn ++ pins) _ ?taken PassesOwn.looking).run [] s0 τ0 G0 D (I.toTry _) start) (fun f s1 h1 => ?_) fun _ _ z => z)
  case taken =>
    rintro u s1 ⟨a, B, sI, pins', τ, G, t, d, rfl, J', nb, up, sky, na, os, ag, w⟩
    have J : L2.Inv X pins τ G sI := J'.ofTry okX
    have sky2 : Sky B (X.env :: X.outer) a (Zc t d) X.env.locals s1.heap := by rw [← hs]; exact sky
    show wpAny (model X.prog X.w) X.A (noteFrame (.ref a) X.env) _ _ _
    refine Sky.land Zc.steady frames hf sky2 fun h3 fl3 up3 => ?_
    have come : ∀ h', HandSPX.FlyingZ B (X.env :: X.outer) a (Zc t d) h' → s1.heap.UpToSlots h' → Come X pins s1 a t d τ G h' := fun h' fl' up' => by
      obtain ⟨ob, vs, got, zc, dt⟩ := fl'.there
      have far : a ∉ frs (X.env :: X.outer) := fun hm => by
        obtain ⟨_, _, e1, e2⟩ := fl'.2.2.1.mem hm
        rw [got] at e1
        cases e1
        exact e2 _ dt
      exact ⟨J.landed nb fl'.1 (up.trans up') os ag, ⟨ob, vs, got, zc, dt⟩, na, fun z => far (List.mem_filterMap.mpr ⟨X.env, List.mem_cons_self, by rw [hf, z]⟩), fun hm => by
        obtain ⟨en, he, q⟩ := List.mem_filterMap.mp hm
        exact far (List.mem_filterMap.mpr ⟨en, List.mem_cons_of_mem _ he, q⟩)⟩
    exact clauses_take okX nd fl3 (come h3 fl3 up3) (fun h' fl' up' => come h' fl' (up3.trans up')) cz w
  · have h2 := body_end okX h1
    cases f with
    | next => exact wpAny_execs_nil h2
    | ret u => exact h2
    | brk => exact h2
    | cont => exact h2
end
end DL
set_option Elab.async false
set_option linter.all false
set_option maxRecDepth 100000
set_option maxHeartbeats 1000000
/-! The data layer, part za: the reading of a try with several clauses. -/
namespace DL
open PySem PySem.Spec PyProof.Rows L2
/-- a clause: its class, the slot that it binds, its suite's reading -/
structure Cz where
  T : Addr
  slot : Option Nat
  suite : WPu
def setO (e : DE) (o : Option Nat) (d : D) : DE := match o with
  | none => e
  | some i => setV e i d
def delO (e : DE) : Option Nat → DE
  | none => e
  | some i => delV e i
def suiteQ (q : QS) (o : Option Nat) : QS := { nx := fun e2 S2 => q.nx (delO e2 o) S2, rt := q.rt, bk := fun e2 S2 => q.bk (delO e2 o) S2, ct := fun e2 S2 => q.ct (delO e2 o) S2, xc := fun _ _ _ _ => False }
def takeM (K : PySem.W.Frag) (q : QS) (C : Addr) (fs : List (Str × D)) (e : DE) (S1 : Sto) : List Cz → Prop
  | [] => False
  | z :: r => ∃ b, PySem.W.exmOne K (.ref C) (.ref z.T) = some b ∧ (b = true → ∃ f x, fs = [(f, x)] ∧ ∀ a dd, z.suite a dd C (setO e z.slot (.exc a dd C f x)) S1 (suiteQ q z.slot)) ∧ (b = false → takeM K q C fs e S1 r)
def wTryM (K : PySem.W.Frag) (zs : List Cz) (body : WPs) : WPs := fun env S q => body env S { q with xc := fun C fs e S1 => takeM K q C fs e S1 zs }
inductive CzAt (X : Cx) : ExceptHandler → Cz → Prop
  | bare {x : Str} {T : Addr} {np p : Pos} {ws : WPu} {st : Stmt} {more : List Stmt} (hm : X.mg x = some (.ref T)) (hg : Gl X x) (hdb : (x == ("__debug__" : Str)) = false)
      (hsu : ∀ (a dd C : Addr) (oe : Obj) (pn : List (Addr × Obj)), Zc (.ref C) (some dd) oe → (∃ vs, oe.data = .fields vs) → PDss (X.suite a ((a, oe) :: pn)) (st :: more) (ws a dd C)) : CzAt X (.ExceptHandler (some (.Name x np)) none (st :: more) p) ⟨T, none, ws⟩
  | named {x n : Str} {T : Addr} {i : Nat} {np p : Pos} {ws : WPu} {st : Stmt} {more : List Stmt} (hm : X.mg x = some (.ref T)) (hg : Gl X x) (hdb : (x == ("__debug__" : Str)) = false) (hi : X.N[i]? = some n) (hl : X.env.kindOf n = some .local)
      (hsu : ∀ (a dd C : Addr) (oe : Obj) (pn : List (Addr × Obj)), Zc (.ref C) (some dd) oe → (∃ vs, oe.data = .fields vs) → PDss (X.suite a ((a, oe) :: pn)) (st :: more) (ws a dd C)) : CzAt X (.ExceptHandler (some (.Name x np)) (some n) (st :: more) p) ⟨T, some i, ws⟩
inductive Czs (X : Cx) : List ExceptHandler → List Cz → Prop
  | nil : Czs X [] []
  | cons {hd : ExceptHandler} {z : Cz} {hds : List ExceptHandler} {zs : List Cz} (h : CzAt X hd z) (r : Czs X hds zs) : Czs X (hd :: hds) (z :: zs)
def suiteTS (K : PySem.W.Frag) (n : Nat) (ws : WPu) : Addr → Value → Option Addr → TS := fun a cls d => match cls, d with
  | .ref C, some dd => lSn K (fun _ _ _ _ => False) n (ws a dd C)
  | _, _ => fun _ _ _ => False
def toClz (K : PySem.W.Frag) (n : Nat) (z : Cz) : Clz := ⟨.ref z.T, z.slot, suiteTS K n z.suite⟩
section
variable {X : Cx}
theorem suite_runs {st : Stmt} {more : List Stmt} {ws : WPu} (hsu : ∀ (a dd C : Addr) (oe : Obj) (pn : List (Addr × Obj)), Zc (.ref C) (some dd) oe → (∃ vs, oe.data = .fields vs) → PDss (X.suite a ((a, oe) :: pn)) (st :: more) (ws a dd C))
    (a : Addr) (ob : Obj) (t : Value) (d : Option Addr) (pn : List (Addr × Obj)) (hz : Zc t d ob) (hf : ∃ vs, ob.data = .fields vs) : PSs (X.suite a ((a, ob) :: pn)) (st :: more) (suiteTS X.K X.N.length ws a t d) := by
  cases t with
  | ref C =>
    cases d with
    | some dd => exact pss_n (X := X.suite a ((a, ob) :: pn)) ((hsu a dd C ob pn hz hf).run _ takes0)
    | none => exact ⟨fun _ _ _ _ _ _ h => h.elim⟩
  | _ => exact ⟨fun _ _ _ _ _ _ h => h.elim⟩
theorem czs_to {hds : List ExceptHandler} {zs : List Cz} (h : Czs X hds zs) : Clzs X hds (zs.map (toClz X.K X.N.length)) := by
  induction h with
  | nil => exact .nil
  | cons h r ih =>
    refine .cons ?_ ih
    cases h with
    | bare hm hg hdb hsu => exact .bare ⟨hg, hdb, .inl hm⟩ rfl fun a ob t d pn hz hf => suite_runs hsu a ob t d pn hz hf
    | named hm hg hdb hi hl hsu => exact .named ⟨hg, hdb, .inl hm⟩ rfl hi hl fun a ob t d pn hz hf => suite_runs hsu a ob t d pn hz hf
theorem take_wish {Wx : WX} {W W1 : Hp} {S S1 : Sto} {H H1 : Hp} {q : QS} {De : Ends} {n : Nat} {C dd : Addr} {fs : List (Str × D)} {gs : List (Str × V)} {e : DE} {σ1 : L2.St} (hn : X.N.length = n)
    (cs : CS X.K Wx W S H q { De with nx := fun τ G => τ.length = n → De.nx τ G, bk := fun τ G => τ.length = n → De.bk τ G, ct := fun τ G => τ.length = n → De.ct τ G })
    (s1 : Stp W S H W1 S1 H1) (ok1 : Ok X.K W1 S1 H1) (sl1 : Sl X.K W1 e σ1) (e1 : W1 dd = some (.xd gs)) (r1 : Repf X.K W1 fs gs) :
    ∀ {hds : List ExceptHandler} {zs : List Cz}, Czs X hds zs → takeM X.K q C fs e S1 zs → wClz X.K De (zs.map (toClz X.K n)) (.ref C) (some dd) σ1 H1 := by
  intro hds zs hz
  induction hz with
  | nil => exact fun h => h
  | @cons hd z hds zs hc rest ih =>
    rintro ⟨b, hb, yes, no⟩
    refine ⟨b, hb, fun hbt a ha => ?_, fun hbf => ih (no hbf)⟩
    obtain ⟨f, x, rfl, runs⟩ := yes hbt
    obtain ⟨u, hu, ru⟩ := r1 f x (by rw [List.lookup_cons]; simp)
    have rex : Rep X.K W1 (.exc a dd C f x) (.ref a) := ⟨rfl, gs, u, e1, hu, ru⟩
    have runs := runs a dd
    cases hc with
    | bare hm hg hdb hsu =>
      refine ⟨W1, e, S1, _, ok1, fun _ => sl1, runs, ?_, ?_, ?_, ?_, ?_⟩
      · exact fun e2 S2 σ2 W2 H2 hq st ok2 sl2 hl2 => cs.nx e2 S2 σ2 W2 H2 hq (s1.trans st) ok2 sl2 hl2
      · exact fun y S2 v W2 H2 hq st ok2 rv => cs.rt y S2 v W2 H2 hq (s1.trans st) ok2 rv
      · exact fun e2 S2 σ2 W2 H2 hq st ok2 sl2 hl2 => cs.bk e2 S2 σ2 W2 H2 hq (s1.trans st) ok2 sl2 hl2
      · exact fun e2 S2 σ2 W2 H2 hq st ok2 sl2 hl2 => cs.ct e2 S2 σ2 W2 H2 hq (s1.trans st) ok2 sl2 hl2
      · exact fun _ _ _ _ _ _ _ _ _ hq _ _ _ _ _ => hq.elim
    | @named _ _ _ i _ _ _ _ _ hm hg hdb hi hl hsu =>
      have sl2 : (σ1.set i (some (.ref a))).length = n → Sl X.K W1 (setV e i (.exc a dd C f x)) (σ1.set i (some (.ref a))) := fun hlen j y hj => by
        rcases getV_setV hj with ⟨w1, w2⟩ | ⟨w1, w2⟩
        · subst w1 w2
          exact ⟨_, List.getElem?_set_self (by rw [List.length_set] at hlen; rw [hlen, ← hn]; exact lt_of_some hi), rex⟩
        · obtain ⟨v, hv, rv⟩ := sl1 j y w2
          exact ⟨v, by rw [List.getElem?_set_ne (Ne.symm w1)]; exact hv, rv⟩
      refine ⟨W1, _, S1, _, ok1, sl2, runs, ?_, ?_, ?_, ?_, ?_⟩
      · exact fun e2 S2 σ2 W2 H2 hq st ok2 sl3 hl3 => cs.nx _ S2 _ W2 H2 hq (s1.trans st) ok2 (sl_del sl3) (by rw [List.length_set]; exact hl3)
      · exact fun y S2 v W2 H2 hq st ok2 rv => cs.rt y S2 v W2 H2 hq (s1.trans st) ok2 rv
      · exact fun e2 S2 σ2 W2 H2 hq st ok2 sl3 hl3 => cs.bk _ S2 _ W2 H2 hq (s1.trans st) ok2 (sl_del sl3) (by rw [List.length_set]; exact hl3)
      · exact fun e2 S2 σ2 W2 H2 hq st ok2 sl3 hl3 => cs.ct _ S2 _ W2 H2 hq (s1.trans st) ok2 (sl_del sl3) (by rw [List.length_set]; exact hl3)
      · exact fun _ _ _ _ _ _ _ _ _ hq _ _ _ _ _ => hq.elim
theorem pds_tryM {body : List Stmt} {h₀ : ExceptHandler} {hds : List ExceptHandler} {zs : List Cz} {pos : Pos} {wb : WPs} (hs : X.stack = X.env :: X.outer) (hf : X.env.frame = some X.env.locals) (hN : X.N.Nodup)
    (hb : ∀ (pn : List (Addr × Obj)) (xe : Value → Shared → Prop), PassesOwn (model X.prog X.w) X.A X.env xe → PDss (X.tr pn xe) body wb)
    (cz : Czs X (h₀ :: hds) zs) : PDs X (.Try body (h₀ :: hds) [] [] pos) (wTryM X.K zs wb) := by
  refine ⟨fun Wx tk => PS.imp (ps_try_clz hs hf hN (tb := fun W => lS X.K W X.N.length wb) (fun W pn xe tkW pass => (hb pn xe pass).run W tkW) (czs_to cz)) ?_⟩
  rintro D σ H ⟨W, env, S, q, ok, sl, hl, hw, cs⟩
  exact ⟨W, env, S, _, ok, sl, hl, hw, cs.nx, cs.rt, cs.bk, cs.ct, fun C fs e S1 dd gs σ1 W1 H1 tk1 s1 ok1 sl1 e1 r1 => take_wish rfl cs s1 ok1 sl1 e1 r1 cz tk1⟩
end
end DL
set_option Elab.async false
set_option linter.all false
set_option maxRecDepth 100000
set_option maxHeartbeats 1000000
/-! The data layer, part zb: xs.reverse(), list(range(n)). -/
namespace DL
open PySem PySem.Spec PyProof.Rows L2
theorem reps_rev {K : PySem.W.Frag} {W : Hp} : ∀ {xs : List D} {vs : List V}, Reps K W xs vs → Reps K W xs.reverse vs.reverse
  | [], vs, h => by
    rw [show vs = [] from h]
    exact rfl
  | x :: r, vs, ⟨v, w, e, rv, rr⟩ => by
    subst e
    rw [List.reverse_cons, List.reverse_cons]
    exact (reps_rev rr).append (Reps.one rv)
def oReverse : OM := fun S d ds Q => mutL S d fun a xs => ds = [] ∧ Q .non (put S a (.lst xs.reverse))
theorem md_reverse {X : Cx} : MtR X "list.reverse" (lM X.K oReverse) := MtR.imp mt_reverse fun x vs H Q ⟨W, S, d, ds, Q0, ok, r, rs, ho, cv⟩ => by
  obtain ⟨a, xs, us, rfl, rfl, e1, e2, rv, none, told⟩ := mutL_rep ok r ho
  subst none
  exact ⟨a, us, rfl, rs, e2, cv _ _ _ _ _ told (ok.stC e1) (ok.chg e1 ⟨_, rfl, reps_rev rv⟩) rfl⟩
/-- list(range(n)) -/
def wListRg (w : WPe) : WPe := fun env S Q X => w env S (fun d S1 => asI d fun n => (0 ≤ n ∧ n ≤ 16777216) ∧ Q (.lst (rngD 0 n.toNat)) S1) X
theorem rg_reps {K : PySem.W.Frag} {W : Hp} {n : Int} : Reps K W (rngD 0 n.toNat) (rgV 0 n) := by
  have e1 : rngD 0 n.toNat = ((List.range n.toNat).map fun (i : Nat) => (0 : Int) + (i : Int)).map D.int := by unfold rngD; rw [List.map_map]; rfl
  have e2 : rgV 0 n = ((List.range n.toNat).map fun (i : Nat) => (0 : Int) + (i : Int)).map V.int := by unfold rgV; rw [List.map_map, Int.sub_zero]; rfl
  rw [e1, e2]
  exact reps_intsW
theorem pd_listRg {X : Cx} {a : Expr} {w : WPe} {p pos p2 pos2 : Pos} (hc : X.calm = true) (hm : X.mg "list" = none) (hm2 : X.mg "range" = none) (ha : PD X a w) (hg : Gl X "list" := by rfl) (hg2 : Gl X "range" := by rfl)
    (na : starEach [.Call (.Name "range" p2) [a] [] pos2] X.env = (false, eval (.Call (.Name "range" p2) [a] [] pos2) X.env) :: starEach [] X.env := by rfl) (na2 : starEach [a] X.env = (false, eval a X.env) :: starEach [] X.env := by rfl) :
    PD X (.Call (.Name "list" p) [.Call (.Name "range" p2) [a] [] pos2] [] pos) (wListRg w) :=
  ⟨fun Wx tk => PE.imp (pe_listRg hc hg hm (prg_1 hg2 hm2 (ha.run Wx tk) na2) na) fun σ H Q ⟨W, env, S, Q0, X1, ok, sl, hw, cv, cx⟩ => ⟨W, env, S, _, X1, ok, sl, hw, fun d S1 v W1 H1 h1 s1 ok1 r1 => by
    obtain ⟨n, rfl, hi, told⟩ := asI_ex h1
    exact ⟨n, r1, RgOk.of_le (Int.le_refl _) hi.2 (by decide) hi.1, fun q hq => cv _ S1 _ _ _ told (s1.trans (ok1.stW hq)) (ok1.newW hq) ⟨q, _, rfl, upd_same, rg_reps⟩⟩, cx⟩⟩
end DL
set_option Elab.async false
set_option linter.all false
set_option maxRecDepth 100000
set_option maxHeartbeats 1000000
/-! The data layer, part zc: xs.insert(i, y). -/
namespace DL
open PySem PySem.Spec PyProof.Rows L2
def oInsert : OM := fun S d ds Q => mutL S d fun a xs => two ds fun i y => asI i fun i => (xs.length < sizeLine ∧ 0 ≤ i ∧ i < 2 ^ 63) ∧ Q .non (put S a (.lst (xs.take i.toNat ++ [y] ++ xs.drop i.toNat)))
theorem reps_drop2 {K : PySem.W.Frag} {W : Hp} : ∀ {ds : List D} {vs : List V} (n : Nat), Reps K W ds vs → Reps K W (ds.drop n) (vs.drop n)
  | ds, vs, 0, h => h
  | [], vs, n + 1, h => by rw [show vs = [] from h]; rfl
  | x :: r, vs, n + 1, ⟨v, w, e, rv, rr⟩ => by subst e; exact reps_drop2 n rr
theorem md_insert {X : Cx} : MtR X "list.insert" (lM X.K oInsert) := MtR.imp mt_insert fun x vs H Q ⟨W, S, d, ds, Q0, ok, r, rs, ho, cv⟩ => by
  obtain ⟨a, xs, us, rfl, rfl, e1, e2, rv, h⟩ := mutL_rep ok r ho
  obtain ⟨i, y, rfl, h⟩ := two_ex h
  obtain ⟨i, rfl, ⟨h1, h2, h3⟩, h⟩ := asI_ex h
  obtain ⟨v1, r1, rfl, e3, rs⟩ := rs
  obtain ⟨v2, r2, rfl, e4, rs⟩ := rs
  have e3 : v1 = .int i := e3
  subst e3
  rw [show r2 = [] from rs]
  exact ⟨a, us, i, v2, rfl, rfl, e2, by rw [rv.length]; exact h1, h2, h3, cv _ _ _ _ _ h (ok.stC e1) (ok.chg e1 ⟨_, rfl, ((rv.take i.toNat).append (Reps.one e4)).append (reps_drop2 i.toNat rv)⟩) rfl⟩
end DL
set_option Elab.async false
set_option linter.all false
set_option maxRecDepth 100000
set_option maxHeartbeats 2000000
/-! The data layer, part zd: classes called by keyword, some keyword-only parameters left to their defaults. -/
namespace DL
open PySem PySem.Spec PyProof.Rows L2
section
variable {X : Cx} {C : Addr} {k n m : Nat} {f : Addr} {fd : FuncData} {ps ks : List Str} {perm : List Nat} {spec : Ctr} {x : Str} {p pos : Pos} {e : Expr} {es : List Expr} {kws : List Keyword} {wa wk : WPa} {dfl : List D} {dvs : List V} {us0 : List Value}
/-- C(e, .., k = v, ..): n positional values (the new instance among them), m by name or default -/
def wMakeKD (C : Addr) (N : List Str) (spec : Ctr) (n m : Nat) (perm : List Nat) (dfl : List D) (wa wk : WPa) : WPe := fun env S Q X => wa env S (fun ds S1 => wk env S1 (fun es S2 => ∀ x, S2 x = none → spec (pickK n m perm (.ref x :: ds) (es ++ dfl)) (put S2 x (.ins C N (noneV N))) (fun r S3 => r = .non ∧ Q (.ref x) S3) X) X) X
theorem pd_makeKD {N : List Str} (M : Mk X.K C f) (hN : N.Nodup) (hl : N.length ≤ 900) (F : FnD X.prog X.w X.K X.mg X.base k f fd ps spec) (hr : Room (k + 1) X.A) (hm : X.mg x = some (.ref C)) (rd : Reps X.K (fun _ => none) dfl dvs)
    (hb : KBinds X.K fd ps ks (fun us ws => pickK n m perm us (ws ++ us0)) (fun us ws => pickK n m perm us (ws ++ dvs)))
    (ha : PDa X (e :: es) wa) (hkw : PDk X kws wk) (hg : Gl X x := by rfl) (hdb : (x == ("__debug__" : Str)) = false := by decide) (hall : (backToKw pos (keywordEach kws X.env)).all (·.1.isSome) = true := by rfl) (hks : (backToKw pos (keywordEach kws X.env)).filterMap (·.1) = ks := by rfl)
    (he : starEach (e :: es) X.env = (false, eval e X.env) :: starEach es X.env := by rfl)
    (hpl : ((backTo pos (starEach (e :: es) X.env)).any (·.1) || (backToKw pos (keywordEach kws X.env)).any (·.1.isNone)) = false := by rfl) : PD X (.Call (.Name x p) (e :: es) kws pos) (wMakeKD C N spec n m perm dfl wa wk) := by
  refine ⟨fun Wx tk => ⟨fun pins s σ H Q I h => ?_⟩⟩
  obtain ⟨W, env, S, Q0, X1, ok, sl, hw, cv, cx⟩ := h
  refine wpAny_Call_Name_kw (ld_glob I hg hm ?_ hdb)
  have h1 : lA X.K Wx wa σ H fun vs H1 => lA X.K Wx wk σ H1 fun zs H2 => ∀ y dy, H2 y = none → H2 dy = none → dy ≠ y →
      lSp X.K spec (pickK n m perm (.ref y :: vs) (zs ++ dvs)) (upd (upd H2 dy (.own y)) y (.ins C dy [])) (fun v H3 => v = .non ∧ Q (.ref y) H3) fun c d H' => Wx c d σ H' := ⟨W, env, S, _, X1, ok, sl, hw, fun ds S1 vs W1 H1 h1 s1 ok1 r1 =>
    ⟨W1, env, S1, _, X1, ok1, sl.mono s1.vis, h1, fun es S2 zs W2 H2 h2 s2 ok2 r2 y dy hy hdy hne => by
      have hy2 : (upd H2 dy (HO.own y)) y = none := by rw [upd_ne (Ne.symm hne)]; exact hy
      have ok3 := (ok2.junk (o := .own y) hdy).newS (m := .ins C N (noneV N)) (o := .ins C dy []) hy2 ⟨dy, [], rfl, frep_new hN hl⟩
      have st := (ok2.stJ (o := .own y) hdy).trans (Ok.stS (m := .ins C N (noneV N)) (o := .ins C dy []) (ok2.junk (o := .own y) hdy) hy2)
      exact ⟨W2, _, pickK n m perm (.ref y :: ds) (es ++ dfl), _, X1, ok3, reps_pickK (ds := .ref y :: ds) (vs := .ref y :: vs) ⟨_, _, rfl, rfl, r1.mono s2.vis⟩ (r2.append (rd.mono same_no)), h2 y (ok2.fresh hy).2, fun d S3 v W3 H3 ⟨hd, h3⟩ s3 ok4 r4 => by
        subst hd
        exact ⟨r4, cv _ S3 _ W3 H3 h3 (s1.trans (s2.trans (st.trans s3))) ok4 rfl⟩, cx.mono (s1.trans (s2.trans st))⟩, cx.mono s1⟩, cx⟩
  refine PySem.W.callWith_KW (h₀ := X.base) I.ok.mod.kin M.kp hall (thn ((ha.run Wx tk).run pos pins s σ H _ I h1) fun us s1 ⟨vs, H1, I1, r, q⟩ => ?_) hpl he
  refine thn ((hkw.run Wx tk).run pos pins s1 σ H1 _ I1 q) fun ws s2 ⟨zs, H2, I2, rz, q2⟩ => ⟨I2.kIn, ?_⟩
  rw [hks]
  exact run_makeKS M F hr hb (passAt tk σ) I2 r rz q2
end
def MkAtKD (K : PySem.W.Frag) (C : Addr) (qual : Str) (st : Stmt) (ps ks : List Str) (n m : Nat) (perm : List Nat) (dfl : List D) : Prop := ∃ f fd, Fun K "__init__" qual st f fd ∧ Mk K C f ∧ ∃ dvs us0, Reps K (fun _ => none) dfl dvs ∧ KBinds K fd ps ks (fun us ws => pickK n m perm us (ws ++ us0)) (fun us ws => pickK n m perm us (ws ++ dvs))
def MkCKD (P : Program) (w : World) (K : PySem.W.Frag) (mg : Str → Option Value) (base : Heap) (C : Addr) (k : Nat) (ps ks : List Str) (n m : Nat) (perm : List Nat) (dfl : List D) (spec : Ctr) : Prop :=
  ∃ f fd, FnD P w K mg base k f fd ps spec ∧ Mk K C f ∧ ∃ dvs us0, Reps K (fun _ => none) dfl dvs ∧ KBinds K fd ps ks (fun us ws => pickK n m perm us (ws ++ us0)) (fun us ws => pickK n m perm us (ws ++ dvs))
theorem MkCKD.mk {P : Program} {w : World} {K : PySem.W.Frag} {mg : Str → Option Value} {base : Heap} {C : Addr} {qual : Str} {st : Stmt} {N ps ks : List Str} {k n m : Nat} {perm : List Nat} {dfl : List D} {spec : Ctr} {ws : WPs} (D : MkAtKD K C qual st ps ks n m perm dfl) (S : FnScope N ps (defScope st)) (hle : ps.length ≤ N.length)
    (len : ∀ ds S Q E, spec ds S Q E → ds.length = ps.length)
    (hd : ∀ (f : Addr) (cdv : Value) (A : Around) (outer : List Env) (s : Shared) (H : Hp) (E : XK), Room k (A.deeper (envOfC qual (defScope st) s.heap.objs.size f cdv)) → PDss (cxOf (L2.CX P w) P w K mg base N qual (defScope st) f cdv A outer s H E) (defBody st) ws)
    (hr : ∀ ds S Q X1, spec ds S Q X1 → ws (startD N ds) S (endQ Q X1)) : MkCKD P w K mg base C (k + 1) ps ks n m perm dfl spec := by
  obtain ⟨f, fd, F, hm, hb⟩ := D
  exact ⟨f, fd, fnd_mk F S hle len hd hr, hm, hb⟩
section
variable {X : Cx} {x : Str} {p pos : Pos} {e : Expr} {es : List Expr} {kws : List Keyword} {wa wk : WPa} {k n m : Nat} {perm : List Nat} {ps ks : List Str} {spec : Ctr} {C : Addr} {dfl : List D}
theorem pd_mkKD {N : List Str} (G : MkCKD X.prog X.w X.K X.mg X.base C k ps ks n m perm dfl spec) (hm : X.mg x = some (.ref C)) (hN : N.Nodup) (hl : N.length ≤ 900) (hr : Room (k + 1) X.A) (ha : PDa X (e :: es) wa) (hkw : PDk X kws wk)
    (hg : Gl X x := by rfl) (hdb : (x == ("__debug__" : Str)) = false := by decide) (hall : (backToKw pos (keywordEach kws X.env)).all (·.1.isSome) = true := by rfl) (hks : (backToKw pos (keywordEach kws X.env)).filterMap (·.1) = ks := by rfl)
    (he : starEach (e :: es) X.env = (false, eval e X.env) :: starEach es X.env := by rfl)
    (hpl : ((backTo pos (starEach (e :: es) X.env)).any (·.1) || (backToKw pos (keywordEach kws X.env)).any (·.1.isNone)) = false := by rfl) : PD X (.Call (.Name x p) (e :: es) kws pos) (wMakeKD C N spec n m perm dfl wa wk) := by
  obtain ⟨f, fd, F, M, dvs, us0, rd, hb⟩ := G
  exact pd_makeKD M hN hl F hr hm rd hb ha hkw hg hdb hall hks he hpl
end
theorem kbd_mk {K : PySem.W.Frag} {x qual : Str} {st : Stmt} {KD : Addr} {ps ks : List Str} {kws : List (Str × V)} {oc : Value} {od an : Option Addr} {osl : Array (Option Value)} {doc pm cdv ct : Value} {n m0 : Nat} {perm : List Nat} (hps : ps ≠ [])
    (hq : ∀ q ∈ kws, ∃ u, PySem.W.nsIn K KD q.1 = some (some u) ∧ RelV q.2 u)
    (h : ∀ (us ws k0 : List Value), us.length = n → ws.length = m0 → k0.length = kws.length →
      KwChain KD ((kws.map (·.1)).zip k0) (bindArgs (PySem.W.fnOf x qual (defArgs st) (defBody st) (defScope st) .none (.ref KD) doc pm an cdv ct) ⟨us, ks.zip ws⟩) (ps.zip (pick perm (us ++ (ws ++ k0))))) :
    ∃ us0, KBinds K (PySem.W.fnOf x qual (defArgs st) (defBody st) (defScope st) .none (.ref KD) doc pm an cdv ct) ps ks (fun us ws => pickK n (m0 + kws.length) perm us (ws ++ us0)) (fun us ws => pickK n (m0 + kws.length) perm us (ws ++ kws.map (·.2))) := by
  obtain ⟨k0, hl, rk, hks⟩ := kwd_vals hq
  refine ⟨k0, ?_, ?_⟩
  · intro s us ws X hlen
    unfold pickK at hlen ⊢
    rw [List.length_append, hl] at hlen ⊢
    by_cases q : us.length = n ∧ ws.length + kws.length = m0 + kws.length
    · rw [if_pos q]
      exact BindsTo.of_looks fun M => KwChain.looks X hks (h us ws k0 q.1 (by omega) hl)
    · rw [if_neg q] at hlen
      exact absurd (List.eq_nil_of_length_eq_zero hlen.symm) hps
  · intro vs us zs ws r1 r2
    unfold pickK
    rw [List.length_append, List.length_append, r1.length, r2.length, rk.length]
    by_cases q : us.length = n ∧ ws.length + k0.length = m0 + kws.length
    · rw [if_pos q, if_pos q]
      exact vals_pick (r1.append (r2.append rk)) perm
    · rw [if_neg q, if_neg q]
      exact .nil
end DL
set_option Elab.async false
set_option linter.all false
set_option maxRecDepth 100000
set_option maxHeartbeats 1000000
/-! The data layer, part ze: a local list that will not be changed any more behind a statement is taken as data from there on. -/
namespace DL
open PySem PySem.Spec PyProof.Rows L2
def wFrzV (i : Nat) (w : WPs) : WPs := fun env S q => w env S { q with nx := fun e S1 => some! (getV e i) fun d => frzD S1 d fun d2 S2 => q.nx (setV e i d2) S2 }
theorem pds_frzV {X : Cx} {st : Stmt} {w : WPs} {i : Nat} (h : PDs X st w) : PDs X st (wFrzV i w) :=
  ⟨fun Wx tk => PS.imp (h.run Wx tk) fun D σ H ⟨W, env, S, q, ok, sl, hl, hw, cs⟩ => ⟨W, env, S, _, ok, sl, hl, hw, fun e S1 σ1 W1 H1 h1 s1 ok1 sl1 hl1 => by
    obtain ⟨d, hd, h2⟩ := some!_ex h1
    obtain ⟨v, hv, rv⟩ := sl1 i d hd
    refine frz_go (Q := fun v' H2 => v' = v → D.nx σ1 H2) ok1 rv h2 (fun d2 S2 v2 W2 H2 q2 s2 ok2 r2 e2 => ?_) rfl
    subst e2
    have sl2 := (sl1.mono s2.vis).set (d := d2) (lt_of_some hv) r2
    have es : σ1.set i (some v2) = σ1 := by
      refine List.ext_getElem? fun j => ?_
      rw [List.getElem?_set]
      by_cases z : i = j
      · subst z
        rw [if_pos rfl, if_pos (lt_of_some hv), hv]
      · rw [if_neg z]
    rw [es] at sl2
    exact cs.nx _ S2 σ1 W2 H2 q2 (s1.trans s2) ok2 sl2 hl1, cs.rt, cs.bk, cs.ct, cs.xc⟩⟩
/-- list(range(n)), to be changed -/
def wListRgM (w : WPe) : WPe := fun env S Q X => w env S (fun d S1 => asI d fun n => (0 ≤ n ∧ n ≤ 16777216) ∧ ∀ p, S1 p = none → Q (.ref p) (DL.put S1 p (.lst (rngD 0 n.toNat)))) X
theorem pd_listRgM {X : Cx} {a : Expr} {w : WPe} {p pos p2 pos2 : Pos} (hc : X.calm = true) (hm : X.mg "list" = none) (hm2 : X.mg "range" = none) (ha : PD X a w) (hg : Gl X "list" := by rfl) (hg2 : Gl X "range" := by rfl)
    (na : starEach [.Call (.Name "range" p2) [a] [] pos2] X.env = (false, eval (.Call (.Name "range" p2) [a] [] pos2) X.env) :: starEach [] X.env := by rfl) (na2 : starEach [a] X.env = (false, eval a X.env) :: starEach [] X.env := by rfl) :
    PD X (.Call (.Name "list" p) [.Call (.Name "range" p2) [a] [] pos2] [] pos) (wListRgM w) :=
  ⟨fun Wx tk => PE.imp (pe_listRg hc hg hm (prg_1 hg2 hm2 (ha.run Wx tk) na2) na) fun σ H Q ⟨W, env, S, Q0, X1, ok, sl, hw, cv, cx⟩ => ⟨W, env, S, _, X1, ok, sl, hw, fun d S1 v W1 H1 h1 s1 ok1 r1 => by
    obtain ⟨n, rfl, hi, told⟩ := asI_ex h1
    exact ⟨n, r1, RgOk.of_le (Int.le_refl _) hi.2 (by decide) hi.1, fun q hq => cv _ _ _ _ _ (told q (ok1.fresh hq).2) (s1.trans (ok1.stS hq)) (ok1.newS hq ⟨_, rfl, rg_reps⟩) rfl⟩, cx⟩⟩
/-- the index of data in a list that may be data itself -/
def oIndexL : OM := fun S d ds Q => some! (seqM S d) fun xs => one ds fun e => layP S e ∧ PyData.canLayAll0 (toPs xs) = true ∧ xs.length ≤ sizeLine ∧
  ∃ (k : Nat) (y : PyData), (toPs xs)[k]? = some y ∧ PyData.eqv y (toP (resD S e)) = true ∧ (∀ (m : Nat) z, m < k → (toPs xs)[m]? = some z → PyData.eqv z (toP (resD S e)) = false) ∧ Q (.int (k : Nat)) S
theorem md_indexL {X : Cx} (hu : X.A.units + 64 < cLine) : MtR X "list.index" (lM X.K oIndexL) := by
  intro pins s σ H x vs v us Q I rx rv ⟨W, S, d, ds, Q0, ok, r, rs, ho, cv⟩
  obtain ⟨xs, e0, h⟩ := some!_ex ho
  obtain ⟨a, ws, rfl, e2, rvv⟩ := seqM_rep ok r e0
  obtain ⟨e, rfl, ⟨l1, l2⟩, c2, c3, k, y, k1, k2, k3, q⟩ := one_ex h
  obtain ⟨w, rfl, rw_⟩ := reps1 rs
  obtain ⟨u, rfl, ru⟩ := rv.one
  cases rx
  obtain ⟨z, its, n, rI, hl, eI⟩ := I.lstM e2
  obtain ⟨bs, r1⟩ := Dp.reads I _ w u (dp_lay ok rw_ l1) ru
  obtain ⟨as, r2⟩ := Dp.readsAll I _ ws its (dps_of ok.vis rvv c2) rI
  have hd := PyData.plain_of_canLay0 _ l1
  have hxs := PyData.plainAll_of_canLay0 _ c2
  have em := SeqAt.readsAll_map_plain _ _ _ hxs r2
  have at_ : ∀ (m : Nat) (t : Value), its[m]? = some t → (toPs xs)[m]? = some (SeqAt.readOf s.heap t) := fun m t ht => by
    rw [← em, List.getElem?_map, ht]; rfl
  obtain ⟨t, ht, et⟩ : ∃ t, its[k]? = some t ∧ SeqAt.readOf s.heap t = y := by
    rw [← em, List.getElem?_map] at k1
    obtain ⟨t, h1, h2⟩ := Option.map_eq_some_iff.mp k1
    exact ⟨t, h1, h2⟩
  have hk := lt_of_some ht
  have hits : its.length = xs.length := by
    have h1 := congrArg List.length em
    have h2 : ∀ xs : List D, (toPs xs).length = xs.length := fun xs => by
      induction xs with
      | nil => rfl
      | cons x r ih => show (toPs r).length + 1 = _; rw [ih]; rfl
    rw [List.length_map, h2] at h1
    exact h1
  have hz := c3
  rw [sizeLine_eq] at hz
  have hEq := SeqAt.items_plain (A := X.A) (vs := its.toArray) (by simpa using r2) r1 hxs hd (by have := Nat.min_le_right (PyData.depthAll (toPs xs)) (toP (resD S e)).depth; omega)
  generalize toP (resD S e) = de at *
  refine call_meets F.slot_list_index ⟨_, eI, rfl⟩ F.entry_list_index (F.args_list_index_2 _ _)
    (SeqAt.list_index2_found a its.toArray n none #[] u (fun j => PyData.eqv (SeqAt.readOf s.heap (its[j]?.getD .none)) de) k (by simpa using hk) (Nat.zero_le _) (by omega) (by rw [ht]; show PyData.eqv (SeqAt.readOf s.heap t) de = true; rw [et]; exact k2) ?_) ⟨eI, fun j hj => ?_, ?_⟩
  · intro m hm _ hlt
    have hm' : m < its.length := by simpa using hm
    rw [List.getElem?_eq_getElem hm']
    exact k3 m _ hlt (at_ m _ (List.getElem?_eq_getElem hm'))
  · have hj' : j < its.length := by simpa using hj
    rw [List.getElem?_eq_getElem hj']
    exact hEq _ (by simp)
  · exact ⟨.int (k : Nat), H, I.tok _, ⟨_, rfl⟩, cv _ S _ W H q Stp.refl ok rfl⟩
/-- a method of a list that may be data itself -/
def wMtL (o : OM) (wo : WPe) (wa : WPa) : WPe := fun env S Q X => wo env S (fun x S1 => some! (seqM S1 x) fun _ => wa env S1 (fun ds S2 => o S2 x ds Q) X) X
section
variable {X : Cx} {o e : Expr} {es : List Expr} {name : Str} {apos cpos : Pos} {mid : String} {om : OM} {wo : WPe} {wa : WPa}
theorem pd_lmL (slot : Slot "list" name mid) (hty : typeOf (.builtin mid) = pure (.type "method_descriptor")) (hm : MtR X mid (lM X.K om)) (ho : PD X o wo) (ha : PDa X (e :: es) wa)
    (hbase : attributeBase o name X.env (eval o X.env) = eval o X.env := by rfl)
    (hfew : ((backTo cpos (starEach (e :: es) X.env)).all (fun x => !x.1) && (backToKw cpos (keywordEach [] X.env)).all (fun x => x.1.isSome)
      && decide ((e :: es).length + ([] : List Keyword).length + (if ([] : List Keyword).isEmpty then 0 else 1) < 30)) = true := by rfl)
    (hline : (apos.endLine == cpos.line) = true := by rfl) (hs : starEach (e :: es) X.env = (false, eval e X.env) :: starEach es X.env := by rfl) (hplain : (backTo cpos (starEach es X.env)).any (·.1) = false := by rfl) :
    PD X (.Call (.Attribute o name apos) (e :: es) [] cpos) (wMtL om wo wa) :=
  ⟨fun Wx tk => PE.imp (pe_bm PySem.F.plainAttrs_list slot hty hm (ho.run Wx tk) (ha.run Wx tk) hbase hfew hline hs hplain) fun σ H Q ⟨W, env, S, Q0, X1, ok, sl, hw, cv, cx⟩ => ⟨W, env, S, _, X1, ok, sl, hw, fun d S1 v W1 H1 h1 s1 ok1 r1 => by
    obtain ⟨xs, e0, h2⟩ := some!_ex h1
    obtain ⟨a, vs, rfl, e2, rv⟩ := seqM_rep ok1 r1 e0
    exact ⟨.inl ⟨rfl, vs, SqL.of e2⟩, W1, env, S1, _, X1, ok1, sl.mono s1.vis, h2, fun ds S2 us W2 H2 h3 s2 ok2 r2 => ⟨W2, S2, _, ds, Q0, ok2, r1.mono s2.vis, r2, h3, cv.mono (s1.trans s2)⟩, cx.mono s1⟩, cx⟩⟩
end
end DL
set_option Elab.async false
set_option linter.all false
set_option maxRecDepth 100000
set_option maxHeartbeats 1000000
/-! The data layer, part zf: own classes that bring their own ==: x == y, x != y, isinstance(x, own class). -/
namespace DL
open PySem PySem.Spec PyProof.Rows L2
section
variable {prog : Program} {w : World} {A : Around} {E : Value → Shared → Prop} {s : Shared} {K : PySem.W.Frag} {x C L f : Addr} {h₀ : Heap} {m : Str → Option Value} {ox : Obj} {od : Option Obj} {b tb : Value}
theorem ne_bound {M : Model} {args : List Value} {Q : Option Value → Shared → Prop} (X : K.In s.heap) (I : PySem.W.InstAt s.heap x ox C od) (hs : PySem.W.findIn K (.ref C) "__ne__" = some (some (.builtin "object.__ne__")))
    (h : wpAny M A (call (.builtin "object.__ne__") (.ref x :: args)) (fun v => Q (some v)) E s) : wpAny M A (callSpecialIfBound? (.ref x) "__ne__" args) Q E s := by
  simp only [callSpecialIfBound?, bindSpecialIfBound?]
  refine wpAny_holding (wpAny_bind (wpAny_bind (wpAny_bind (I.type.here ((PySem.W.looks_findIn X hs).here ?_)))))
  simp only [PySem.F.cmp_object.ne.bind]
  refine wpAny_bind (wpAny_askSetting (wpAny_ite ?_))
  have fin : wpAny M A (call (.builtin "object.__ne__") ([.ref x] ++ args) >>= fun v => pure (some v)) Q E s := wpAny_bind (wpAny_mono h (fun v s' h' => wpAny_pure h') fun _ _ h' => h')
  split
  · exact wpAny_bind (wpAny_pure (wpAny_pure fin))
  · exact wpAny_tryCatch (wpAny_bind (wpAny_pure (wpAny_pure fin)))
theorem ne_entry {Q : Fin → Shared → Prop} (hu : A.units < cLine) (X : K.In s.heap) (I : PySem.W.InstAt s.heap x ox C od) (hs : PySem.W.findIn K (.ref C) "__eq__" = some (some (.ref f))) (hf : PySem.W.isFn K (.ref f) = true)
    (hcall : wpAny (model prog w) A (call (.ref f) [.ref x, b]) (fun v s' => ∃ q, v = .bool q ∧ Q (.done (.ret (.bool (!q)))) s') E s) :
    wpAny (model prog w) A (Builtin.«object.__ne__» ⟨[.ref x, b], []⟩) Q E s := by
  unfold Builtin.«object.__ne__»
  repeat (first
    | with_reducible refine wpAny_cRoomFor hu ?_
    | (refine wpAny_bind (m := callSpecialIfBound? (.ref x) (Str.ofString "__eq__") [b])
        (PySem.W.ifBound_K X I hs hf (wpAny_mono hcall (fun r s' hr => by
          obtain ⟨q, rfl, hq⟩ := hr
          repeat (first | exact hq | exact wpAny_pure hq | exact wpAny_truthy_bool hq | (refine wpAny_bind (m := truthy (.bool _)) (wpAny_truthy_bool ?_)) | wp_step)) fun _ _ e => e)))
    | wp_step)
theorem cmp_ne_K {Q : Value → Shared → Prop} (hu : A.units + 1 < cLine) (F : Fr h₀ L s.heap m) (X₀ : K.In h₀) (I : PySem.W.InstAt s.heap x ox C od) (hb : PySem.W.Looks (model prog w) s.heap (typeOf b) tb) (hn : PySem.W.notFirst K C tb = true)
    (hs : PySem.W.findIn K (.ref C) "__eq__" = some (some (.ref f))) (hf : PySem.W.isFn K (.ref f) = true) (hne : PySem.W.findIn K (.ref C) "__ne__" = some (some (.builtin "object.__ne__"))) (hm : PySem.W.mroIn K C (.type "object") = some true)
    (h : wpAny (model prog w) A.in1 (call (.ref f) [.ref x, b]) (fun v s' => ∃ q, v = .bool q ∧ Q (.bool (!q)) s') E s) : wpAny (model prog w) A (richCompare .NotEq (.ref x) b) Q E s := by
  have X := X₀.keeps F.keep
  have one : wpAny (model prog w) A (tryCompare (.ref x) "__ne__" b) (fun r s' => ∃ v, r = some v ∧ Q v s') E s := by
    unfold tryCompare
    refine wpAny_bind (ne_bound X I hne (wpAny_call (codeAny_call_builtin PySem.F.cmp_object.ne.plain PySem.F.cmpEntry_ne
      (PySem.W.check_slot PySem.F.cmpKind_ne PySem.F.cmpSplit_ne (I.type.andThen (PySem.W.looks_mroIn X hm)) (PySem.F.cmpArgs_ne _ _)
        (ne_entry (A := A.in1) (by show A.in1.units < cLine; rw [Around.in1_units]; exact hu) X I hs hf (wpAny_mono h (fun v s' hv => ?_) fun _ _ e => e))))))
    obtain ⟨q, rfl, hq⟩ := hv
    first | exact ⟨q, rfl, wpAny_pure ⟨_, rfl, hq⟩⟩ | exact ⟨q, rfl, wpAny_pure (wpAny_pure ⟨_, rfl, hq⟩)⟩
  unfold richCompare
  simp only [oneThing_ref]
  refine wpAny_holding (wpAny_bind (wpAny_cRoomFor (Nat.lt_of_succ_lt hu) ?_))
  rw [cmpInfo_NotEq]
  dsimp only
  refine wpAny_bind (I.type.here (wpAny_bind (hb.here ?_)))
  split
  · rename_i q
    have e : PySem.W.subIn K tb (.ref C) = some false := by
      rcases Bool.or_eq_true_iff.mp hn with e | e
      · rw [beq_iff_eq.mp e] at q; simp at q
      · exact beq_iff_eq.mp e
    refine wpAny_bind ((PySem.W.looks_subIn X e).here ?_)
    simp only [Bool.false_eq_true, if_false]
    refine wpAny_bind (wpAny_mono one (fun r s' z => ?_) fun _ _ e => e)
    obtain ⟨v, rfl, hq⟩ := z
    exact wpAny_pure hq
  · refine wpAny_bind (wpAny_pure ?_)
    simp only [Bool.false_eq_true, if_false]
    refine wpAny_bind (wpAny_mono one (fun r s' z => ?_) fun _ _ e => e)
    obtain ⟨v, rfl, hq⟩ := z
    exact wpAny_pure hq
end
/-! ### types -/
theorem ld_cls {M : Model} {h : Heap} {a : Addr} {o : Obj} (e : h.get? a = some o) : PySem.W.Looks M h (typeOf (.ref a)) o.cls := by
  unfold typeOf
  exact (PySem.W.Looks.ld e).andThen .now
theorem subT {K : PySem.W.Frag} {n : String} {C : Addr} (h : (fastBuiltinMro n).isSome = true) : PySem.W.subIn K (.type n) (.ref C) = some false := by
  show (fastBuiltinMro n).map (·.contains (.ref C)) = some false
  unfold fastBuiltinMro at h ⊢
  cases e : fastFind? n with
  | none => rw [e] at h; cases h
  | some x =>
    show some ((x.mro.map Value.type).contains (.ref C)) = some false
    congr 1
    have key : ∀ l : List String, (l.map Value.type).contains (Value.ref C) = false := by
      intro l
      induction l with
      | nil => rfl
      | cons y r ih => rw [List.map_cons, List.contains_cons, ih, Bool.or_false]; simp
    exact key _
section
variable {X : Cx} {pins : List (Addr × Obj)} {σ : L2.St} {H : Hp} {s : Shared}
theorem ty_looks {x : V} {u t : Value} {M : Model} (I : L2.Inv X pins σ H s) (rx : RelV x u) (ty : TyX X.K H x t) : PySem.W.Looks M s.heap (typeOf u) t := by
  cases ty with
  | base b =>
    cases b with
    | non => cases (show u = Value.none from rx); exact .of_pure rfl
    | bl y => cases (show u = Value.bool y from rx); exact .of_pure rfl
    | int i => obtain ⟨t, q⟩ := (show ∃ t, u = Value.int i t from rx); cases q; exact .of_pure rfl
    | str y => obtain ⟨t, q⟩ := (show ∃ t, u = Value.str y t from rx); cases q; exact .of_pure rfl
    | flt y => obtain ⟨t, q⟩ := (show ∃ t, u = Value.float y t from rx); cases q; exact .of_pure rfl
    | @lst a xs ea =>
      cases (show u = Value.ref a from rx)
      obtain ⟨_, _, n, _, h1⟩ := (show ObjOk X.prog X.w H s.heap a (.lst xs) from I.hok a _ ea)
      exact ld_cls h1
    | @frz a ob xs ea =>
      cases (show u = Value.ref a from rx)
      obtain ⟨_, _, _, n, _, h1⟩ := (show ObjOk X.prog X.w H s.heap a (.frz ob (.lst xs)) from I.hok a _ ea)
      exact ld_cls h1
    | @tup a xs ea =>
      cases (show u = Value.ref a from rx)
      obtain ⟨_, _, _, o, h1, h2, _⟩ := (show ObjOk X.prog X.w H s.heap a (.tup xs) from I.hok a _ ea)
      have := ld_cls (M := M) h1
      rwa [h2] at this
    | @dK a kvs ea =>
      cases (show u = Value.ref a from rx)
      obtain ⟨_, _, vs, _, o, es, ep, h1, h2, _⟩ := (show ObjOk X.prog X.w H s.heap a (.dK kvs) from I.hok a _ ea)
      have := ld_cls (M := M) h1
      rwa [h2.1] at this
    | @dT a kvs ea =>
      cases (show u = Value.ref a from rx)
      obtain ⟨_, _, xs, _, o, es, ep, h1, h2, _⟩ := (show ObjOk X.prog X.w H s.heap a (.dT kvs) from I.hok a _ ea)
      have := ld_cls (M := M) h1
      rwa [h2.1] at this
    | @ins a C dx fs ea cl ha hn htk hm =>
      cases (show u = Value.ref a from rx)
      obtain ⟨mA, O, _⟩ := ins_get I.hok ea
      obtain ⟨od, J, _⟩ := O.look
      exact J.type
  | byt y => obtain ⟨t, q⟩ := (show ∃ t, u = Value.bytes y t from rx); cases q; exact .of_pure rfl
  | @set a S n ea =>
    cases (show u = Value.ref a from rx)
    obtain ⟨o, _, _, _, e, ex, _⟩ := I.hok a _ ea
    have := ld_cls (M := M) e
    rwa [ex.1] at this
  | @kList a o e c =>
    cases (show u = Value.ref a from rx)
    have := ld_cls (M := M) (I.kIn a o e)
    rwa [c] at this
  | @kTuple a o e c =>
    cases (show u = Value.ref a from rx)
    have := ld_cls (M := M) (I.kIn a o e)
    rwa [c] at this
  | @kDict a o e c =>
    cases (show u = Value.ref a from rx)
    have := ld_cls (M := M) (I.kIn a o e)
    rwa [c] at this
  | @fTuple a ob xs ea =>
    cases (show u = Value.ref a from rx)
    obtain ⟨_, _, _, _, o, h1, h2, _⟩ := (show ObjOk X.prog X.w H s.heap a (.frz ob (.tup xs)) from I.hok a _ ea)
    have := ld_cls (M := M) h1
    rwa [h2] at this
  | @fDict a ob kvs ea =>
    cases (show u = Value.ref a from rx)
    obtain ⟨_, _, _, vs, _, o, es, ep, h1, h2, _⟩ := (show ObjOk X.prog X.w H s.heap a (.frz ob (.dK kvs)) from I.hok a _ ea)
    have := ld_cls (M := M) h1
    rwa [h2.1] at this
theorem run_in {A : Around} {CX : CXT} {k : Nat} {f : Addr} {fd : FuncData} {ps : List Str} {sp : Sp} {E : L2.St → XK} {Q : VK} {us : List Value} {vs : List V} (F : FnOk X.prog X.w X.K X.mg X.base CX k f fd ps sp) (hr : Room k A) (e0 : Env0 X.prog X.w X.K X.mg X.base A X.stack s H) (hb : Binds X.K fd ps []) (hx : PassesAt CX X σ (E σ))
    (I : L2.Inv X pins σ H s) (r : Vals vs us) (h : sp vs H Q (E σ)) : wpAny (model X.prog X.w) A (call (.ref f) us) (EP X pins σ Q) X.xe s := by
  have hl : us.length = ps.length := by rw [← r.length]; exact F.len _ _ _ _ h
  have b := hb s us I.kIn (by rw [List.append_nil]; exact hl)
  rw [List.append_nil] at b
  refine wpAny_call (codeAny_mono (F.run A X.stack s H ⟨us, []⟩ us vs Q (E σ) hr e0 b r h) fun r s' hq => ?_)
  cases r with
  | error e => exact hx pins H s e s' I hq
  | ok fl =>
    cases fl with
    | ret u => exact I.after hq
    | next => exact False.elim hq
    | brk => exact False.elim hq
    | cont => exact False.elim hq
end
/-! ### x == y and x != y by an own class's == -/
def othD (C : Addr) (N : List Str) (S : Sto) (y : D) : Prop := isIns C N S y ∨ ∃ nm, tyN S y = some nm ∧ (fastBuiltinMro nm).isSome = true
def oEqO (C : Addr) (N : List Str) (spec : Ctr) : O2 := fun S x y Q => isIns C N S x ∧ othD C N S y ∧ spec [x, y] S (fun d S' => ∃ b, d = .bl b ∧ Q (.bl b) S') (fun _ _ _ => False)
def oNeO (C : Addr) (N : List Str) (spec : Ctr) : O2 := fun S x y Q => isIns C N S x ∧ othD C N S y ∧ spec [x, y] S (fun d S' => ∃ b, d = .bl b ∧ Q (.bl (!b)) S') (fun _ _ _ => False)
theorem oth_looks {X : Cx} {pins : List (Addr × Obj)} {σ : L2.St} {H W : Hp} {s : Shared} {S : Sto} {C : Addr} {N : List Str} {y : D} {v : V} {u : Value} {M : Model} (I : L2.Inv X pins σ H s) (ok : Ok X.K W S H) (r : Rep X.K W y v) (ru : RelV v u) (h : othD C N S y) (hN : ("__eq__" : Str) ∉ N) :
    ∃ tb, PySem.W.Looks M s.heap (typeOf u) tb ∧ PySem.W.notFirst X.K C tb = true := by
  rcases h with h | ⟨nm, h1, h2⟩
  · obtain ⟨p1, dx1, fs1, rfl, at1, _⟩ := isIns_rep ok r h hN
    obtain rfl : u = Value.ref p1 := ru
    obtain ⟨_, i1, _⟩ := ins_get I.hok at1
    obtain ⟨_, J1, _⟩ := i1.look
    exact ⟨.ref C, J1.type, by unfold PySem.W.notFirst; simp⟩
  · exact ⟨.type nm, ty_looks I ru (tyN_rep ok r h1), by unfold PySem.W.notFirst; rw [subT h2]; simp⟩
theorem opd_eqO {X : Cx} {C : Addr} {k : Nat} {N ps : List Str} {spec : Ctr} (G : MtC X.prog X.w X.K X.mg X.base C k "__eq__" ps spec) (hN : ("__eq__" : Str) ∉ N) (hr : Room k X.A) :
    OpR X (compareOp .Eq) (lOp X.K (oEqO C N spec)) := fun pins s σ H x y v u Q I rx ry ⟨W, S, d1, d2, Q0, okS, rep1, rep2, ⟨in1, in2, told⟩, cv⟩ => by
  obtain ⟨f, fd, F, hmet, hbind⟩ := G
  obtain ⟨tb, hb, hn⟩ := oth_looks (M := model X.prog X.w) I okS rep2 ry in2 hN
  obtain ⟨p1, dx1, fs1, rfl, at1, _⟩ := isIns_rep okS rep1 in1 hN
  obtain rfl : v = Value.ref p1 := rx
  obtain ⟨_, i1, _⟩ := ins_get I.hok at1
  obtain ⟨_, J1, _⟩ := i1.look
  obtain ⟨_, frame⟩ := I.fr
  have call := run_in (E := fun _ _ _ _ => False) (A := X.A) (us := [.ref p1, u]) (vs := [.ref p1, y]) (Q := fun z H' => ∃ b, z = V.bl b ∧ Q (.bl b) H') F hr I.env0 hbind (fun _ _ _ _ _ _ h => (cx_no h).elim) I (.cons rfl (.cons ry .nil))
      ⟨W, S, [d1, d2], _, fun _ _ _ => False, okS, ⟨_, _, rfl, rep1, ⟨_, _, rfl, rep2, rfl⟩⟩, told, fun d S' z W' H' ⟨b, e1, h2⟩ st ok' r' => by
        subst e1
        exact ⟨b, r', cv _ S' _ W' H' h2 st ok' rfl⟩, fun _ _ _ _ _ _ _ h => h.elim⟩
  show wpAny _ X.A (richCompare .Eq (.ref p1) u) _ _ s
  refine PySem.W.cmp_K (op := .Eq) hr.units0 frame I.ok.mod.kin J1 hb hn hmet.at_ hmet.fn (wpAny_mono call (fun r s' ⟨z, H', I', rz, b, ez, q⟩ => ?_) fun _ _ h => h)
  subst ez
  obtain rfl : r = Value.bool b := rz
  exact ⟨.bl b, H', I', rfl, q⟩
theorem opd_neO {X : Cx} {C : Addr} {k : Nat} {N ps : List Str} {spec : Ctr} (G : MtC X.prog X.w X.K X.mg X.base C k "__eq__" ps spec) (hN : ("__eq__" : Str) ∉ N) (hr : Room (k + 1) X.A) (hne : PySem.W.findIn X.K (.ref C) "__ne__" = some (some (.builtin "object.__ne__"))) (hm : PySem.W.mroIn X.K C (.type "object") = some true) :
    OpR X (compareOp .NotEq) (lOp X.K (oNeO C N spec)) := fun pins s σ H x y v u Q I rx ry ⟨W, S, d1, d2, Q0, okS, rep1, rep2, ⟨in1, in2, told⟩, cv⟩ => by
  obtain ⟨f, fd, F, hmet, hbind⟩ := G
  obtain ⟨tb, hb, hn⟩ := oth_looks (M := model X.prog X.w) I okS rep2 ry in2 hN
  obtain ⟨p1, dx1, fs1, rfl, at1, _⟩ := isIns_rep okS rep1 in1 hN
  obtain rfl : v = Value.ref p1 := rx
  obtain ⟨_, i1, _⟩ := ins_get I.hok at1
  obtain ⟨_, J1, _⟩ := i1.look
  obtain ⟨_, frame⟩ := I.fr
  have call := run_in (E := fun _ _ _ _ => False) (A := X.A.in1) (us := [.ref p1, u]) (vs := [.ref p1, y]) (Q := fun z H' => ∃ b, z = V.bl b ∧ Q (.bl (!b)) H') F (Room.in1 hr) I.env0.in1 hbind (fun _ _ _ _ _ _ h => (cx_no h).elim) I (.cons rfl (.cons ry .nil))
      ⟨W, S, [d1, d2], _, fun _ _ _ => False, okS, ⟨_, _, rfl, rep1, ⟨_, _, rfl, rep2, rfl⟩⟩, told, fun d S' z W' H' ⟨b, e1, h2⟩ st ok' r' => by
        subst e1
        exact ⟨b, r', cv _ S' _ W' H' h2 st ok' rfl⟩, fun _ _ _ _ _ _ _ h => h.elim⟩
  show wpAny _ X.A (richCompare .NotEq (.ref p1) u) _ _ s
  refine cmp_ne_K (by have := hr.units; omega) frame I.ok.mod.kin J1 hb hn hmet.at_ hmet.fn hne hm (wpAny_mono call (fun r s' ⟨z, H', I', rz, b, ez, q⟩ => ?_) fun _ _ h => h)
  subst ez
  obtain rfl : r = Value.bool b := rz
  exact ⟨b, rfl, .bl (!b), H', I', rfl, q⟩
/-! ### isinstance(x, own class) -/
/-- what the written part tells of an own class -/
structure OwnC (K : PySem.W.Frag) (C : Addr) : Prop where
  cl : Cls K C
  ca : PySem.W.findIn K (.ref C) "__class__" = some (some (.builtin "object.__class__"))
  cg : PySem.W.specialIn K (.builtin "object.__class__") "__get__" = some (some (.builtin "getset_descriptor.__get__"))
  ct : PySem.W.takesIn K (.builtin "object.__class__") = some true
  mo : PySem.W.mroIn K C (.type "object") = some true
  ic : PySem.W.isClsIn K C = true
  ty : PySem.W.typeIn K (.ref C) = some (.type "type")
theorem kitT_of {K : PySem.W.Frag} {C : Addr} {n : String} (O : OwnC K C) (h : (fastBuiltinMro n).isSome = true) : PySem.W.kitOne K (.type n) (.ref C) = some false := by
  unfold PySem.W.kitOne
  rw [if_neg (by simp)]
  have e2 : ((PySem.W.clsIn K C).isSome && PySem.W.typeIn K (.ref C) == some (.type "type")) = true := by
    have h2' : (PySem.W.clsIn K C).isSome = true := O.ic
    rw [h2', O.ty] <;> rfl
  show (if ((PySem.W.clsIn K C).isSome && PySem.W.typeIn K (.ref C) == some (.type "type")) = true then PySem.W.subIn K (.type n) (.ref C) else none) = some false
  rw [if_pos e2]
  exact subT h
def wIsO (C : Addr) (N : List Str) (w : WPe) : WPe := fun env S Q X => w env S (fun d S1 => (isIns C N S1 d ∧ Q (.bl true) S1) ∨ ((∃ nm, tyN S1 d = some nm ∧ (fastBuiltinMro nm).isSome = true) ∧ Q (.bl false) S1)) X
theorem pd_isO {X : Cx} {e e2 : Expr} {w : WPe} {p pos : Pos} {C : Addr} {N : List Str} (O : OwnC X.K C) (hN : ("__eq__" : Str) ∉ N) (he : PD X e w) (hc : PE X e2 (tC (.ref C))) (hm : X.mg "isinstance" = none) (hg : Gl X "isinstance" := by rfl)
    (hs : starEach [e, e2] X.env = (false, eval e X.env) :: starEach [e2] X.env := by rfl) (hs2 : starEach [e2] X.env = [(false, eval e2 X.env)] := by rfl) (hpl : (backTo pos (starEach [e2] X.env)).any (·.1) = false := by rfl) :
    PD X (.Call (.Name "isinstance" p) [e, e2] [] pos) (wIsO C N w) :=
  ⟨fun Wx tk => PE.imp (pe_callB call_isi hg hm (by decide +kernel) (pa_cons (he.run Wx tk) (pa_cons hc pa_nil hs2) hs) (by decide) (by decide) hs hpl) fun σ H Q ⟨W, env, S, Q0, X1, ok, sl, hw, cv, cx⟩ => ⟨W, env, S, _, X1, ok, sl, hw, fun d S1 v W1 H1 h1 s1 ok1 r1 => by
    rcases h1 with ⟨hi, h1⟩ | ⟨⟨nm, e1, e2⟩, h1⟩
    · obtain ⟨a, dx, fs, rfl, hat, _⟩ := isIns_rep ok1 r1 hi hN
      exact ⟨.ref a, .ref C, .ref C, .ref C, true, rfl, .own C, .base (.ins hat O.cl O.ca O.cg O.ct O.mo), kit_self, cv _ S1 _ W1 H1 h1 s1 ok1 rfl⟩
    · exact ⟨v, .ref C, .type nm, .ref C, false, rfl, .own C, tyN_rep ok1 r1 e1, kitT_of O e2, cv _ S1 _ W1 H1 h1 s1 ok1 rfl⟩, cx⟩⟩
theorem mro_non : (fastBuiltinMro "NoneType").isSome = true := by decide +kernel
theorem mro_int : (fastBuiltinMro "int").isSome = true := by decide +kernel
theorem mro_str : (fastBuiltinMro "str").isSome = true := by decide +kernel
theorem mro_tup : (fastBuiltinMro "tuple").isSome = true := by decide +kernel
theorem mro_lst : (fastBuiltinMro "list").isSome = true := by decide +kernel
theorem mro_bl : (fastBuiltinMro "bool").isSome = true := by decide +kernel
end DL
set_option Elab.async false
set_option linter.all false
set_option maxRecDepth 100000
set_option maxHeartbeats 1000000
/-! The data layer, part zg: a def that calls itself, called while an exception is handled. -/
namespace DL
open PySem PySem.Spec PyProof.Rows L2
section
variable {P : Program} {w : World} {K : PySem.W.Frag} {mg : Str → Option Value} {base : Heap} {x qual : Str} {st : Stmt} {ps : List Str} {k : Nat}
theorem FnTC.zero (D : DefAt K mg x qual st ps) : FnTC P w K mg base k x ps (fun _ _ _ _ _ _ _ => False) := by
  obtain ⟨f, fd, F, hm, hb⟩ := D
  exact ⟨fun _ _ _ _ _ _ _ _ h => h, f, fd, ⟨fun _ _ _ _ _ _ _ h => h.elim, fun _ _ _ _ _ _ _ _ _ _ _ _ _ _ _ _ _ _ _ _ ⟨_, _, _, _, _, _, _, h, _⟩ => h.elim⟩, hm, F.kp, hb⟩
theorem FnTC.imp {spec spec' : Addr → Addr → Addr → Ctr} (F : FnTC P w K mg base k x ps spec) (nox : ∀ a dd C ds S Q E E', spec' a dd C ds S Q E → spec' a dd C ds S Q E') (h : ∀ a dd C ds S Q X1, spec' a dd C ds S Q X1 → spec a dd C ds S Q X1) : FnTC P w K mg base k x ps spec' := by
  obtain ⟨_, f, fd, G, r⟩ := F
  exact ⟨nox, f, fd, ⟨fun a dd C ds S Q E z => G.len a dd C ds S Q E (h _ _ _ _ _ _ _ z), fun a dd C oe A outer s H args us vs Q h1 h2 h3 h4 h5 h6 h7 h8 ⟨W, S, ds, Q0, X1, ok, rr, hs, cv, cx⟩ =>
    G.run a dd C oe A outer s H args us vs Q h1 h2 h3 h4 h5 h6 h7 h8 ⟨W, S, ds, Q0, X1, ok, rr, h _ _ _ _ _ _ _ hs, cv, cx⟩⟩, r⟩
theorem FnTC.mono {spec : Addr → Addr → Addr → Ctr} {k' : Nat} (F : FnTC P w K mg base k x ps spec) (h : k ≤ k') : FnTC P w K mg base k' x ps spec := by
  obtain ⟨nox, f, fd, G, r⟩ := F
  exact ⟨nox, f, fd, ⟨G.len, fun a dd C oe A outer s H args us vs Q h1 => G.run a dd C oe A outer s H args us vs Q (h1.mono h)⟩, r⟩
end
/-! ### a statement that is never reached -/
def wNever : WPs := fun _ _ _ => False
theorem pds_never {X : Cx} {st : Stmt} : PDs X st wNever := ⟨fun Wx tk => ⟨fun pins s σ H D I h => by
  obtain ⟨_, _, _, _, _, _, _, z, _⟩ := h
  exact z.elim⟩⟩
end DL
set_option Elab.async false
set_option linter.all false
set_option maxRecDepth 100000
set_option maxHeartbeats 1000000
/-! The data layer, part zh: targets that look into the store (a, b = a list), properties, methods called by keyword, slices and repetitions that are to be changed. -/
namespace DL
open PySem PySem.Spec PyProof.Rows L2
/-! ### targets that look into the store -/
def lGS (K : PySem.W.Frag) (n : Nat) (vs : List Nat) (t : Sto → WPg) : TG := fun v σ H Q => ∃ W S env d k, Ok K W S H ∧ Sl K W env σ ∧ σ.length = n ∧ Rep K W d v ∧ t S d env k ∧
  ∀ e σ', k e → Sl K W e σ' → σ'.length = n → wipe σ' vs = wipe σ vs → Q σ' H
structure PDgS (X : Cx) (tg : Expr) (vs : List Nat) (t : Sto → WPg) : Prop where
  run : PG X tg (lGS X.K X.N.length vs t)
/-- the parts of a tuple or of a list -/
def gU (gs : List WPg) : Sto → WPg := fun S d env k => some! (seqA S d) fun xs => xs.length = gs.length ∧ gAll gs xs env k
theorem pdg_U {X : Cx} {pos : Pos} {vs : List Nat} {es : List Expr} {ts : List WPg} {z : Nat} (hc : X.calm = true) (h : PDgs X es vs ts) (hn : (assignEach es X.env).length = ts.length := by rfl) (hst : (assignEach es X.env).findIdx? (·.1) = none := by rfl) : PDgS X (.Tuple es z pos) vs (gU ts) :=
  ⟨⟨fun pins s σ H v u Q I rv ⟨W, S, env, d, k, ok, sl, hl, r, ht, hq⟩ => by
    obtain ⟨xs, e1, hlen, ht⟩ := some!_ex ht
    obtain ⟨a, us, rfl, hs, e3⟩ := seqA_rep ok r e1
    rcases hs with hs | hs
    · exact (pg_lst hc h.run hn hst).run pins s σ H _ u Q I rv ⟨a, us, rfl, hs, by rw [e3.length]; exact hlen, W, S, env, xs, k, ok, sl, hl, e3, ht, hq⟩
    · exact (pg_tup hc h.run hn hst).run pins s σ H _ u Q I rv ⟨a, us, rfl, hs, by rw [e3.length]; exact hlen, W, S, env, xs, k, ok, sl, hl, e3, ht, hq⟩⟩⟩
def wAsgS (t : Sto → WPg) (w : WPe) : WPs := fun env S q => w env S (fun d S1 => t S1 d env fun e => q.nx e S1) (xcQ q env)
theorem pds_asgS {X : Cx} {tg e : Expr} {vs : List Nat} {t : Sto → WPg} {w : WPe} {pos : Pos} (he : PD X e w) (hg : PDgS X tg vs t) (hs : swapsWithSole [tg] e pos.line X.env = pure false := by rfl) (hw : swappedStores [tg] e X.env = pure none := by rfl)
    (h1 : (assignEach [tg] X.env).map (·.2) = [assign tg X.env] := by rfl) : PDs X (.Assign [tg] e pos) (wAsgS t w) :=
  ⟨fun Wx tk => PS.imp (ps_asg (he.run Wx tk) hg.run hs hw h1) fun D σ H ⟨W, env, S, q, ok, sl, hl, hw, cs⟩ => ⟨W, env, S, _, _, ok, sl, hw, fun d S1 v W1 H1 h1 s1 ok1 r1 =>
    ⟨W1, S1, env, d, _, ok1, sl.mono s1.vis, hl, r1, h1, fun e σ' hk sl' hl' _ => cs.nx _ S1 _ W1 H1 hk s1 ok1 sl' hl'⟩, CXc.of cs sl⟩⟩
def compIS (t : Sto → WPg) (tt : WPt) (te : WPe) (g : Sto → Prop) (env : DE) (items : List D) (S : Sto) (Q : List D → Sto → Prop) : Prop := ∃ P : Nat → List D → Sto → Prop, P 0 [] S ∧ (∀ i acc S, i ≤ items.length → P i acc S → g S) ∧
  (∀ i d acc S, items[i]? = some d → P i acc S → t S d env fun e => tt e S (fun b S1 => if b = true then te e S1 (fun y S2 => P (i + 1) (acc ++ [y]) S2) X0 else P (i + 1) acc S1) X0) ∧ ∀ acc S, P items.length acc S → Q acc S
/-- by an invariant of what is made so far -/
theorem compIS_inv {t : Sto → WPg} {tt : WPt} {te : WPe} {g : Sto → Prop} {env : DE} {items : List D} {S : Sto} {Q : List D → Sto → Prop} (P : Nat → List D → Sto → Prop) (h0 : P 0 [] S) (hg : ∀ i acc S, P i acc S → g S)
    (hs : ∀ i d acc S, items[i]? = some d → P i acc S → t S d env fun e => tt e S (fun b S1 => if b = true then te e S1 (fun y S2 => P (i + 1) (acc ++ [y]) S2) X0 else P (i + 1) acc S1) X0) (hd : ∀ acc S, P items.length acc S → Q acc S) : compIS t tt te g env items S Q :=
  ⟨P, h0, fun i acc S _ h => hg i acc S h, hs, hd⟩
def wLcS (wi : WPi) (t : Sto → WPg) (tt : WPt) (te : WPe) (vs : List Nat) : WPe := fun env S Q X => wi env S (fun items g S1 => items.length ≤ sizeLine ∧ compIS t tt te g (delVs env vs) items S1 fun ds S2 => Q (.lst ds) S2) X
section
variable {X : Cx} {elt tg iter : Expr} {ifs : List Expr} {scope : Scope} {own : List (Str × Nat)} {pos : Pos} {wi : WPi} {tt : WPt} {te : WPe}
/-- the made list stands at p, nobody else's -/
theorem lc_goS {t : Sto → WPg} {Wx : WX} {vs : List Nat} {σ : L2.St} {H : Hp} {Q : VK} {K : PySem.W.Frag} {n : Nat} {items : List D} {g : Sto → Prop} {env : DE} {W1 : Hp} {S1 : Sto} {H1 : Hp} {J : It} {Q1 : List D → Sto → Prop} (hl : σ.length = n) (hz : items.length ≤ sizeLine)
    (h : compIS t tt te g (delVs env vs) items S1 Q1) (ok1 : Ok K W1 S1 H1) (sl : Sl K W1 env σ) (jok : JOk K J W1 items g)
    (fin : ∀ (p : Addr) acc ws W2 S2 H2, H1 p = none → Q1 acc S2 → Stp W1 S1 H1 W2 S2 H2 → Ok K W2 S2 H2 → W2 p = none → S2 p = none → H2 p = some (.lst ws) → Reps K W2 acc ws → Q (.ref p) H2) :
    ∀ p, H1 p = none → ∃ Wt : Nat → Nat → Hp → Prop, (∃ m, Wt 0 m (upd H1 p (.lst []))) ∧ ∀ i m H, Wt i m H →
      (J.stop i H ∧ Q (.ref p) H) ∨ (J.go i H ∧ ∃ Nx : Hp → Prop, (∀ H', Nx H' → ∃ m', m' < m ∧ Wt (i + 1) m' H') ∧ ∀ x H', J.yld i H x H' → lGS K n vs t x (wipe σ vs) H' fun σ2 H2 => wipe σ2 vs = wipe σ vs ∧ lT K (fun _ _ _ _ => False) tt σ2 H2 fun b H3 =>
        if b = true then lE K (fun _ _ _ _ => False) te σ2 H3 fun y H4 => ∃ acc, H4 p = some (.lst acc) ∧ acc.length < sizeLine ∧ Nx (upd H4 p (.lst (acc ++ [y]))) else Nx H3) := by
  intro p hp
  obtain ⟨P, h0, hg, hs, hd⟩ := h
  have hf := ok1.fresh hp
  refine ⟨fun i m H' => m = items.length - i ∧ i ≤ items.length ∧ ∃ W' S' acc ws, Stp W1 S1 H1 W' S' H' ∧ Ok K W' S' H' ∧ W' p = none ∧ S' p = none ∧ H' p = some (.lst ws) ∧ Reps K W' acc ws ∧ acc.length ≤ i ∧ P i acc S',
    ⟨items.length, rfl, Nat.zero_le _, W1, S1, [], [], ok1.stJ hp, ok1.junk hp, hf.1, hf.2, upd_same, rfl, Nat.le_refl _, h0⟩, ?_⟩
  rintro i m H' ⟨rfl, hi, W', S', acc, ws, s2, ok2, hW', hS', hH', rw', hle, h2⟩
  have hgS := hg i acc S' hi h2
  by_cases hlt : i < items.length
  · have hdd := List.getElem?_eq_getElem hlt
    obtain ⟨go, yl⟩ := jok.step i W' S' H' _ hdd s2.vis ok2 hgS
    refine .inr ⟨go, fun H3 => ∃ W' S' acc ws, Stp W1 S1 H1 W' S' H3 ∧ Ok K W' S' H3 ∧ W' p = none ∧ S' p = none ∧ H3 p = some (.lst ws) ∧ Reps K W' acc ws ∧ acc.length ≤ i + 1 ∧ P (i + 1) acc S',
      fun H3 h3 => ⟨items.length - (i + 1), by omega, rfl, hlt, h3⟩, fun x H2 y => ?_⟩
    obtain ⟨W2, s3, ok3, rx⟩ := yl x H2 y
    obtain ⟨k1, k2, k3⟩ := s3.frm p _ hH' hW' hS'
    refine ⟨W2, S', delVs env vs, items[i], _, ok3, sl_wipe (sl.mono (s2.trans s3).vis) vs, delVs_len hl, rx, hs i _ acc S' hdd h2, fun e2 σ3 h3 sl3 hl3 hw3 => ⟨?_, ?_⟩⟩
    · rw [hw3]; exact wipe_wipe
    · refine ⟨W2, e2, S', _, _, ok3, sl3, h3, fun b S4 W4 H4 h4 s4 ok4 => ?_, CXc.no⟩
      obtain ⟨j1, j2, j3⟩ := s4.frm p _ k1 k2 k3
      cases b with
      | true =>
        refine iteT ⟨W4, e2, S4, _, _, ok4, sl3.mono s4.vis, (if_pos rfl).mp h4, fun d S5 v W5 H5 h5 s5 ok5 r5 => ?_, CXc.no⟩
        obtain ⟨l1, l2, l3⟩ := s5.frm p _ j1 j2 j3
        have st := s2.trans (s3.trans (s4.trans s5))
        have rlen := rw'.length
        refine ⟨ws, l1, by omega, W5, S5, acc ++ [d], ws ++ [v], st.out hp, ok5.out l2 l3, l2, l3, upd_same, (rw'.mono (s3.trans (s4.trans s5)).vis).append (Reps.one r5), ?_, h5⟩
        rw [List.length_append, List.length_singleton]; omega
      | false =>
        have st := s2.trans (s3.trans s4)
        exact iteF ⟨W4, S4, acc, ws, st, ok4, j2, j3, j1, rw'.mono (s3.trans s4).vis, by omega, (if_neg Bool.false_ne_true).mp h4⟩
  · have e : i = items.length := by omega
    subst e
    exact .inl ⟨jok.stop W' S' H' s2.vis ok2 hgS, fin p acc ws W' S' H' hp (hd _ _ h2) s2 ok2 hW' hS' hH' rw'⟩
theorem lc_lstS {t : Sto → WPg} {Wx : WX} {vs : List Nat} {σ : L2.St} {H : Hp} {Q : VK} {K : PySem.W.Frag} {n : Nat} (hl : σ.length = n) (h : lE K Wx (wLcS wi t tt te vs) σ H Q) :
    tLc (lI K Wx wi) (lGS K n vs t) (lT K (fun _ _ _ _ => False) tt) (lE K (fun _ _ _ _ => False) te) vs σ H Q := by
  obtain ⟨W, env, S, Q0, X1, ok, sl, hw, cv, cx⟩ := h
  refine ⟨W, env, S, _, X1, ok, sl, hw, fun items g S1 W1 H1 J ⟨hz, h1⟩ s1 ok1 jok => ?_, cx⟩
  exact lc_goS (Wx := Wx) (H := H) hl hz h1 ok1 (sl.mono s1.vis) jok fun p acc ws W2 S2 H2 hp q s2 ok2 a b c r =>
    cv _ S2 _ _ H2 q ((s1.trans s2).see' hp a s1) (ok2.see a b c) ⟨p, ws, rfl, upd_same, r.mono (same_new a)⟩
theorem pd_lcWS {t : Sto → WPg} {w : WPe} (hc : X.calm = true) (hN : X.N.Nodup) (hi : PDi X tg iter wi) (ok : BlkOk X.N X.env.scope scope own)
    (hg : ∀ (s : Shared) (H : Hp) (C : Addr) (cl : List (Str × Addr)) (fp : List Addr), PDgS (X.blk s H scope (compEnvC scope cl C X.env) fp) tg (own.map (·.2)) t) (ht : ∀ (s : Shared) (H : Hp) (C : Addr) (cl : List (Str × Addr)) (fp : List Addr), PDts (X.blk s H scope (compEnvC scope cl C X.env) fp) ifs tt)
    (he : ∀ (s : Shared) (H : Hp) (C : Addr) (cl : List (Str × Addr)) (fp : List Addr), PD (X.blk s H scope (compEnvC scope cl C X.env) fp) elt te)
    (hw : ∀ Wx σ H Q, σ.length = X.N.length → lE X.K Wx w σ H Q → tLc (lI X.K Wx wi) (lGS X.K X.N.length (own.map (·.2)) t) (lT X.K (fun _ _ _ _ => False) tt) (lE X.K (fun _ _ _ _ => False) te) (own.map (·.2)) σ H Q)
    (hs : ∀ x, foldedSetIterable iter X.env x = pure x := by intro _; rfl) : PD X (.ListComp elt [⟨tg, iter, ifs, 0⟩] scope pos) w :=
  ⟨fun Wx tk => ⟨fun pins s σ H Q I h => (pe_lc hc hN (hi.run Wx tk) ok (fun s H C cl fp => (hg s H C cl fp).run) (fun s H C cl fp => (ht s H C cl fp).run _ takesF) (fun s H C cl fp => (he s H C cl fp).run _ takesF) hs).run pins s σ H Q I (hw Wx σ H Q I.len h)⟩⟩
theorem pd_lcS {t : Sto → WPg} (hc : X.calm = true) (hN : X.N.Nodup) (hi : PDi X tg iter wi) (ok : BlkOk X.N X.env.scope scope own)
    (hg : ∀ (s : Shared) (H : Hp) (C : Addr) (cl : List (Str × Addr)) (fp : List Addr), PDgS (X.blk s H scope (compEnvC scope cl C X.env) fp) tg (own.map (·.2)) t) (ht : ∀ (s : Shared) (H : Hp) (C : Addr) (cl : List (Str × Addr)) (fp : List Addr), PDts (X.blk s H scope (compEnvC scope cl C X.env) fp) ifs tt)
    (he : ∀ (s : Shared) (H : Hp) (C : Addr) (cl : List (Str × Addr)) (fp : List Addr), PD (X.blk s H scope (compEnvC scope cl C X.env) fp) elt te)
    (hs : ∀ x, foldedSetIterable iter X.env x = pure x := by intro _; rfl) : PD X (.ListComp elt [⟨tg, iter, ifs, 0⟩] scope pos) (wLcS wi t tt te (own.map (·.2))) := pd_lcWS hc hN hi ok hg ht he (fun _ _ _ _ hl h => lc_lstS hl h) hs
end
/-! ### properties -/
def wProp (C : Addr) (N : List Str) (spec : Ctr) (wo : WPe) : WPe := fun env S Q X => wo env S (fun o S1 => isIns C N S1 o ∧ spec [o] S1 Q fun _ _ _ => False) X
def PropAt (K : PySem.W.Frag) (C : Addr) (m qual : Str) (st : Stmt) (ps : List Str) : Prop := ∃ f fd p, Fun K m qual st f fd ∧ PropOf K C m p f ∧ Binds K fd ps []
def PrC (P : Program) (w : World) (K : PySem.W.Frag) (mg : Str → Option Value) (base : Heap) (C : Addr) (k : Nat) (m : Str) (ps : List Str) (spec : Ctr) : Prop := ∃ f fd p, FnD P w K mg base k f fd ps spec ∧ PropOf K C m p f ∧ Binds K fd ps []
theorem PrC.mk {P : Program} {w : World} {K : PySem.W.Frag} {mg : Str → Option Value} {base : Heap} {qual : Str} {st : Stmt} {N ps : List Str} {k : Nat} {spec : Ctr} {ws : WPs} {C : Addr} {m : Str} (D : PropAt K C m qual st ps) (S : FnScope N ps (defScope st)) (hle : ps.length ≤ N.length) (len : ∀ ds S Q E, spec ds S Q E → ds.length = ps.length)
    (hd : ∀ (f : Addr) (cdv : Value) (A : Around) (outer : List Env) (s : Shared) (H : Hp) (E : XK), Room k (A.deeper (envOfC qual (defScope st) s.heap.objs.size f cdv)) → PDss (cxOf (L2.CX P w) P w K mg base N qual (defScope st) f cdv A outer s H E) (defBody st) ws)
    (hr : ∀ ds S Q X1, spec ds S Q X1 → ws (startD N ds) S (endQ Q X1)) : PrC P w K mg base C (k + 1) m ps spec := by
  obtain ⟨f, fd, p, F, hp, hb⟩ := D
  exact ⟨f, fd, p, fnd_mk F S hle len hd hr, hp, hb⟩
theorem pd_prop {X : Cx} {C : Addr} {k : Nat} {m : Str} {N ps : List Str} {spec : Ctr} {e : Expr} {wo : WPe} {pos : Pos} (c : Cls X.K C) (G : PrC X.prog X.w X.K X.mg X.base C k m ps spec) (hN : m ∉ N) (hr : Room (k + 1) X.A) (ho : PD X e wo)
    (hab : attributeBase e m X.env (eval e X.env) = eval e X.env := by rfl) : PD X (.Attribute e m pos) (wProp C N spec wo) := by
  obtain ⟨f, fd, p, F, hp, hb⟩ := G
  refine ⟨fun Wx tk => PE.imp (pe_prop (E := fun _ _ _ => False) (ds := []) (dvs := []) (ho.run Wx tk) c hp F hr hb .nil (fun _ _ _ _ _ _ _ h => (cx_no h).elim) hab) fun σ H Q ⟨W, env, S, Q0, X1, ok, sl, hw, cv, cx⟩ => ⟨W, env, S, _, X1, ok, sl, hw, fun d S1 v W1 H1 ⟨hi, h1⟩ s1 ok1 r1 => ?_, cx⟩⟩
  obtain ⟨a, dx, fs, rfl, e2, e3⟩ := isIns_rep ok1 r1 hi hN
  exact ⟨a, dx, fs, rfl, e2, W1, S1, [d], Q0, fun _ _ _ => False, ok1, ⟨.ref a, [], rfl, r1, rfl⟩, h1, cv.mono s1, CXc.no⟩
/-! ### methods called by keyword -/
def wMethK (C : Addr) (N : List Str) (spec : Ctr) (m : Nat) (perm : List Nat) (wo : WPe) (wk : WPa) : WPe := fun env S Q X => wo env S (fun o S1 => isIns C N S1 o ∧ wk env S1 (fun ds S2 => spec (pickK 1 m perm [o] ds) S2 Q X) X) X
def MetAtK (K : PySem.W.Frag) (C : Addr) (x qual : Str) (st : Stmt) (ps ks : List Str) (m : Nat) (perm : List Nat) : Prop := ∃ f fd, Fun K x qual st f fd ∧ Meth K C x f ∧ KBinds K fd ps ks (fun us ws => pickK 1 m perm us ws) (fun us ws => pickK 1 m perm us ws)
def MtCK (P : Program) (w : World) (K : PySem.W.Frag) (mg : Str → Option Value) (base : Heap) (C : Addr) (k : Nat) (x : Str) (ps ks : List Str) (m : Nat) (perm : List Nat) (spec : Ctr) : Prop :=
  ∃ f fd, FnD P w K mg base k f fd ps spec ∧ Meth K C x f ∧ KBinds K fd ps ks (fun us ws => pickK 1 m perm us ws) (fun us ws => pickK 1 m perm us ws)
theorem MtCK.mk {P : Program} {w : World} {K : PySem.W.Frag} {mg : Str → Option Value} {base : Heap} {qual : Str} {st : Stmt} {N ps ks : List Str} {k m : Nat} {perm : List Nat} {spec : Ctr} {ws : WPs} {C : Addr} {x : Str} (D : MetAtK K C x qual st ps ks m perm) (S : FnScope N ps (defScope st)) (hle : ps.length ≤ N.length) (len : ∀ ds S Q E, spec ds S Q E → ds.length = ps.length)
    (hd : ∀ (f : Addr) (cdv : Value) (A : Around) (outer : List Env) (s : Shared) (H : Hp) (E : XK), Room k (A.deeper (envOfC qual (defScope st) s.heap.objs.size f cdv)) → PDss (cxOf (L2.CX P w) P w K mg base N qual (defScope st) f cdv A outer s H E) (defBody st) ws)
    (hr : ∀ ds S Q X1, spec ds S Q X1 → ws (startD N ds) S (endQ Q X1)) : MtCK P w K mg base C (k + 1) x ps ks m perm spec := by
  obtain ⟨f, fd, F, hm, hb⟩ := D
  exact ⟨f, fd, fnd_mk F S hle len hd hr, hm, hb⟩
theorem pd_mtK {X : Cx} {C : Addr} {k mm : Nat} {m : Str} {N ps ks : List Str} {perm : List Nat} {spec : Ctr} {o : Expr} {kws : List Keyword} {wo : WPe} {wk : WPa} {apos pos : Pos} {pl : Sem Bool} (c : Cls X.K C) (G : MtCK X.prog X.w X.K X.mg X.base C k m ps ks mm perm spec) (hN : m ∉ N) (hr : Room k X.A) (ho : PD X o wo) (hkw : PDk X kws wk)
    (hall : (backToKw pos (keywordEach kws X.env)).all (·.1.isSome) = true := by rfl) (hks : (backToKw pos (keywordEach kws X.env)).filterMap (·.1) = ks := by rfl)
    (hpl : ((backTo pos (starEach [] X.env)).any (·.1) || (backToKw pos (keywordEach kws X.env)).any (·.1.isNone)) = false := by rfl)
    (ht : eval (.Call (.Attribute o m apos) [] kws pos) X.env = (do
      let ov ← eval o X.env
      standAt apos.atName
      let (f, first) ← holding [ov] (getMethod ov m pl)
      callWith pos f first (backTo pos (starEach [] X.env)) (backToKw pos (keywordEach kws X.env))) := by rfl) : PD X (.Call (.Attribute o m apos) [] kws pos) (wMethK C N spec mm perm wo wk) := by
  obtain ⟨f, fd, F, hm, hb⟩ := G
  refine ⟨fun Wx tk => ⟨fun pins s σ H Q I h => ?_⟩⟩
  obtain ⟨W, env, S, Q0, X1, ok, sl, hw, cv, cx⟩ := h
  have h2 : lE X.K Wx wo σ H fun x H1 => ∃ a dx fs, x = .ref a ∧ H1 a = some (.ins C dx fs) ∧ fs.lookup m = none ∧ lA X.K Wx wk σ H1 fun zs H2 => lSp X.K spec (pickK 1 mm perm [x] zs) H2 Q fun c d H' => Wx c d σ H' :=
    ⟨W, env, S, _, X1, ok, sl, hw, fun d S1 v W1 H1 ⟨hi, h1⟩ s1 ok1 r1 => by
      obtain ⟨a, dx, fs, e1, e2, e3⟩ := isIns_rep ok1 r1 hi hN
      exact ⟨a, dx, fs, e1, e2, e3, W1, env, S1, _, X1, ok1, sl.mono s1.vis, h1, fun ds S2 vs W2 H2 h2 s2 ok2 r2 => ⟨W2, S2, _, Q0, X1, ok2, reps_pickK (ds := [d]) (vs := [v]) ⟨v, [], rfl, r1.mono s2.vis, rfl⟩ r2, h2, cv.mono (s1.trans s2), cx.mono (s1.trans s2)⟩, cx.mono s1⟩, cx⟩
  refine PySem.W.methodCall_KW (pl := pl) (thn ((ho.run Wx tk).run pins s σ H _ I h2) fun u s1 ⟨x, H1, I1, rx, a, dx, fs, ex, ea, l, q⟩ => ?_) ht
  subst ex
  obtain rfl : u = Value.ref a := rx
  refine getmeth_ok I1 ea c hm l ?_
  refine PySem.W.callWith_KW0 (first := [.ref a]) (h₀ := X.base) I.ok.mod.kin hm.kp hall ?_ hpl
  refine thn ((hkw.run Wx tk).run pos pins s1 σ H1 _ I1 q) fun ws s2 ⟨zs, H2, I2, rz, q2⟩ => ⟨I2.kIn, ?_⟩
  rw [hks]
  exact run_fnKS (us := [.ref a]) (vs := [.ref a]) F hr hb (passAt tk σ) I2 (.cons rfl .nil) rz q2
/-! ### to be changed -/
def oRepM : O2 := fun S x y Q => match y with
  | .int k => some! (seqM S x) fun xs => (-(2 ^ 63) ≤ k ∧ k < 2 ^ 63 ∧ xs.length * k.toNat ≤ sizeLine) ∧ ∀ p, S p = none → Q (.ref p) (put S p (.lst (List.replicate k.toNat xs).flatten))
  | _ => False
theorem opd_repM {X : Cx} : OpR X (binaryOp .Mult) (lOp X.K oRepM) := OpR.imp op_rep fun x y H Q ⟨W, S, a, b, Q0, ok, ra, rb, ho, cv⟩ => by
  cases b with
  | int k =>
    obtain ⟨xs, e1, hk, ho⟩ := some!_ex ho
    obtain ⟨l, vs, rfl, hl, rv⟩ := seqM_rep ok ra e1
    refine ⟨l, k, vs, rfl, rb, hl, hk.1, hk.2.1, by rw [rv.length]; exact hk.2.2, fun p hp => ?_⟩
    have n := ok.fresh hp
    exact cv _ _ _ _ _ (ho p n.2) (ok.stS hp) (ok.newS hp ⟨_, rfl, reps_rep rv _⟩) rfl
  | _ => exact ho.elim
/-- a slice of a list, a new list that is to be changed -/
def wSlM (we : WPe) (wl wu : WPo) : WPe := fun env S Q X => we env S (fun x S1 => wl env S1 (fun lo S2 => wu env S2 (fun hi S3 => some! (seqL S3 x) fun xs => ∀ p, S3 p = none → Q (.ref p) (put S3 p (.lst (cutD xs lo hi)))) X) X) X
def lSlM (K : PySem.W.Frag) : V → Option Int → Option Int → Hp → VK → Prop := fun x lo hi H Q => ∃ W S a Q0, Ok K W S H ∧ Rep K W a x ∧ (some! (seqL S a) fun xs => ∀ p, S p = none → Q0 (.ref p) (put S p (.lst (cutD xs lo hi)))) ∧ CV K W S H Q0 Q
theorem sldM {X : Cx} : SlR X (lSlM X.K) := by
  intro pins s σ H x v vl vu lo hi sl Q I rx hs pl pu h
  obtain ⟨W, S, a, Q0, ok, ra, ho, cv⟩ := h
  obtain ⟨xs, e1, z⟩ := some!_ex ho
  obtain ⟨p, vs, rfl, hp, r1⟩ := seqL_rep ok ra e1
  refine sl_list pins s σ H _ v vl vu lo hi sl Q I rx hs pl pu ⟨p, vs, rfl, hp, fun o no => ?_⟩
  have n := ok.fresh no
  exact cv _ _ _ _ _ (z o n.2) (ok.stS no) (ok.newS no ⟨_, rfl, reps_cut r1⟩) rfl
theorem pd_sliceM {X : Cx} {e : Expr} {lo hi : Option Expr} {p2 pos : Pos} {w : WPe} {wl wu : WPo} (he : PD X e w) (hl : PDo X lo wl) (hu : PDo X hi wu) : PD X (.Subscript e (.Slice lo hi none p2) pos) (wSlM w wl wu) :=
  ⟨fun Wx tk => PE.imp (pe_slice sldM (he.run Wx tk) (hl.run Wx tk) (hu.run Wx tk)) fun σ H Q ⟨W, env, S, Q0, X1, ok, sl, hw, cv, cx⟩ => ⟨W, env, S, _, X1, ok, sl, hw, fun d S1 v W1 H1 h1 s1 ok1 r1 =>
    ⟨W1, env, S1, _, X1, ok1, sl.mono s1.vis, h1, fun o S2 W2 H2 h2 s2 ok2 => ⟨W2, env, S2, _, X1, ok2, sl.mono (s1.trans s2).vis, h2, fun o2 S3 W3 H3 h3 s3 ok3 =>
      ⟨W3, S3, d, Q0, ok3, r1.mono (s2.trans s3).vis, h3, cv.mono (s1.trans (s2.trans s3))⟩, cx.mono (s1.trans s2)⟩, cx.mono s1⟩, cx⟩⟩
end DL
set_option Elab.async false
set_option linter.all false
set_option maxRecDepth 100000
set_option maxHeartbeats 1000000
namespace K12
open PySem PySem.Spec PyProof.Rows L2 DL
/-- the classes, and what the written part says of the errors' -/
structure Cl where
  K : PySem.W.Frag
  Store : Addr
  ServeError : Addr
  InvalidNumber : Addr
  InvalidLetter : Addr
  NoHouse : Addr
  NoRequest : Addr
  NoRoom : Addr
  NotAlone : Addr
  NotHeld : Addr
  TooLarge : Addr
  exI : PySem.W.exmOne K (.ref InvalidNumber) (.ref ServeError) = some true
  kII : PySem.W.kitOne K (.ref InvalidNumber) (.ref InvalidNumber) = some true
  kIR : PySem.W.kitOne K (.ref InvalidNumber) (.ref NoRoom) = some false
  kIA : PySem.W.kitOne K (.ref InvalidNumber) (.ref NotAlone) = some false
  kIH : PySem.W.kitOne K (.ref InvalidNumber) (.ref NotHeld) = some false
  kIo : PySem.W.kitAny K (.ref InvalidNumber) [.ref InvalidLetter, .ref NoHouse, .ref NoRequest, .ref TooLarge] = some false
  kIV : PySem.W.kitOne K (.ref InvalidNumber) (.type "ValueError") = some true
  isI : IsC K InvalidNumber
  xfI : XfC K InvalidNumber ∧ PySem.W.findIn K (.ref InvalidNumber) "number" = some none
  exR : PySem.W.exmOne K (.ref NoRoom) (.ref ServeError) = some true
  kRI : PySem.W.kitOne K (.ref NoRoom) (.ref InvalidNumber) = some false
  kRR : PySem.W.kitOne K (.ref NoRoom) (.ref NoRoom) = some true
  kRA : PySem.W.kitOne K (.ref NoRoom) (.ref NotAlone) = some false
  kRH : PySem.W.kitOne K (.ref NoRoom) (.ref NotHeld) = some false
  kRo : PySem.W.kitAny K (.ref NoRoom) [.ref InvalidLetter, .ref NoHouse, .ref NoRequest, .ref TooLarge] = some false
  kRV : PySem.W.kitOne K (.ref NoRoom) (.type "ValueError") = some true
  isR : IsC K NoRoom
  xfR : XfC K NoRoom ∧ PySem.W.findIn K (.ref NoRoom) "many" = some none
  exA : PySem.W.exmOne K (.ref NotAlone) (.ref ServeError) = some true
  kAI : PySem.W.kitOne K (.ref NotAlone) (.ref InvalidNumber) = some false
  kAR : PySem.W.kitOne K (.ref NotAlone) (.ref NoRoom) = some false
  kAA : PySem.W.kitOne K (.ref NotAlone) (.ref NotAlone) = some true
  kAH : PySem.W.kitOne K (.ref NotAlone) (.ref NotHeld) = some false
  kAo : PySem.W.kitAny K (.ref NotAlone) [.ref InvalidLetter, .ref NoHouse, .ref NoRequest, .ref TooLarge] = some false
  kAV : PySem.W.kitOne K (.ref NotAlone) (.type "ValueError") = some true
  isA : IsC K NotAlone
  xfA : XfC K NotAlone ∧ PySem.W.findIn K (.ref NotAlone) "block" = some none
  exH : PySem.W.exmOne K (.ref NotHeld) (.ref ServeError) = some true
  kHI : PySem.W.kitOne K (.ref NotHeld) (.ref InvalidNumber) = some false
  kHR : PySem.W.kitOne K (.ref NotHeld) (.ref NoRoom) = some false
  kHA : PySem.W.kitOne K (.ref NotHeld) (.ref NotAlone) = some false
  kHH : PySem.W.kitOne K (.ref NotHeld) (.ref NotHeld) = some true
  kHo : PySem.W.kitAny K (.ref NotHeld) [.ref InvalidLetter, .ref NoHouse, .ref NoRequest, .ref TooLarge] = some false
  kHV : PySem.W.kitOne K (.ref NotHeld) (.type "ValueError") = some true
  isH : IsC K NotHeld
  xfH : XfC K NotHeld ∧ PySem.W.findIn K (.ref NotHeld) "block" = some none
/-- a value whose class is known -/
def Kn (S : Sto) (d : D) : Prop := ∃ n, tyN S d = some n
def inR (l m : Int) (d : D) : Bool := match d with
  | .int v => decide (l ≤ v ∧ v ≤ m)
  | _ => false
def shownD (S : Sto) (d : D) : Str := (toP (resD S d)).shown
def ReprOk (S : Sto) (d : D) : Prop := layP S d ∧ (toP (resD S d)).showable = true ∧ (shownD S d).length ≤ sizeLine
/-- what may stand among letters -/
def Fine (d : D) : Prop := (∀ S, Kn S d) ∧ (∀ S, ReprOk S d) ∧ ∀ S, PyData.strOk (shownD S d) = true
def isLet (L : Nat) (d : D) : Bool := inR 0 ((L : Int) - 1) d
def Ext (S S' : Sto) : Prop := ∀ a m, S a = some m → S' a = some m
/-! ### nets -/
abbrev Vec := List Int
abbrev Mat := List Vec
structure Lay where
  q : Mat
  k : Mat
  v : Mat
  f : Mat
  s : Mat
structure NetV where
  prime : Int
  embed : Mat
  shift : Vec
  layers : List Lay
  out : Mat
structure Rw where
  pairs : List (Vec × Vec)
  wts : Vec
def dM (m : Mat) : D := .tup (m.map dT)
def dLay (l : Lay) : D := .tup [dM l.q, dM l.k, dM l.v, dM l.f, dM l.s]
def dNetT (n : NetV) : D := .tup [.int n.prime, dM n.embed, dT n.shift, .tup (n.layers.map dLay), dM n.out]
def dP (p : Vec × Vec) : D := .tup [dT p.1, dT p.2]
def dRw (r : Rw) : D := .tup [.tup (r.pairs.map dP), dT r.wts]
def psum (a b : Vec) : Int := (List.zipWith (· * ·) a b).sum
def timesF (p : Int) (m : Mat) (v : Vec) : Vec := m.map fun r => psum r v % p
def plusF (p : Int) (a b : Vec) : Vec := List.zipWith (fun x y => (x + y) % p) a b
def lookF (p : Int) (q : Vec) (pairs : List (Vec × Vec)) : Vec := pairs.foldl (fun f kv => plusF p f (kv.2.map (psum q kv.1 * ·))) (q.map fun _ => 0)
def pairF (p : Int) (l : Lay) (x : Vec) : Vec × Vec := (timesF p l.k x, timesF p l.v x)
def beforeF (rows : List Rw) (i : Nat) : List (Vec × Vec) := rows.map fun w => w.pairs.getD i ([], [])
def nextX (p : Int) (bef : List (Vec × Vec)) (l : Lay) (x : Vec) : Vec :=
  let x1 := plusF p x (lookF p (timesF p l.q x) (bef ++ [pairF p l x]))
  plusF p x1 (timesF p l.s ((timesF p l.f x1).map fun n => n * n))
def stepL (p : Int) (rows : List Rw) (st : List (Vec × Vec) × Vec) (l : Lay) : List (Vec × Vec) × Vec := (st.1 ++ [pairF p l st.2], nextX p (beforeF rows st.1.length) l st.2)
def x0F (n : NetV) (rows : List Rw) (l : Int) : Vec := plusF n.prime (n.embed.getD l.toNat []) (n.shift.map ((rows.length : Int) * ·))
def rowF (n : NetV) (rows : List Rw) (l : Int) : Rw :=
  let st := n.layers.foldl (stepL n.prime rows) ([], x0F n rows l)
  ⟨st.1, n.out.map fun v => 1 + psum v st.2 % n.prime⟩
def rowsF (n : NetV) (ls : Vec) : List Rw := ls.foldl (fun rows l => rows ++ [rowF n rows l]) []
/-- small numbers -/
def Sm (v : Vec) : Prop := ∀ x, x ∈ v → 0 ≤ x ∧ x < 1000000
def Wd (w : Nat) (v : Vec) : Prop := v.length = w ∧ Sm v
def MatOk (w : Nat) (m : Mat) : Prop := ∀ v, v ∈ m → Wd w v
def LayOk (w : Nat) (l : Lay) : Prop := (l.q.length = w ∧ MatOk w l.q) ∧ (l.k.length = w ∧ MatOk w l.k) ∧ (l.v.length = w ∧ MatOk w l.v) ∧ (l.f.length = w ∧ MatOk w l.f) ∧ (l.s.length = w ∧ MatOk w l.s)
def thePrimes : List Int := [2, 3, 5, 7, 11, 13, 17, 19, 23, 29, 31, 37, 41, 43, 47, 53, 59, 61, 67, 71, 73, 79, 83, 89, 97]
structure NetOk (w L : Nat) (n : NetV) : Prop where
  w1 : 1 ≤ w ∧ w ≤ 4
  l1 : 1 ≤ L ∧ L ≤ 12
  pr : n.prime ∈ thePrimes
  em : n.embed.length = L ∧ MatOk w n.embed
  sh : Wd w n.shift
  la : n.layers.length ≤ 3 ∧ ∀ l, l ∈ n.layers → LayOk w l
  ou : n.out.length = L ∧ MatOk w n.out
structure RwOk (w L m : Nat) (r : Rw) : Prop where
  pa : r.pairs.length = m ∧ ∀ p, p ∈ r.pairs → Wd w p.1 ∧ Wd w p.2
  wt : r.wts.length = L ∧ ∀ x, x ∈ r.wts → 1 ≤ x ∧ x ≤ 97
def RowsOk (w L m : Nat) (rows : List Rw) : Prop := rows.length ≤ 100 ∧ ∀ r, r ∈ rows → RwOk w L m r
def LetsOk (L : Nat) (ls : Vec) : Prop := ∀ l, l ∈ ls → 0 ≤ l ∧ l < (L : Int)
def sp_is_between (c : Cl) : Ctr := fun ds S Q _ => ∃ d, ∃ l m : Int, ds = [d, .int l, .int m] ∧ Kn S d ∧ Q (.bl (inR l m d)) S
def NumsOk (many : Nat) (ns : Vec) : Prop := ns.length = many ∧ ∀ x, x ∈ ns → 0 ≤ x ∧ x < 1000
def sp__law_numbers (c : Cl) : Ctr := fun ds S Q _ => ∃ cell at_ : Int, ∃ many : Nat, ds = [.int cell, .int at_, .int (many : Nat)] ∧ (0 ≤ at_ ∧ at_ ≤ 62) ∧ many ≤ 490 ∧ ∀ ns, NumsOk many ns → ∀ S', Ext S S' → Q (dL ns) S'
/-- plain data of a depth: None, bools, ints, texts, tuples -/
def plain : Nat → D → Prop
  | _, .non => True
  | _, .bl _ => True
  | _, .int _ => True
  | _, .str x => PyData.strOk x = true
  | 0, .tup _ => False
  | n + 1, .tup xs => xs.length ≤ 1000 ∧ ∀ x, x ∈ xs → plain n x
  | _, _ => False
def sp__law_same_n (c : Cl) (n : Nat) : Ctr := fun ds S Q _ => match n with
  | 0 => False
  | n + 1 => ∃ d, ds = [d, d] ∧ plain n d ∧ Q (.bl true) S
def sp__law_same (c : Cl) : Ctr := fun ds S Q _ => ∃ d, ds = [d, d] ∧ plain 7 d ∧ Q (.bl true) S
def sp__law_vector (c : Cl) : Ctr := fun ds S Q _ => ∃ i ns m k w p, ds = [dR i ns, .int k, .int (w : Nat), .int p] ∧ NumsOk m ns ∧ 0 < m ∧ m ≤ 1000 ∧ (0 ≤ k ∧ k ≤ 10000) ∧ w ≤ 4 ∧ (0 < p ∧ p ≤ 97) ∧ ∀ v, Wd w v → ∀ S', Ext S S' → Q (dT v) S'
def sp__law_net (c : Cl) : Ctr := fun ds S Q _ => ∃ ns k L w m p, ds = [dL ns, .int (L : Nat), .int (w : Nat), .int (m : Nat), .int p] ∧ NumsOk k ns ∧ 0 < k ∧ k ≤ 1000 ∧ (1 ≤ L ∧ L ≤ 12) ∧ (1 ≤ w ∧ w ≤ 4) ∧ m ≤ 3 ∧ p ∈ thePrimes ∧ ∀ n, NetOk w L n → n.prime = p → ∀ S', Ext S S' → Q (dNetT n) S'
def sp__law_dot (c : Cl) : Ctr := fun ds S Q _ => ∃ i j a b p, ds = [dR i a, dR j b, .int p] ∧ a.length = b.length ∧ a.length ≤ 1000 ∧ Sm a ∧ Sm b ∧ 0 < p ∧ Q (.int (psum a b % p)) S
def sp__law_times (c : Cl) : Ctr := fun ds S Q _ => ∃ m j v p, ds = [dM m, dR j v, .int p] ∧ m.length ≤ 1000 ∧ (∀ r, r ∈ m → r.length = v.length ∧ Sm r) ∧ v.length ≤ 1000 ∧ Sm v ∧ 0 < p ∧ Q (dL (timesF p m v)) S
def sp__law_row (c : Cl) : Ctr := fun ds S Q _ => ∃ n d rows l w L, ds = [dNetT n, d, .int l] ∧ seqA S d = some (rows.map dRw) ∧ NetOk w L n ∧ RowsOk w L n.layers.length rows ∧ (0 ≤ l ∧ l < (L : Int)) ∧ ∀ S', Ext S S' → Q (dRw (rowF n rows l)) S'

/-! ### stores -/
inductive Word where
  | take | put | hold | release | shorten | rows | holders
  deriving DecidableEq
def wS : Word → Str
  | .take => "take"
  | .put => "put"
  | .hold => "hold"
  | .release => "release"
  | .shorten => "shorten"
  | .rows => "rows"
  | .holders => "holders"
structure StV where
  cs : List Nat
  ks : List (List Rw)
inductive Res where
  | told (d : D)
  | err (k : Nat) (d : D)
inductive Vl where
  | row (r : Rw)
  | num (d : D)
def blk (n : Nat) (d : D) : Option Nat := match d with
  | .int i => if 0 ≤ i ∧ i < (n : Int) then some i.toNat else none
  | _ => none
def stepB (z : Nat) (st : StV) (b : Nat) (d : D) (w : Word) (v : Vl) : StV × Res := match w, v with
  | .rows, _ => (st, .told (.tup ((st.ks.getD b []).map dRw)))
  | .hold, _ => (⟨st.cs.set b (st.cs.getD b 0 + 1), st.ks⟩, .told .non)
  | .release, _ => (⟨st.cs.set b (st.cs.getD b 0 - 1), if st.cs.getD b 0 = 1 then st.ks.set b [] else st.ks⟩, .told .non)
  | .put, .row r => if 1 < st.cs.getD b 0 then (st, .err 1 d) else if (st.ks.getD b []).length = z then (st, .err 2 (.int 1)) else (⟨st.cs, st.ks.set b (st.ks.getD b [] ++ [r])⟩, .told .non)
  | .shorten, .num v => if 1 < st.cs.getD b 0 then (st, .err 1 d) else match blk ((st.ks.getD b []).length + 1) v with
    | some k => (⟨st.cs, st.ks.set b ((st.ks.getD b []).take k)⟩, .told .non)
    | none => (st, .err 3 v)
  | _, _ => (st, .told .non)
def takeF (st : StV) : StV × Res := match st.cs.findIdx? (· == 0) with
  | some i => (⟨st.cs.set i 1, st.ks⟩, .told (.int (i : Nat)))
  | none => (st, .err 2 (.int 1))
def stepF (z : Nat) (st : StV) (w : Word) (d : D) (v : Vl) : StV × Res :=
  if w = .take then takeF st else match blk st.cs.length d with
    | none => (st, .err 0 d)
    | some b => if w = .holders then (st, .told (.int (st.cs.getD b 0 : Nat))) else if st.cs.getD b 0 = 0 then (st, .err 0 d) else stepB z st b d w v
def N_Store : List Str := ["many", "size", "counts", "kept"]
structure StoOk (z : Nat) (st : StV) : Prop where
  l1 : 1 ≤ st.cs.length ∧ st.cs.length ≤ 60
  lk : st.ks.length = st.cs.length
  z8 : 1 ≤ z ∧ z ≤ 8
  k8 : ∀ k, k ∈ st.ks → k.length ≤ z
structure StAt (c : Cl) (S : Sto) (a pC pK : Addr) (z : Nat) (st : StV) : Prop where
  ok : StoOk z st
  ob : S a = some (.ins c.Store N_Store [some (.int (st.cs.length : Nat)), some (.int (z : Nat)), some (.ref pC), some (.ref pK)])
  hc : S pC = some (.lst (st.cs.map fun (n : Nat) => D.int (n : Nat)))
  hk : S pK = some (.lst (st.ks.map fun rs => D.tup (rs.map dRw)))
  ne : pC ≠ pK
def clsOf (c : Cl) (k : Nat) : Addr := match k with
  | 0 => c.NotHeld
  | 1 => c.NotAlone
  | 2 => c.NoRoom
  | _ => c.InvalidNumber
def fldOf (k : Nat) : Str := match k with
  | 0 => "block"
  | 1 => "block"
  | 2 => "many"
  | _ => "number"
def nmOf (k : Nat) : Str := match k with
  | 0 => "NotHeld"
  | 1 => "NotAlone"
  | 2 => "NoRoom"
  | _ => "InvalidNumber"
/-- what a call of a store ends in -/
def Out (c : Cl) (S : Sto) (a pC pK : Addr) (z : Nat) (r : StV × Res) (Q : Qd) (E : XQ) : Prop := match r.2 with
  | .told t => ∀ S', StAt c S' a pC pK z r.1 → (∀ x m, x ≠ pC → x ≠ pK → S x = some m → S' x = some m) → Q t S'
  | .err k x => E (clsOf c k) [(fldOf k, x)] S
/-- a row, as a tuple or as lists -/
def RowAt (S : Sto) (d : D) (r : Rw) : Prop := ∃ pd wd ps, seqA S d = some [pd, wd] ∧ seqA S pd = some ps ∧ ps.length = r.pairs.length ∧ seqA S wd = some (r.wts.map D.int) ∧ r.pairs.length ≤ 100 ∧
  ∀ (i : Nat) p q, ps[i]? = some p → r.pairs[i]? = some q → ∃ kd vd, seqA S p = some [kd, vd] ∧ seqA S kd = some (q.1.map D.int) ∧ seqA S vd = some (q.2.map D.int)
def sp_own_row (c : Cl) : Ctr := fun ds S Q _ => ∃ d r, ds = [d] ∧ RowAt S d r ∧ Q (dRw r) S
def stZ (m : Nat) : StV := ⟨List.replicate m 0, List.replicate m []⟩
def sp_Store_init (c : Cl) : Ctr := fun ds S Q _ => ∃ (a : Addr) (m z : Nat), ds = [.ref a, .int (m : Nat), .int (z : Nat)] ∧ (1 ≤ m ∧ m ≤ 60) ∧ (1 ≤ z ∧ z ≤ 8) ∧ S a = some (.ins c.Store N_Store (noneV N_Store)) ∧ ∀ pC pK S', S pC = none → S pK = none → StAt c S' a pC pK z (stZ m) → (∀ x m, x ≠ a → S x = some m → S' x = some m) → Q .non S'
def freeF (st : StV) : Nat := (st.cs.filter (· == 0)).length
def sp_Store_free (c : Cl) : Ctr := fun ds S Q _ => ∃ a pC pK z st, ds = [.ref a] ∧ StAt c S a pC pK z st ∧ Q (.int (freeF st : Nat)) S
def heldF (st : StV) (d : D) : Bool := match blk st.cs.length d with
  | none => false
  | some b => decide (st.cs.getD b 0 ≠ 0)
def sp_Store_check_held (c : Cl) : Ctr := fun ds S Q E => ∃ a pC pK z st d, ds = [.ref a, d] ∧ StAt c S a pC pK z st ∧ Kn S d ∧ (heldF st d = true → Q .non S) ∧ (heldF st d = false → E c.NotHeld [("block", d)] S)
def aloneF (st : StV) (d : D) : Bool := match blk st.cs.length d with
  | none => false
  | some b => decide (st.cs.getD b 0 ≤ 1)
def sp_Store_check_alone (c : Cl) : Ctr := fun ds S Q E => ∃ a pC pK z st d, ds = [.ref a, d] ∧ StAt c S a pC pK z st ∧ Kn S d ∧ (heldF st d = true → aloneF st d = true → Q .non S) ∧ (heldF st d = false → E c.NotHeld [("block", d)] S) ∧ (heldF st d = true → aloneF st d = false → E c.NotAlone [("block", d)] S)
def sp_Store_take (c : Cl) : Ctr := fun ds S Q E => ∃ a pC pK z st, ds = [.ref a] ∧ StAt c S a pC pK z st ∧ Out c S a pC pK z (takeF st) Q E
def sp_Store_hold (c : Cl) : Ctr := fun ds S Q E => ∃ a pC pK z st d v, ds = [.ref a, d] ∧ StAt c S a pC pK z st ∧ Kn S d ∧ Out c S a pC pK z (stepF z st .hold d v) Q E
def sp_Store_release (c : Cl) : Ctr := fun ds S Q E => ∃ a pC pK z st d v, ds = [.ref a, d] ∧ StAt c S a pC pK z st ∧ Kn S d ∧ Out c S a pC pK z (stepF z st .release d v) Q E
def sp_Store_put_row (c : Cl) : Ctr := fun ds S Q E => ∃ a pC pK z st d rd r, ds = [.ref a, d, rd] ∧ StAt c S a pC pK z st ∧ Kn S d ∧ RowAt S rd r ∧ Out c S a pC pK z (stepF z st .put d (.row r)) Q E
def sp_Store_shorten (c : Cl) : Ctr := fun ds S Q E => ∃ a pC pK z st d v, ds = [.ref a, d, v] ∧ StAt c S a pC pK z st ∧ Kn S d ∧ Kn S v ∧ Out c S a pC pK z (stepF z st .shorten d (.num v)) Q E
def sp_Store_rows (c : Cl) : Ctr := fun ds S Q E => ∃ a pC pK z st d v, ds = [.ref a, d] ∧ StAt c S a pC pK z st ∧ Kn S d ∧ Out c S a pC pK z (stepF z st .rows d v) Q E
def sp_Store_holders (c : Cl) : Ctr := fun ds S Q E => ∃ a pC pK z st d v, ds = [.ref a, d] ∧ StAt c S a pC pK z st ∧ Kn S d ∧ Out c S a pC pK z (stepF z st .holders d v) Q E
/-! ### the law's own -/
def RowGood (r : Rw) : Prop := ∃ w L m, RwOk w L m r ∧ w ≤ 4 ∧ L ≤ 12 ∧ m ≤ 3
def sp__law_some_rows (c : Cl) : Ctr := fun ds S Q _ => ∃ ns m, ds = [dL ns] ∧ NumsOk m ns ∧ 30 ≤ m ∧ m ≤ 490 ∧ ∀ (rs : List Rw) (S' : Sto), rs.length = 20 → (∀ r, r ∈ rs → RowGood r) → Ext S S' → Q (.lst (rs.map dRw)) S'
/-- the law's own store -/
def dSt (sC sK : Addr) : D := .lst [.ref sC, .ref sK]
structure LaAt (S : Sto) (sC sK : Addr) (rs : List Addr) (st : StV) : Prop where
  hc : S sC = some (.lst (st.cs.map fun (n : Nat) => D.int (n : Nat)))
  hk : S sK = some (.lst (rs.map D.ref))
  len : rs.length = st.ks.length
  el : ∀ (i : Nat) r k, rs[i]? = some r → st.ks[i]? = some k → S r = some (.lst (k.map dRw))
  nd : (sC :: sK :: rs).Nodup
def sp__law_lowest (c : Cl) : Ctr := fun ds S Q _ => ∃ sC sK rs st, ds = [dSt sC sK] ∧ LaAt S sC sK rs st ∧ st.cs.length ≤ 60 ∧ Q (match st.cs.findIdx? (· == 0) with | some i => .int (i : Nat) | none => .non) S
def sp__law_take (c : Cl) : Ctr := fun ds S Q _ => ∃ sC sK rs st, ds = [dSt sC sK] ∧ LaAt S sC sK rs st ∧ st.cs.length ≤ 60 ∧ ∀ S', LaAt S' sC sK rs (takeF st).1 → (∀ x m, x ≠ sC → S x = some m → S' x = some m) → Q (match st.cs.findIdx? (· == 0) with | some i => .int (i : Nat) | none => .non) S'
def sp__law_release (c : Cl) : Ctr := fun ds S Q _ => ∃ sC sK rs st b, ds = [dSt sC sK, .int (b : Nat)] ∧ LaAt S sC sK rs st ∧ b < st.cs.length ∧ st.ks.length = st.cs.length ∧ 1 ≤ st.cs.getD b 0 ∧
  ∀ rs' S', LaAt S' sC sK rs' ⟨st.cs.set b (st.cs.getD b 0 - 1), if st.cs.getD b 0 = 1 then st.ks.set b [] else st.ks⟩ → (∀ x m, x ≠ sC → x ≠ sK → S x = some m → S' x = some m) → (∀ x, x ∈ rs' → x ∈ rs ∨ S x = none) → Q .non S'
def sp__law_is_integer (c : Cl) : Ctr := fun ds S Q _ => ∃ d, ∃ l m : Int, ds = [d, .int l, .int m] ∧ Kn S d ∧ Q (.bl (inR l m d)) S
def sp__law_odd (c : Cl) : Ctr := fun ds S Q _ => ∃ ns m k L, ds = [dL ns, .int (k : Nat), .int (L : Nat)] ∧ NumsOk m ns ∧ k + 2 ≤ m ∧ m ≤ 1000 ∧ (1 ≤ L ∧ L ≤ 60) ∧ ∀ d S', Fine d → Ext S S' → Q d S'
def shw (d : D) : Str := (toP d).shown
def resT (r : Res) : D := match r with
  | .told t => .tup [.str "", t]
  | .err k x => .tup [.str (nmOf k), .str (shw x)]
def sp__law_kinds (c : Cl) (a dd C : Addr) : Ctr := fun ds S Q _ => ∃ k x, ds = [.exc a dd C (fldOf k) x] ∧ C = clsOf c k ∧ k ≤ 3 ∧ Fine x ∧ ∀ S', Ext S S' → Q (.tup [.str (nmOf k), .str (shw x)]) S'
def VlAt (S : Sto) (w : Word) (v : Vl) (vd : D) : Prop := match w with
  | .put => ∃ r, v = .row r ∧ RowAt S vd r
  | .shorten => v = .num vd ∧ Kn S vd
  | _ => True
def sp__law_call (c : Cl) : Ctr := fun ds S Q E => ∃ a pC pK z st w d v vd nb, ds = [.ref a, .str (wS w), d, vd, .bl nb] ∧ StAt c S a pC pK z st ∧ Kn S d ∧ VlAt S w v vd ∧ Out c S a pC pK z (stepF z st w d v) Q E
def FineV (w : Word) (v : Vl) : Prop := match w, v with
  | .shorten, .num d => Fine d
  | _, _ => True
def sp__law_ask (c : Cl) : Ctr := fun ds S Q _ => ∃ a pC pK z st w d v vd nb, ds = [.ref a, .str (wS w), d, vd, .bl nb] ∧ StAt c S a pC pK z st ∧ Fine d ∧ FineV w v ∧ VlAt S w v vd ∧
  ∀ S', StAt c S' a pC pK z (stepF z st w d v).1 → (∀ x m, x ≠ pC → x ≠ pK → S x = some m → S' x = some m) → Q (resT (stepF z st w d v).2) S'
/-- the value as the law hands it to itself -/
def VlD (w : Word) (v : Vl) (vd : D) : Prop := match w with
  | .put => ∃ r, v = .row r ∧ vd = dRw r
  | .shorten => v = .num vd
  | _ => True
def sp__law_due (c : Cl) : Ctr := fun ds S Q _ => ∃ sC sK rs st z z' w d v vd, ds = [dSt sC sK, .int (z' : Nat), .str (wS w), d, vd] ∧ LaAt S sC sK rs st ∧ StoOk z st ∧ (z' = z ∨ w = .rows ∨ w = .holders) ∧ Fine d ∧ FineV w v ∧ VlD w v vd ∧
  ∀ rs' S', LaAt S' sC sK rs' (stepF z st w d v).1 → (∀ x m, x ≠ sC → x ≠ sK → x ∉ rs → S x = some m → S' x = some m) → (∀ x, x ∈ rs' → x ∈ rs ∨ S x = none) → ((w = .rows ∨ w = .holders) → S' = S ∧ rs' = rs) → Q (resT (stepF z st w d v).2) S'
/-- a store and the law's own beside it -/
structure Pr where
  a : Addr
  pC : Addr
  pK : Addr
  sC : Addr
  sK : Addr
  rs : List Addr
  z : Nat
  st : StV
structure PrAt (c : Cl) (S : Sto) (p : Pr) : Prop where
  s : StAt c S p.a p.pC p.pK p.z p.st
  l : LaAt S p.sC p.sK p.rs p.st
  d1 : p.pC ∉ p.sC :: p.sK :: p.rs ∧ p.pK ∉ p.sC :: p.sK :: p.rs ∧ p.a ∉ p.sC :: p.sK :: p.rs
def GoodK (st : StV) : Prop := ∀ k, k ∈ st.ks → ∀ r, r ∈ k → RowGood r
def sp__law_stands (c : Cl) : Ctr := fun ds S Q _ => ∃ p : Pr, ds = [.ref p.a, dSt p.sC p.sK] ∧ PrAt c S p ∧ GoodK p.st ∧ ∀ S', Ext S S' → Q (.bl true) S'
/-- nested lists of a row, as handed in: the lists' lengths stay small -/
structure HandAt (S : Sto) (n : Nat) (h hp hw : Addr) (qs ks : List Addr) : Prop where
  e1 : S h = some (.lst [.ref hp, .ref hw])
  e2 : S hp = some (.lst (qs.map D.ref))
  e3 : ∃ xs, S hw = some (.lst xs) ∧ xs.length ≤ n
  e4 : ∀ q, q ∈ qs → ∃ k rest, k ∈ ks ∧ S q = some (.lst (.ref k :: rest)) ∧ rest.length ≤ n
  e5 : ∀ k, k ∈ ks → ∃ xs, S k = some (.lst xs) ∧ xs.length ≤ n
  l : qs.length ≤ 100
  nh : h ≠ hp ∧ h ≠ hw ∧ hp ≠ hw
  nq : ∀ q, q ∈ qs → q ≠ h ∧ q ≠ hp ∧ q ≠ hw
  nk : ∀ k, k ∈ ks → k ≠ h ∧ k ≠ hp ∧ k ≠ hw ∧ k ∉ qs
def handL (h hp hw : Addr) (qs ks : List Addr) : List Addr := h :: hp :: hw :: (qs ++ ks)
def sp__law_listed (c : Cl) : Ctr := fun ds S Q _ => ∃ r, ds = [dRw r] ∧ RowGood r ∧ ∀ h hp hw qs ks S', Ext S S' → HandAt S' 20 h hp hw qs ks → RowAt S' (.ref h) r → (∀ x, x ∈ handL h hp hw qs ks → S x = none) → Q (.ref h) S'
/-- what spoiling may change -/
def sp__law_spoilt (c : Cl) : Ctr := fun ds S Q _ => (∃ xs, ds = [.tup xs] ∧ Q .non S) ∨ (∃ h hp hw qs ks, ds = [.ref h] ∧ HandAt S 20 h hp hw qs ks ∧ ∀ S', (∀ x, x ∉ handL h hp hw qs ks → S' x = S x) → Q .non S')
def sp__law_hands (c : Cl) : Ctr := fun ds S Q _ => (∃ r b, ds = [.str (wS .put), dRw r, .bl b] ∧ RowGood r ∧ (Q (dRw r) S) ∧ ∀ h hp hw qs ks S', Ext S S' → HandAt S' 20 h hp hw qs ks → RowAt S' (.ref h) r → (∀ x, x ∈ handL h hp hw qs ks → S x = none) → Q (.ref h) S') ∨
  (∃ w v b, ds = [.str (wS w), v, .bl b] ∧ w ≠ .put ∧ Q v S)
def sp__law_free (c : Cl) : Ctr := fun ds S Q _ => ∃ sC sK rs st, ds = [dSt sC sK] ∧ LaAt S sC sK rs st ∧ st.cs.length ≤ 60 ∧ Q (.int (freeF st : Nat)) S
def own (p : Pr) : List Addr := p.a :: p.pC :: p.pK :: p.sC :: p.sK :: p.rs
structure TwoAt (c : Cl) (S : Sto) (A : Bool → Pr) : Prop where
  at_ : ∀ b, PrAt c S (A b)
  dj : ∀ b x, x ∈ own (A b) → x ∉ own (A (!b))
  rg : ∀ b, GoodK (A b).st
def sp__law_looks (c : Cl) : Ctr := fun ds S Q _ => ∃ A d nb, ds = [.lst [.ref (A false).a, .ref (A true).a], .lst [dSt (A false).sC (A false).sK, dSt (A true).sC (A true).sK], d, .bl nb] ∧ TwoAt c S A ∧ Fine d ∧ ∀ S', Ext S S' → Q (.bl true) S'
def sp_law (c : Cl) : Ctr := fun ds S Q _ => ∃ cells : List Int, ds = [.fro (cells.map D.int)] ∧ cells.length ≤ 63 ∧ ∀ S', Q (.bl true) S'
end K12
set_option Elab.async false
set_option linter.all false
set_option maxRecDepth 100000
set_option maxHeartbeats 4000000
namespace K12
open PySem PySem.Spec PyProof.Rows L2 DL
def N_is_between_ : List Str := ["value", "least", "most"]
/-- is_between: slots 0 value, 1 least, 2 most, -/
def w_is_between (c : Cl) : WPs := (wRet (wAndV (wIsi "int" (wVar 0)) (wAndV (wNotV (wIsi "bool" (wVar 0))) (wChain oLe oLe (wVar 1) (wVar 0) (wVar 2)))))
def N_own_row_ : List Str := ["row", "pairs", "weights", "key", "value"]
/-- own_row: slots 0 row, 1 pairs, 2 weights, 3 key, 4 value, -/
def w_own_row (c : Cl) : WPs := (wSeq (wAsgS (gU [(gN 1), (gN 2)]) (wVar 0))
  (wRet (wTup (wCons (wCB oTuple (wCons (wLcS (wIt (wVar 1)) (gU [(gN 3), (gN 4)]) wYes (wTup (wCons (wCB oTuple (wCons (wVar 3) wNil)) (wCons (wCB oTuple (wCons (wVar 4) wNil)) wNil))) [3, 4]) wNil)) (wCons (wCB oTuple (wCons (wVar 2) wNil)) wNil)))))
def N_Store_init_ : List Str := ["self", "many", "size", "_"]
/-- Store.__init__: slots 0 self, 1 many, 2 size, 3 _, -/
def w_Store_init (c : Cl) : WPs := (wSeq (wIf (wNot (wTest (wCall (sp_is_between c) (wCons (wVar 1) (wCons (wC (.int 1)) (wCons (wC (.int (60))) wNil)))))) (wRaise (wMkE c.InvalidNumber "number" (wVar 1))) wNext)
  (wSeq (wIf (wNot (wTest (wCall (sp_is_between c) (wCons (wVar 2) (wCons (wC (.int 1)) (wCons (wC (.int (8))) wNil)))))) (wRaise (wMkE c.InvalidNumber "number" (wVar 2))) wNext)
  (wSeq (wSetF c.Store N_Store 0 (wVar 0) (wVar 1))
  (wSeq (wSetF c.Store N_Store 1 (wVar 0) (wVar 2))
  (wSeq (wSetF c.Store N_Store 2 (wVar 0) (wLcM (wRg1 (wVar 1)) (gN 3) wYes (wC (.int 0)) [3]))
  (wSetF c.Store N_Store 3 (wVar 0) (wLcM (wRg1 (wVar 1)) (gN 3) wYes (wTup wNil) [3])))))))
def N_Store_free_ : List Str := ["self", "count"]
/-- Store.free: slots 0 self, 1 count, -/
def w_Store_free (c : Cl) : WPs := (wRet (wCB oLen (wCons (wLc (wIt (wFld c.Store N_Store 2 (wVar 0))) (gN 1) (wTest (wBin oEq (wVar 1) (wC (.int 0)))) (wVar 1) [1]) wNil)))
def N_Store_check_held_ : List Str := ["self", "block"]
/-- Store.check_held: slots 0 self, 1 block, -/
def w_Store_check_held (c : Cl) : WPs := (wIf (wOr (wNot (wTest (wCall (sp_is_between c) (wCons (wVar 1) (wCons (wC (.int 0)) (wCons (wBin oSub (wFld c.Store N_Store 0 (wVar 0)) (wC (.int 1))) wNil)))))) (wTest (wBin oEq (wBin oIx (wFld c.Store N_Store 2 (wVar 0)) (wVar 1)) (wC (.int 0))))) (wRaise (wMkE c.NotHeld "block" (wVar 1))) wNext)
def N_Store_check_alone_ : List Str := ["self", "block"]
/-- Store.check_alone: slots 0 self, 1 block, -/
def w_Store_check_alone (c : Cl) : WPs := (wSeq (wDrop (wMeth c.Store N_Store (sp_Store_check_held c) (wVar 0) (wCons (wVar 1) wNil)))
  (wIf (wTest (wBin oGt (wBin oIx (wFld c.Store N_Store 2 (wVar 0)) (wVar 1)) (wC (.int 1)))) (wRaise (wMkE c.NotAlone "block" (wVar 1))) wNext))
def N_Store_take_ : List Str := ["self", "block"]
/-- Store.take: slots 0 self, 1 block, -/
def w_Store_take (c : Cl) : WPs := (wSeq (wFor (wRg1 (wFld c.Store N_Store 0 (wVar 0))) (gN 1) (wIf (wTest (wBin oEq (wBin oIx (wFld c.Store N_Store 2 (wVar 0)) (wVar 1)) (wC (.int 0)))) (wSeq (wSetI (wFld c.Store N_Store 2 (wVar 0)) (wVar 1) (wC (.int 1)))
  (wRet (wVar 1))) wNext))
  (wRaise (wMkE c.NoRoom "many" (wC (.int 1)))))
def N_Store_hold_ : List Str := ["self", "block"]
/-- Store.hold: slots 0 self, 1 block, -/
def w_Store_hold (c : Cl) : WPs := (wSeq (wDrop (wMeth c.Store N_Store (sp_Store_check_held c) (wVar 0) (wCons (wVar 1) wNil)))
  (wAugI (oI0 fun i j => .int (i + j)) (wFld c.Store N_Store 2 (wVar 0)) (wVar 1) (wC (.int 1))))
def N_Store_release_ : List Str := ["self", "block"]
/-- Store.release: slots 0 self, 1 block, -/
def w_Store_release (c : Cl) : WPs := (wSeq (wDrop (wMeth c.Store N_Store (sp_Store_check_held c) (wVar 0) (wCons (wVar 1) wNil)))
  (wSeq (wAugI oSub (wFld c.Store N_Store 2 (wVar 0)) (wVar 1) (wC (.int 1)))
  (wIf (wTest (wBin oEq (wBin oIx (wFld c.Store N_Store 2 (wVar 0)) (wVar 1)) (wC (.int 0)))) (wSetI (wFld c.Store N_Store 3 (wVar 0)) (wVar 1) (wTup wNil)) wNext)))
def N_Store_put_row_ : List Str := ["self", "block", "row"]
/-- Store.put_row: slots 0 self, 1 block, 2 row, -/
def w_Store_put_row (c : Cl) : WPs := (wSeq (wDrop (wMeth c.Store N_Store (sp_Store_check_alone c) (wVar 0) (wCons (wVar 1) wNil)))
  (wSeq (wIf (wTest (wBin oEq (wCB oLen (wCons (wBin oIx (wFld c.Store N_Store 3 (wVar 0)) (wVar 1)) wNil)) (wFld c.Store N_Store 1 (wVar 0)))) (wRaise (wMkE c.NoRoom "many" (wC (.int 1)))) wNext)
  (wSetI (wFld c.Store N_Store 3 (wVar 0)) (wVar 1) (wBin oAdd (wBin oIx (wFld c.Store N_Store 3 (wVar 0)) (wVar 1)) (wTup (wCons (wCall (sp_own_row c) (wCons (wVar 2) wNil)) wNil))))))
def N_Store_shorten_ : List Str := ["self", "block", "many"]
/-- Store.shorten: slots 0 self, 1 block, 2 many, -/
def w_Store_shorten (c : Cl) : WPs := (wSeq (wDrop (wMeth c.Store N_Store (sp_Store_check_alone c) (wVar 0) (wCons (wVar 1) wNil)))
  (wSeq (wIf (wNot (wTest (wCall (sp_is_between c) (wCons (wVar 2) (wCons (wC (.int 0)) (wCons (wCB oLen (wCons (wBin oIx (wFld c.Store N_Store 3 (wVar 0)) (wVar 1)) wNil)) wNil)))))) (wRaise (wMkE c.InvalidNumber "number" (wVar 2))) wNext)
  (wSetI (wFld c.Store N_Store 3 (wVar 0)) (wVar 1) (wSl (wBin oIx (wFld c.Store N_Store 3 (wVar 0)) (wVar 1)) wNoP (wP (wVar 2))))))
def N_Store_rows_ : List Str := ["self", "block"]
/-- Store.rows: slots 0 self, 1 block, -/
def w_Store_rows (c : Cl) : WPs := (wSeq (wDrop (wMeth c.Store N_Store (sp_Store_check_held c) (wVar 0) (wCons (wVar 1) wNil)))
  (wRet (wBin oIx (wFld c.Store N_Store 3 (wVar 0)) (wVar 1))))
def N_Store_holders_ : List Str := ["self", "block"]
/-- Store.holders: slots 0 self, 1 block, -/
def w_Store_holders (c : Cl) : WPs := (wSeq (wIf (wNot (wTest (wCall (sp_is_between c) (wCons (wVar 1) (wCons (wC (.int 0)) (wCons (wBin oSub (wFld c.Store N_Store 0 (wVar 0)) (wC (.int 1))) wNil)))))) (wRaise (wMkE c.NotHeld "block" (wVar 1))) wNext)
  (wRet (wBin oIx (wFld c.Store N_Store 2 (wVar 0)) (wVar 1))))
def N__law_numbers_ : List Str := ["cell", "at", "many", "great", "rest", "numbers", "k", "mixed"]
/-- _law_numbers: slots 0 cell, 1 at, 2 many, 3 great, 4 rest, 5 numbers, 6 k, 7 mixed, -/
def w__law_numbers (c : Cl) : WPs := (wSeq (wSet 3 (wBin oGe (wCB oAbs (wCons (wCB oInt (wCons (wVar 0) wNil)) wNil)) (wBin oPow (wC (.int 10)) (wC (.int 18)))))
  (wSeq (wSet 4 (wBin oAdd (wBin oMulS (wC (.int 2)) (wCB oAbs (wCons (wCB oInt (wCons (wVar 0) wNil)) wNil))) (wCB oInt (wCons (wBin oLt (wVar 0) (wC (.int 0))) wNil))))
  (wSeq (wSet 5 (wLstM wNil))
  (wSeq (wFor (wRg1 (wVar 2)) (gN 6) (wIf (wTest (wVar 3)) (wSeq (wDrop (wMt oAppend (wVar 5) (wCons (wBin oMod (wCB oInt (wCons (wVar 4) wNil)) (wC (.int 1000))) wNil)))
  (wSet 4 (wBin oDiv (wVar 4) (wC (.int 1000))))) (wSeq (wSet 7 (wBin oMod (wCB oInt (wCons (wBin oAdd (wBin oAdd (wBin oAdd (wBin oMul (wVar 4) (wC (.int 48271))) (wBin oMul (wVar 1) (wC (.int 69621)))) (wBin oMul (wVar 6) (wC (.int 16807)))) (wC (.int 7))) wNil)) (wC (.int 2147483647))))
  (wSeq (wSet 7 (wBin oMod (wCB oInt (wCons (wBin oAdd (wBin oAdd (wBin oMul (wVar 7) (wVar 7)) (wBin oMul (wVar 6) (wC (.int 40692)))) (wC (.int 3))) wNil)) (wC (.int 2147483629))))
  (wSeq (wSet 7 (wBin oMod (wCB oInt (wCons (wBin oAdd (wBin oAdd (wBin oMul (wVar 7) (wVar 7)) (wBin oMul (wVar 1) (wC (.int 30269)))) (wC (.int 5))) wNil)) (wC (.int 2147483587))))
  (wDrop (wMt oAppend (wVar 5) (wCons (wBin oMod (wCB oInt (wCons (wBin oDiv (wVar 7) (wC (.int 5))) wNil)) (wC (.int 1000))) wNil))))))))
  (wRet (wFrz (wVar 5)))))))
def N__law_same_ : List Str := ["actual", "expected", "k"]
/-- _law_same: slots 0 actual, 1 expected, 2 k, -/
def w__law_same (c : Cl) (n : Nat) : WPs := (wSeq (wIf (wTest (wBin oIsN (wVar 1) (wC .non))) (wRet (wBin oIsN (wVar 0) (wC .non))) wNext)
  (wSeq (wIf (wTest (wIsi "str" (wVar 1))) (wRet (wAndV (wIsi "str" (wVar 0)) (wBin oEq (wVar 0) (wVar 1)))) wNext)
  (wSeq (wIf (wTest (wIsi "bool" (wVar 1))) (wRet (wAndV (wIsi "bool" (wVar 0)) (wBin oEq (wVar 0) (wVar 1)))) wNext)
  (wSeq (wIf (wTest (wIsi "int" (wVar 1))) (wRet (wAndV (wIsi "int" (wVar 0)) (wAndV (wNotV (wIsi "bool" (wVar 0))) (wBin oEq (wVar 0) (wVar 1))))) wNext)
  (wSeq (wIf (wOr (wNot (wTest (wIsi "tuple" (wVar 0)))) (wTest (wBin oNe (wCB oLen (wCons (wVar 0) wNil)) (wCB oLen (wCons (wVar 1) wNil))))) (wRet (wC (.bl false))) wNext)
  (wSeq (wFor (wRg1 (wCB oLen (wCons (wVar 1) wNil))) (gN 2) (wIf (wNot (wTest (wCall (sp__law_same_n c n) (wCons (wBin oIx (wVar 0) (wVar 2)) (wCons (wBin oIx (wVar 1) (wVar 2)) wNil))))) (wRet (wC (.bl false))) wNext))
  (wRet (wC (.bl true)))))))))
def N__law_vector_ : List Str := ["numbers", "at", "width", "prime", "vector", "j"]
/-- _law_vector: slots 0 numbers, 1 at, 2 width, 3 prime, 4 vector, 5 j, -/
def w__law_vector (c : Cl) : WPs := (wSeq (wSet 4 (wLstM wNil))
  (wSeq (wFor (wRg2 (wVar 1) (wBin oAdd (wVar 1) (wVar 2))) (gN 5) (wDrop (wMt oAppend (wVar 4) (wCons (wBin oMod (wCB oInt (wCons (wBin oAdd (wBin oIx (wVar 0) (wBin oMod (wCB oInt (wCons (wVar 5) wNil)) (wCB oLen (wCons (wVar 0) wNil)))) (wBin oMul (wC (.int 7)) (wBin oDiv (wVar 5) (wCB oLen (wCons (wVar 0) wNil))))) wNil)) (wVar 3)) wNil))))
  (wRet (wCB oTuple (wCons (wVar 4) wNil)))))
def N__law_net_ : List Str := ["numbers", "letters", "width", "many", "prime", "rows", "j", "layers", "at", "matrices", "first"]
/-- _law_net: slots 0 numbers, 1 letters, 2 width, 3 many, 4 prime, 5 rows, 6 j, 7 layers, 8 at, 9 matrices, 10 first, -/
def w__law_net (c : Cl) : WPs := (wSeq (wSet 5 (wLstM wNil))
  (wSeq (wFor (wRg1 (wBin oAdd (wBin oAdd (wBin oMul (wC (.int 2)) (wVar 1)) (wC (.int 1))) (wBin oMul (wBin oMul (wC (.int 5)) (wVar 2)) (wVar 3)))) (gN 6) (wDrop (wMt oAppend (wVar 5) (wCons (wCall (sp__law_vector c) (wCons (wVar 0) (wCons (wBin oMul (wVar 6) (wVar 2)) (wCons (wVar 2) (wCons (wVar 4) wNil))))) wNil))))
  (wSeq (wSet 7 (wLstM wNil))
  (wSeq (wFor (wRg1 (wVar 3)) (gN 8) (wSeq (wSet 9 (wLstM wNil))
  (wSeq (wFor (wRg1 (wC (.int 5))) (gN 6) (wSeq (wSet 10 (wBin oAdd (wBin oAdd (wBin oMul (wC (.int 2)) (wVar 1)) (wC (.int 1))) (wBin oMul (wVar 2) (wBin oAdd (wBin oMul (wC (.int 5)) (wVar 8)) (wVar 6)))))
  (wDrop (wMt oAppend (wVar 9) (wCons (wCB oTuple (wCons (wSl (wVar 5) (wP (wVar 10)) (wP (wBin oAdd (wVar 10) (wVar 2)))) wNil)) wNil)))))
  (wDrop (wMt oAppend (wVar 7) (wCons (wCB oTuple (wCons (wVar 9) wNil)) wNil))))))
  (wRet (wTup (wCons (wVar 4) (wCons (wCB oTuple (wCons (wSl (wVar 5) wNoP (wP (wVar 1))) wNil)) (wCons (wBin oIx (wVar 5) (wBin oMul (wC (.int 2)) (wVar 1))) (wCons (wCB oTuple (wCons (wVar 7) wNil)) (wCons (wCB oTuple (wCons (wSl (wVar 5) (wP (wVar 1)) (wP (wBin oMul (wC (.int 2)) (wVar 1)))) wNil)) wNil)))))))))))
def N__law_dot_ : List Str := ["one", "other", "prime", "total", "k"]
/-- _law_dot: slots 0 one, 1 other, 2 prime, 3 total, 4 k, -/
def w__law_dot (c : Cl) : WPs := (wSeq (wSet 3 (wC (.int 0)))
  (wSeq (wFor (wRg1 (wCB oLen (wCons (wVar 0) wNil))) (gN 4) (wSet 3 (wBin oAdd (wVar 3) (wBin oMul (wBin oIx (wVar 0) (wVar 4)) (wBin oIx (wVar 1) (wVar 4))))))
  (wRet (wBin oMod (wCB oInt (wCons (wVar 3) wNil)) (wVar 2)))))
def N__law_times_ : List Str := ["matrix", "vector", "prime", "row"]
/-- _law_times: slots 0 matrix, 1 vector, 2 prime, 3 row, -/
def w__law_times (c : Cl) : WPs := (wRet (wLc (wIt (wVar 0)) (gN 3) wYes (wCall (sp__law_dot c) (wCons (wVar 3) (wCons (wVar 1) (wCons (wVar 2) wNil)))) [3]))
def N__law_row_ : List Str := ["net", "rows", "letter", "prime", "x", "pairs", "at", "layer", "asked", "pair", "other", "near", "squares", "more", "k", "row", "one"]
/-- _law_row: slots 0 net, 1 rows, 2 letter, 3 prime, 4 x, 5 pairs, 6 at, 7 layer, 8 asked, 9 pair, 10 other, 11 near, 12 squares, 13 more, 14 k, 15 row, 16 one, -/
def w__law_row (c : Cl) : WPs := (wSeq (wSet 3 (wBin oIx (wVar 0) (wC (.int 0))))
  (wSeq (wSet 4 (wLc (wRg1 (wCB oLen (wCons (wBin oIx (wVar 0) (wC (.int 2))) wNil))) (gN 14) wYes (wBin oMod (wCB oInt (wCons (wBin oAdd (wBin oIx (wBin oIx (wBin oIx (wVar 0) (wC (.int 1))) (wVar 2)) (wVar 14)) (wBin oMul (wCB oLen (wCons (wVar 1) wNil)) (wBin oIx (wBin oIx (wVar 0) (wC (.int 2))) (wVar 14)))) wNil)) (wVar 3)) [14]))
  (wSeq (wSet 5 (wLstM wNil))
  (wSeq (wFor (wRg1 (wCB oLen (wCons (wBin oIx (wVar 0) (wC (.int 3))) wNil))) (gN 6) (wSeq (wSet 7 (wBin oIx (wBin oIx (wVar 0) (wC (.int 3))) (wVar 6)))
  (wSeq (wSet 8 (wCall (sp__law_times c) (wCons (wBin oIx (wVar 7) (wC (.int 0))) (wCons (wVar 4) (wCons (wVar 3) wNil)))))
  (wSeq (wSet 9 (wTup (wCons (wCB oTuple (wCons (wCall (sp__law_times c) (wCons (wBin oIx (wVar 7) (wC (.int 1))) (wCons (wVar 4) (wCons (wVar 3) wNil)))) wNil)) (wCons (wCB oTuple (wCons (wCall (sp__law_times c) (wCons (wBin oIx (wVar 7) (wC (.int 2))) (wCons (wVar 4) (wCons (wVar 3) wNil)))) wNil)) wNil))))
  (wSeq (wFor (wIt (wBin oAdd (wLc (wIt (wVar 1)) (gN 15) wYes (wBin oIx (wBin oIx (wVar 15) (wC (.int 0))) (wVar 6)) [15]) (wLst (wCons (wVar 9) wNil)))) (gN 10) (wSeq (wSet 11 (wCall (sp__law_dot c) (wCons (wVar 8) (wCons (wBin oIx (wVar 10) (wC (.int 0))) (wCons (wVar 3) wNil)))))
  (wSet 4 (wLc (wRg1 (wCB oLen (wCons (wVar 4) wNil))) (gN 14) wYes (wBin oMod (wCB oInt (wCons (wBin oAdd (wBin oIx (wVar 4) (wVar 14)) (wBin oMul (wVar 11) (wBin oIx (wBin oIx (wVar 10) (wC (.int 1))) (wVar 14)))) wNil)) (wVar 3)) [14]))))
  (wSeq (wSet 12 (wLc (wIt (wCall (sp__law_times c) (wCons (wBin oIx (wVar 7) (wC (.int 3))) (wCons (wVar 4) (wCons (wVar 3) wNil))))) (gN 16) wYes (wBin oMul (wVar 16) (wVar 16)) [16]))
  (wSeq (wSet 13 (wCall (sp__law_times c) (wCons (wBin oIx (wVar 7) (wC (.int 4))) (wCons (wVar 12) (wCons (wVar 3) wNil)))))
  (wSeq (wSet 4 (wLc (wRg1 (wCB oLen (wCons (wVar 4) wNil))) (gN 14) wYes (wBin oMod (wCB oInt (wCons (wBin oAdd (wBin oIx (wVar 4) (wVar 14)) (wBin oIx (wVar 13) (wVar 14))) wNil)) (wVar 3)) [14]))
  (wDrop (wMt oAppend (wVar 5) (wCons (wVar 9) wNil)))))))))))
  (wRet (wTup (wCons (wCB oTuple (wCons (wVar 5) wNil)) (wCons (wCB oTuple (wCons (wLc (wIt (wBin oIx (wVar 0) (wC (.int 4)))) (gN 16) wYes (wBin oAdd (wCall (sp__law_dot c) (wCons (wVar 16) (wCons (wVar 4) (wCons (wVar 3) wNil)))) (wC (.int 1))) [16]) wNil)) wNil))))))))
def N__law_some_rows_ : List Str := ["numbers", "net", "rows", "k"]
/-- _law_some_rows: slots 0 numbers, 1 net, 2 rows, 3 k, -/
def w__law_some_rows (c : Cl) : WPs := (wSeq (wSet 1 (wCall (sp__law_net c) (wCons (wVar 0) (wCons (wBin oAdd (wC (.int 1)) (wBin oMod (wCB oInt (wCons (wBin oIx (wVar 0) (wC (.int 0))) wNil)) (wC (.int 3)))) (wCons (wBin oAdd (wC (.int 1)) (wBin oMod (wCB oInt (wCons (wBin oIx (wVar 0) (wC (.int 1))) wNil)) (wC (.int 2)))) (wCons (wBin oMod (wCB oInt (wCons (wBin oIx (wVar 0) (wC (.int 2))) wNil)) (wC (.int 2))) (wCons (wC (.int 97)) wNil)))))))
  (wSeq (wSet 2 (wLstM wNil))
  (wSeq (wFor (wRg1 (wC (.int 20))) (gN 3) (wDrop (wMt oAppend (wVar 2) (wCons (wCall (sp__law_row c) (wCons (wVar 1) (wCons (wSl (wVar 2) wNoP (wP (wC (.int 5)))) (wCons (wBin oMod (wCB oInt (wCons (wBin oIx (wVar 0) (wBin oAdd (wC (.int 3)) (wVar 3))) wNil)) (wCB oLen (wCons (wBin oIx (wVar 1) (wC (.int 1))) wNil))) wNil)))) wNil))))
  (wRet (wFrz (wVar 2))))))
def N__law_lowest_ : List Str := ["state", "block"]
/-- _law_lowest: slots 0 state, 1 block, -/
def w__law_lowest (c : Cl) : WPs := (wSeq (wFor (wRg1 (wCB oLen (wCons (wBin oIx (wVar 0) (wC (.int 0))) wNil))) (gN 1) (wIf (wTest (wBin oEq (wBin oIx (wBin oIx (wVar 0) (wC (.int 0))) (wVar 1)) (wC (.int 0)))) (wRet (wVar 1)) wNext))
  (wRet (wC .non)))
def N__law_take_ : List Str := ["state", "block"]
/-- _law_take: slots 0 state, 1 block, -/
def w__law_take (c : Cl) : WPs := (wSeq (wSet 1 (wCall (sp__law_lowest c) (wCons (wVar 0) wNil)))
  (wSeq (wIf (wTest (wBin oNotN (wVar 1) (wC .non))) (wSetI (wBin oIx (wVar 0) (wC (.int 0))) (wVar 1) (wC (.int 1))) wNext)
  (wRet (wVar 1))))
def N__law_release_ : List Str := ["state", "block"]
/-- _law_release: slots 0 state, 1 block, -/
def w__law_release (c : Cl) : WPs := (wSeq (wSetI (wBin oIx (wVar 0) (wC (.int 0))) (wVar 1) (wBin oSub (wBin oIx (wBin oIx (wVar 0) (wC (.int 0))) (wVar 1)) (wC (.int 1))))
  (wIf (wTest (wBin oEq (wBin oIx (wBin oIx (wVar 0) (wC (.int 0))) (wVar 1)) (wC (.int 0)))) (wSetI (wBin oIx (wVar 0) (wC (.int 1))) (wVar 1) (wLstM wNil)) wNext))
def N__law_is_integer_ : List Str := ["value", "low", "high"]
/-- _law_is_integer: slots 0 value, 1 low, 2 high, -/
def w__law_is_integer (c : Cl) : WPs := (wRet (wAndV (wIsi "int" (wVar 0)) (wAndV (wNotV (wIsi "bool" (wVar 0))) (wChain oLe oLe (wVar 1) (wVar 0) (wVar 2)))))
def N__law_odd_ : List Str := ["numbers", "k", "most", "odds"]
/-- _law_odd: slots 0 numbers, 1 k, 2 most, 3 odds, -/
def w__law_odd (c : Cl) : WPs := (wSeq (wSet 3 (wLstM (wCons (wUn oNeg (wC (.int 1))) (wCons (wVar 2) (wCons (wC (.bl true)) (wCons (wC (.bl false)) (wCons (wC .non) (wCons (wC (.str "0")) (wCons (wTup (wCons (wC (.int 0)) wNil)) (wCons (wLst (wCons (wC (.int 0)) wNil)) (wCons (wBin oPow (wC (.int 10)) (wC (.int 30))) (wCons (wTup wNil) (wCons (wC (.str "")) (wCons (wUn oNeg (wBin oPow (wC (.int 10)) (wC (.int 20)))) wNil))))))))))))))
  (wSeq (wDrop (wMt oAppend (wVar 3) (wCons (wBin oAdd (wVar 2) (wBin oMod (wCB oInt (wCons (wBin oIx (wVar 0) (wVar 1)) wNil)) (wC (.int 70)))) wNil)))
  (wRet (wBin oIx (wVar 3) (wBin oMod (wCB oInt (wCons (wBin oIx (wVar 0) (wBin oAdd (wVar 1) (wC (.int 1)))) wNil)) (wC (.int 13)))))))
def N__law_kinds_ : List Str := ["e", "kinds"]
/-- _law_kinds: slots 0 e, 1 kinds, -/
def w__law_kinds (c : Cl) (a dd C : Addr) : WPs := (wSeq (wSet 1 (wLstM wNil))
  (wSeq (wIf (wTest (wIsE c.K a dd C c.InvalidNumber (wVar 0))) (wDrop (wMt oAppend (wVar 1) (wCons (wTup (wCons (wC (.str "InvalidNumber")) (wCons (wCB oRepr (wCons (wExF c.K a dd C "number" (wVar 0)) wNil)) wNil))) wNil))) wNext)
  (wSeq (wIf (wTest (wIsE c.K a dd C c.NoRoom (wVar 0))) (wDrop (wMt oAppend (wVar 1) (wCons (wTup (wCons (wC (.str "NoRoom")) (wCons (wCB oRepr (wCons (wExF c.K a dd C "many" (wVar 0)) wNil)) wNil))) wNil))) wNext)
  (wSeq (wIf (wTest (wIsE c.K a dd C c.NotAlone (wVar 0))) (wDrop (wMt oAppend (wVar 1) (wCons (wTup (wCons (wC (.str "NotAlone")) (wCons (wCB oRepr (wCons (wExF c.K a dd C "block" (wVar 0)) wNil)) wNil))) wNil))) wNext)
  (wSeq (wIf (wTest (wIsE c.K a dd C c.NotHeld (wVar 0))) (wDrop (wMt oAppend (wVar 1) (wCons (wTup (wCons (wC (.str "NotHeld")) (wCons (wCB oRepr (wCons (wExF c.K a dd C "block" (wVar 0)) wNil)) wNil))) wNil))) wNext)
  (wSeq (wIf (wOr (wTest (wIsET c.K a dd C [c.InvalidLetter, c.NoHouse, c.NoRequest, c.TooLarge] (wVar 0))) (wNot (wTest (wIsEB c.K a dd C "ValueError" (wVar 0))))) (wDrop (wMt oAppend (wVar 1) (wCons (wTup (wCons (wC (.str "other")) (wCons (wC (.str "")) wNil))) wNil))) wNext)
  (wSeq (wIf (wTest (wBin oEq (wCB oLen (wCons (wVar 1) wNil)) (wC (.int 1)))) (wRet (wBin oIx (wVar 1) (wC (.int 0)))) wNext)
  (wRet (wTup (wCons (wC (.str "other")) (wCons (wC (.str "")) wNil)))))))))))
def N__law_call_ : List Str := ["store", "word", "block", "value", "named"]
/-- _law_call: slots 0 store, 1 word, 2 block, 3 value, 4 named, -/
def w__law_call (c : Cl) : WPs := (wSeq (wIf (wTest (wBin oEq (wVar 1) (wC (.str "take")))) (wRet (wMeth c.Store N_Store (sp_Store_take c) (wVar 0) wNil)) wNext)
  (wSeq (wIf (wAnd (wTest (wBin oEq (wVar 1) (wC (.str "put")))) (wTest (wVar 4))) (wRet (wMethK c.Store N_Store (sp_Store_put_row c) 2 [0, 2, 1] (wVar 0) (wCons (wVar 3) (wCons (wVar 2) wNil)))) wNext)
  (wSeq (wIf (wAnd (wTest (wBin oEq (wVar 1) (wC (.str "shorten")))) (wTest (wVar 4))) (wRet (wMethK c.Store N_Store (sp_Store_shorten c) 2 [0, 2, 1] (wVar 0) (wCons (wVar 3) (wCons (wVar 2) wNil)))) wNext)
  (wSeq (wIf (wAnd (wTest (wBin oEq (wVar 1) (wC (.str "holders")))) (wTest (wVar 4))) (wRet (wMethK c.Store N_Store (sp_Store_holders c) 1 [0, 1] (wVar 0) (wCons (wVar 2) wNil))) wNext)
  (wSeq (wIf (wAnd (wTest (wBin oEq (wVar 1) (wC (.str "hold")))) (wTest (wVar 4))) (wRet (wMethK c.Store N_Store (sp_Store_hold c) 1 [0, 1] (wVar 0) (wCons (wVar 2) wNil))) wNext)
  (wSeq (wIf (wAnd (wTest (wBin oEq (wVar 1) (wC (.str "release")))) (wTest (wVar 4))) (wRet (wMethK c.Store N_Store (sp_Store_release c) 1 [0, 1] (wVar 0) (wCons (wVar 2) wNil))) wNext)
  (wSeq (wIf (wAnd (wTest (wBin oEq (wVar 1) (wC (.str "rows")))) (wTest (wVar 4))) (wRet (wMethK c.Store N_Store (sp_Store_rows c) 1 [0, 1] (wVar 0) (wCons (wVar 2) wNil))) wNext)
  (wSeq (wIf (wTest (wBin oEq (wVar 1) (wC (.str "hold")))) (wRet (wMeth c.Store N_Store (sp_Store_hold c) (wVar 0) (wCons (wVar 2) wNil))) wNext)
  (wSeq (wIf (wTest (wBin oEq (wVar 1) (wC (.str "release")))) (wRet (wMeth c.Store N_Store (sp_Store_release c) (wVar 0) (wCons (wVar 2) wNil))) wNext)
  (wSeq (wIf (wTest (wBin oEq (wVar 1) (wC (.str "put")))) (wRet (wMeth c.Store N_Store (sp_Store_put_row c) (wVar 0) (wCons (wVar 2) (wCons (wVar 3) wNil)))) wNext)
  (wSeq (wIf (wTest (wBin oEq (wVar 1) (wC (.str "shorten")))) (wRet (wMeth c.Store N_Store (sp_Store_shorten c) (wVar 0) (wCons (wVar 2) (wCons (wVar 3) wNil)))) wNext)
  (wSeq (wIf (wTest (wBin oEq (wVar 1) (wC (.str "rows")))) (wRet (wMeth c.Store N_Store (sp_Store_rows c) (wVar 0) (wCons (wVar 2) wNil))) wNext)
  (wRet (wMeth c.Store N_Store (sp_Store_holders c) (wVar 0) (wCons (wVar 2) wNil)))))))))))))))
def N__law_ask_ : List Str := ["store", "word", "block", "value", "named", "e"]
/-- _law_ask: slots 0 store, 1 word, 2 block, 3 value, 4 named, 5 e, -/
def w__law_ask (c : Cl) : WPs := (wTry c.K c.ServeError 5 (wRet (wTup (wCons (wC (.str "")) (wCons (wCall (sp__law_call c) (wCons (wVar 0) (wCons (wVar 1) (wCons (wVar 2) (wCons (wVar 3) (wCons (wVar 4) wNil)))))) wNil)))) (fun a dd C => (wRet (wCall (sp__law_kinds c a dd C) (wCons (wVar 5) wNil)))))
def N__law_due_ : List Str := ["state", "size", "word", "block", "value"]
/-- _law_due: slots 0 state, 1 size, 2 word, 3 block, 4 value, -/
def w__law_due (c : Cl) : WPs := (wSeq (wIf (wTest (wBin oEq (wVar 2) (wC (.str "take")))) (wSeq (wSet 3 (wCall (sp__law_take c) (wCons (wVar 0) wNil)))
  (wSeq (wIf (wTest (wBin oIsN (wVar 3) (wC .non))) (wRet (wTup (wCons (wC (.str "NoRoom")) (wCons (wC (.str "1")) wNil)))) wNext)
  (wRet (wTup (wCons (wC (.str "")) (wCons (wVar 3) wNil)))))) wNext)
  (wSeq (wIf (wOr (wNot (wTest (wCall (sp__law_is_integer c) (wCons (wVar 3) (wCons (wC (.int 0)) (wCons (wBin oSub (wCB oLen (wCons (wBin oIx (wVar 0) (wC (.int 0))) wNil)) (wC (.int 1))) wNil)))))) (wAnd (wTest (wBin oNe (wVar 2) (wC (.str "holders")))) (wTest (wBin oEq (wBin oIx (wBin oIx (wVar 0) (wC (.int 0))) (wVar 3)) (wC (.int 0)))))) (wRet (wTup (wCons (wC (.str "NotHeld")) (wCons (wCB oRepr (wCons (wVar 3) wNil)) wNil)))) wNext)
  (wSeq (wIf (wTest (wBin oEq (wVar 2) (wC (.str "holders")))) (wRet (wTup (wCons (wC (.str "")) (wCons (wBin oIx (wBin oIx (wVar 0) (wC (.int 0))) (wVar 3)) wNil)))) wNext)
  (wSeq (wIf (wTest (wBin oEq (wVar 2) (wC (.str "rows")))) (wRet (wTup (wCons (wC (.str "")) (wCons (wCB oTuple (wCons (wBin oIx (wBin oIx (wVar 0) (wC (.int 1))) (wVar 3)) wNil)) wNil)))) wNext)
  (wSeq (wIf (wTest (wBin oEq (wVar 2) (wC (.str "hold")))) (wSetI (wBin oIx (wVar 0) (wC (.int 0))) (wVar 3) (wBin oAdd (wBin oIx (wBin oIx (wVar 0) (wC (.int 0))) (wVar 3)) (wC (.int 1)))) (wIf (wTest (wBin oEq (wVar 2) (wC (.str "release")))) (wDrop (wCall (sp__law_release c) (wCons (wVar 0) (wCons (wVar 3) wNil)))) (wIf (wTest (wBin oGt (wBin oIx (wBin oIx (wVar 0) (wC (.int 0))) (wVar 3)) (wC (.int 1)))) (wRet (wTup (wCons (wC (.str "NotAlone")) (wCons (wCB oRepr (wCons (wVar 3) wNil)) wNil)))) (wIf (wTest (wBin oEq (wVar 2) (wC (.str "put")))) (wSeq (wIf (wTest (wBin oEq (wCB oLen (wCons (wBin oIx (wBin oIx (wVar 0) (wC (.int 1))) (wVar 3)) wNil)) (wVar 1))) (wRet (wTup (wCons (wC (.str "NoRoom")) (wCons (wC (.str "1")) wNil)))) wNext)
  (wDrop (wMt oAppend (wBin oIx (wBin oIx (wVar 0) (wC (.int 1))) (wVar 3)) (wCons (wVar 4) wNil)))) (wSeq (wIf (wNot (wTest (wCall (sp__law_is_integer c) (wCons (wVar 4) (wCons (wC (.int 0)) (wCons (wCB oLen (wCons (wBin oIx (wBin oIx (wVar 0) (wC (.int 1))) (wVar 3)) wNil)) wNil)))))) (wRet (wTup (wCons (wC (.str "InvalidNumber")) (wCons (wCB oRepr (wCons (wVar 4) wNil)) wNil)))) wNext)
  (wSetI (wBin oIx (wVar 0) (wC (.int 1))) (wVar 3) (wSlM (wBin oIx (wBin oIx (wVar 0) (wC (.int 1))) (wVar 3)) wNoP (wP (wVar 4)))))))))
  (wRet (wTup (wCons (wC (.str "")) (wCons (wC .non) wNil)))))))))
def N__law_stands_ : List Str := ["store", "state", "block", "one"]
/-- _law_stands: slots 0 store, 1 state, 2 block, 3 one, -/
def w__law_stands (c : Cl) : WPs := (wSeq (wIf (wNot (wTest (wCall (sp__law_same c) (wCons (wProp c.Store N_Store (sp_Store_free c) (wVar 0)) (wCons (wCB oLen (wCons (wLc (wIt (wBin oIx (wVar 1) (wC (.int 0)))) (gN 3) (wTest (wBin oEq (wVar 3) (wC (.int 0)))) (wVar 3) [3]) wNil)) wNil))))) (wRet (wC (.bl false))) wNext)
  (wSeq (wFor (wRg1 (wCB oLen (wCons (wBin oIx (wVar 1) (wC (.int 0))) wNil))) (gN 2) (wSeq (wIf (wNot (wTest (wCall (sp__law_same c) (wCons (wMeth c.Store N_Store (sp_Store_holders c) (wVar 0) (wCons (wVar 2) wNil)) (wCons (wBin oIx (wBin oIx (wVar 1) (wC (.int 0))) (wVar 2)) wNil))))) (wRet (wC (.bl false))) wNext)
  (wIf (wAnd (wTest (wBin oGt (wBin oIx (wBin oIx (wVar 1) (wC (.int 0))) (wVar 2)) (wC (.int 0)))) (wNot (wTest (wCall (sp__law_same c) (wCons (wMeth c.Store N_Store (sp_Store_rows c) (wVar 0) (wCons (wVar 2) wNil)) (wCons (wCB oTuple (wCons (wBin oIx (wBin oIx (wVar 1) (wC (.int 1))) (wVar 2)) wNil)) wNil)))))) (wRet (wC (.bl false))) wNext)))
  (wRet (wC (.bl true)))))
def N__law_listed_ : List Str := ["row", "pairs", "pair"]
/-- _law_listed: slots 0 row, 1 pairs, 2 pair, -/
def w__law_listed (c : Cl) : WPs := (wSeq (wSet 1 (wLcM (wIt (wBin oIx (wVar 0) (wC (.int 0)))) (gN 2) wYes (wLstM (wCons (wCB oListM (wCons (wBin oIx (wVar 2) (wC (.int 0))) wNil)) (wCons (wCB oListM (wCons (wBin oIx (wVar 2) (wC (.int 1))) wNil)) wNil))) [2]))
  (wRet (wLstM (wCons (wVar 1) (wCons (wCB oListM (wCons (wBin oIx (wVar 0) (wC (.int 1))) wNil)) wNil)))))
def N__law_spoilt_ : List Str := ["handed", "pair"]
/-- _law_spoilt: slots 0 handed, 1 pair, -/
def w__law_spoilt (c : Cl) : WPs := (wIf (wTest (wIsi "list" (wVar 0))) (wSeq (wFor (wIt (wBin oIx (wVar 0) (wC (.int 0)))) (gN 1) (wSeq (wDrop (wMt oAppend (wBin oIx (wVar 1) (wC (.int 0))) (wCons (wC (.int 0)) wNil)))
  (wDrop (wMt oAppend (wVar 1) (wCons (wLst wNil) wNil)))))
  (wSeq (wDrop (wMt oAppend (wBin oIx (wVar 0) (wC (.int 1))) (wCons (wC (.int 0)) wNil)))
  (wDrop (wMt oAppend (wVar 0) (wCons (wLst wNil) wNil))))) wNext)
def N__law_hands_ : List Str := ["word", "value", "listed"]
/-- _law_hands: slots 0 word, 1 value, 2 listed, -/
def w__law_hands (c : Cl) : WPs := (wSeq (wIf (wAnd (wTest (wBin oEq (wVar 0) (wC (.str "put")))) (wTest (wVar 2))) (wRet (wCall (sp__law_listed c) (wCons (wVar 1) wNil))) wNext)
  (wRet (wVar 1)))
def N__law_free_ : List Str := ["state", "one"]
/-- _law_free: slots 0 state, 1 one, -/
def w__law_free (c : Cl) : WPs := (wRet (wCB oLen (wCons (wLc (wIt (wBin oIx (wVar 0) (wC (.int 0)))) (gN 1) (wTest (wBin oEq (wVar 1) (wC (.int 0)))) (wVar 1) [1]) wNil)))
def N__law_looks_ : List Str := ["stores", "states", "block", "named", "k", "word", "due"]
/-- _law_looks: slots 0 stores, 1 states, 2 block, 3 named, 4 k, 5 word, 6 due, -/
def w__law_looks (c : Cl) : WPs := (wSeq (wFor (wRg1 (wC (.int 2))) (gN 4) (wSeq (wIf (wNot (wTest (wCall (sp__law_same c) (wCons (wProp c.Store N_Store (sp_Store_free c) (wBin oIx (wVar 0) (wVar 4))) (wCons (wCall (sp__law_free c) (wCons (wBin oIx (wVar 1) (wVar 4)) wNil)) wNil))))) (wRet (wC (.bl false))) wNext)
  (wFor (wIt (wLst (wCons (wC (.str "rows")) (wCons (wC (.str "holders")) wNil)))) (gN 5) (wSeq (wSet 6 (wCall (sp__law_due c) (wCons (wBin oIx (wVar 1) (wVar 4)) (wCons (wC (.int 0)) (wCons (wVar 5) (wCons (wVar 2) (wCons (wC .non) wNil)))))))
  (wIf (wNot (wTest (wCall (sp__law_same c) (wCons (wCall (sp__law_ask c) (wCons (wBin oIx (wVar 0) (wVar 4)) (wCons (wVar 5) (wCons (wVar 2) (wCons (wC .non) (wCons (wVar 3) wNil)))))) (wCons (wVar 6) wNil))))) (wRet (wC (.bl false))) wNext)))))
  (wRet (wC (.bl true))))
def N_law_ : List Str := ["script", "head", "rows", "shapes", "k", "many", "stores", "states", "at", "numbers", "one", "words", "word", "held", "block", "value", "turn", "handed", "told", "due", "looked", "shape"]
/-- law: slots 0 script, 1 head, 2 rows, 3 shapes, 4 k, 5 many, 6 stores, 7 states, 8 at, 9 numbers, 10 one, 11 words, 12 word, 13 held, 14 block, 15 value, 16 turn, 17 handed, 18 told, 19 due, 20 looked, 21 shape, -/
def w_law (c : Cl) : WPs := (wSeq (wSet 1 (wCall (sp__law_numbers c) (wCons (wIfE (wTest (wBin oGt (wCB oLen (wCons (wVar 0) wNil)) (wC (.int 0)))) (wBin oIx (wVar 0) (wC (.int 0))) (wC (.int 0))) (wCons (wC (.int 0)) (wCons (wC (.int 60)) wNil)))))
  (wSeq (wSet 2 (wCall (sp__law_some_rows c) (wCons (wVar 1) wNil)))
  (wSeq (wSet 3 (wLstM wNil))
  (wSeq (wFor (wRg1 (wC (.int 2))) (gN 4) (wSeq (wSet 5 (wBin oIx (wLst (wCons (wC (.int 1)) (wCons (wC (.int 2)) (wCons (wC (.int 3)) (wCons (wC (.int 4)) (wCons (wC (.int 60)) (wCons (wBin oAdd (wC (.int 1)) (wBin oMod (wCB oInt (wCons (wBin oIx (wVar 1) (wBin oAdd (wC (.int 30)) (wVar 4))) wNil)) (wC (.int 60)))) wNil))))))) (wBin oMod (wCB oInt (wCons (wBin oIx (wVar 1) (wBin oAdd (wC (.int 32)) (wVar 4))) wNil)) (wC (.int 6)))))
  (wDrop (wMt oAppend (wVar 3) (wCons (wTup (wCons (wVar 5) (wCons (wBin oIx (wLst (wCons (wC (.int 1)) (wCons (wC (.int 2)) (wCons (wC (.int 8)) (wCons (wBin oAdd (wC (.int 1)) (wBin oMod (wCB oInt (wCons (wBin oIx (wVar 1) (wBin oAdd (wC (.int 34)) (wVar 4))) wNil)) (wC (.int 8)))) wNil))))) (wBin oMod (wCB oInt (wCons (wBin oIx (wVar 1) (wBin oAdd (wC (.int 36)) (wVar 4))) wNil)) (wC (.int 4)))) wNil))) wNil)))))
  (wSeq (wSet 6 (wLc (wIt (wVar 3)) (gN 21) wYes (wMake c.Store N_Store (sp_Store_init c) (wCons (wBin oIx (wVar 21) (wC (.int 0))) (wCons (wBin oIx (wVar 21) (wC (.int 1))) wNil))) [21]))
  (wSeq (wSet 7 (wLc (wIt (wVar 3)) (gN 21) wYes (wLst (wCons (wBin oRepM (wLst (wCons (wC (.int 0)) wNil)) (wBin oIx (wVar 21) (wC (.int 0)))) (wCons (wLcM (wRg1 (wBin oIx (wVar 21) (wC (.int 0)))) (gN 4) wYes (wLstM wNil) [4]) wNil))) [21]))
  (wSeq (wFor (wRg2 (wC (.int 1)) (wCB oMin2 (wCons (wCB oLen (wCons (wVar 0) wNil)) (wCons (wC (.int 63)) wNil)))) (gN 8) (wSeq (wSet 9 (wCall (sp__law_numbers c) (wCons (wBin oIx (wVar 0) (wVar 8)) (wCons (wVar 8) (wCons (wC (.int 12)) wNil)))))
  (wSeq (wSet 10 (wBin oMod (wCB oInt (wCons (wBin oIx (wVar 9) (wC (.int 0))) wNil)) (wC (.int 2))))
  (wSeq (wSet 5 (wBin oIx (wBin oIx (wVar 3) (wVar 10)) (wC (.int 0))))
  (wSeq (wSet 11 (wLst (wCons (wC (.str "take")) (wCons (wC (.str "take")) (wCons (wC (.str "take")) (wCons (wC (.str "put")) (wCons (wC (.str "put")) (wCons (wC (.str "put")) (wCons (wC (.str "hold")) (wCons (wC (.str "release")) (wCons (wC (.str "shorten")) (wCons (wC (.str "rows")) (wCons (wC (.str "holders")) wNil)))))))))))))
  (wSeq (wSet 12 (wBin oIx (wVar 11) (wBin oMod (wCB oInt (wCons (wBin oIx (wVar 9) (wC (.int 1))) wNil)) (wC (.int 11)))))
  (wSeq (wSet 13 (wLc (wRg1 (wVar 5)) (gN 14) (wTest (wBin oGt (wBin oIx (wBin oIx (wBin oIx (wVar 7) (wVar 10)) (wC (.int 0))) (wVar 14)) (wC (.int 0)))) (wVar 14) [14]))
  (wSeq (wSet 14 (wBin oMod (wCB oInt (wCons (wBin oIx (wVar 9) (wC (.int 2))) wNil)) (wVar 5)))
  (wSeq (wIf (wAnd (wTest (wBin oGt (wCB oLen (wCons (wVar 13) wNil)) (wC (.int 0)))) (wTest (wBin oGt (wBin oMod (wCB oInt (wCons (wBin oIx (wVar 9) (wC (.int 3))) wNil)) (wC (.int 4))) (wC (.int 0))))) (wSet 14 (wBin oIx (wVar 13) (wBin oMod (wCB oInt (wCons (wBin oIx (wVar 9) (wC (.int 2))) wNil)) (wCB oLen (wCons (wVar 13) wNil))))) wNext)
  (wSeq (wIf (wTest (wBin oEq (wBin oMod (wCB oInt (wCons (wBin oIx (wVar 9) (wC (.int 3))) wNil)) (wC (.int 16))) (wC (.int 0)))) (wSet 14 (wCall (sp__law_odd c) (wCons (wVar 9) (wCons (wC (.int 4)) (wCons (wVar 5) wNil))))) wNext)
  (wSeq (wSet 15 (wC .non))
  (wSeq (wIf (wTest (wBin oEq (wVar 12) (wC (.str "put")))) (wSet 15 (wBin oIx (wVar 2) (wBin oMod (wCB oInt (wCons (wBin oIx (wVar 9) (wC (.int 6))) wNil)) (wC (.int 20))))) wNext)
  (wSeq (wIf (wTest (wBin oEq (wVar 12) (wC (.str "shorten")))) (wSet 15 (wBin oIx (wLst (wCons (wBin oMod (wCB oInt (wCons (wBin oIx (wVar 9) (wC (.int 7))) wNil)) (wC (.int 9))) (wCons (wCall (sp__law_odd c) (wCons (wVar 9) (wCons (wC (.int 8)) (wCons (wC (.int 9)) wNil)))) wNil))) (wCB oInt (wCons (wBin oEq (wBin oMod (wCB oInt (wCons (wBin oIx (wVar 9) (wC (.int 6))) wNil)) (wC (.int 4))) (wC (.int 0))) wNil)))) wNext)
  (wFor (wRg1 (wBin oIx (wLst (wCons (wC (.int 1)) (wCons (wC (.int 1)) (wCons (wC (.int 1)) (wCons (wC (.int 2)) wNil))))) (wBin oMod (wCB oInt (wCons (wBin oIx (wVar 9) (wC (.int 10))) wNil)) (wC (.int 4))))) (gN 16) (wSeq (wSet 17 (wCall (sp__law_hands c) (wCons (wVar 12) (wCons (wVar 15) (wCons (wBin oEq (wBin oMod (wCB oInt (wCons (wBin oIx (wVar 9) (wC (.int 11))) wNil)) (wC (.int 2))) (wC (.int 0))) wNil)))))
  (wSeq (wSet 18 (wCall (sp__law_ask c) (wCons (wBin oIx (wVar 6) (wVar 10)) (wCons (wVar 12) (wCons (wVar 14) (wCons (wVar 17) (wCons (wBin oEq (wBin oMod (wCB oInt (wCons (wBin oIx (wVar 9) (wC (.int 9))) wNil)) (wC (.int 2))) (wC (.int 0))) wNil)))))))
  (wSeq (wSet 19 (wCall (sp__law_due c) (wCons (wBin oIx (wVar 7) (wVar 10)) (wCons (wBin oIx (wBin oIx (wVar 3) (wVar 10)) (wC (.int 1))) (wCons (wVar 12) (wCons (wVar 14) (wCons (wVar 15) wNil)))))))
  (wSeq (wIf (wNot (wTest (wCall (sp__law_same c) (wCons (wVar 18) (wCons (wVar 19) wNil))))) (wRet (wC (.bl false))) wNext)
  (wSeq (wIf (wTest (wBin oEq (wVar 12) (wC (.str "put")))) (wDrop (wCall (sp__law_spoilt c) (wCons (wVar 17) wNil))) wNext)
  (wSeq (wSet 20 (wVar 14))
  (wSeq (wIf (wAnd (wTest (wBin oEq (wVar 12) (wC (.str "take")))) (wTest (wBin oEq (wBin oIx (wVar 19) (wC (.int 0))) (wC (.str ""))))) (wSet 20 (wBin oIx (wVar 19) (wC (.int 1)))) wNext)
  (wIf (wNot (wTest (wCall (sp__law_looks c) (wCons (wVar 6) (wCons (wVar 7) (wCons (wVar 20) (wCons (wBin oEq (wBin oMod (wCB oInt (wCons (wBin oDiv (wBin oIx (wVar 9) (wC (.int 9))) (wC (.int 2))) wNil)) (wC (.int 2))) (wC (.int 0))) wNil))))))) (wRet (wC (.bl false))) wNext))))))))))))))))))))))
  (wSeq (wFor (wRg1 (wC (.int 2))) (gN 4) (wIf (wOr (wNot (wTest (wCall (sp__law_same c) (wCons (wFld c.Store N_Store 0 (wBin oIx (wVar 6) (wVar 4))) (wCons (wBin oIx (wBin oIx (wVar 3) (wVar 4)) (wC (.int 0))) wNil))))) (wNot (wTest (wCall (sp__law_same c) (wCons (wFld c.Store N_Store 1 (wBin oIx (wVar 6) (wVar 4))) (wCons (wBin oIx (wBin oIx (wVar 3) (wVar 4)) (wC (.int 1))) wNil)))))) (wRet (wC (.bl false))) wNext))
  (wRet (wAndV (wCall (sp__law_stands c) (wCons (wBin oIx (wVar 6) (wC (.int 0))) (wCons (wBin oIx (wVar 7) (wC (.int 0))) wNil))) (wCall (sp__law_stands c) (wCons (wBin oIx (wVar 6) (wC (.int 1))) (wCons (wBin oIx (wVar 7) (wC (.int 1))) wNil)))))))))))))
end K12
set_option Elab.async false
set_option linter.all false
set_option maxRecDepth 100000
set_option maxHeartbeats 1000000
namespace K12
open PySem PySem.Spec PyProof.Rows L2 DL
theorem seq_k {w u : WPs} {env : DE} {S : Sto} {q : QS} (h : ∀ q1 : QS, (∀ e s, u e s q → q1.nx e s) → q1.rt = q.rt → q1.bk = q.bk → q1.ct = q.ct → q1.xc = q.xc → w env S q1) : wSeq w u env S q :=
  h { q with nx := fun e s => u e s q } (fun _ _ z => z) rfl rfl rfl rfl
theorem kt2 : kitB "bool" "int" = some true := by decide +kernel
theorem kt3 : kitB "int" "int" = some true := by decide +kernel
theorem kt7 : kitB "bool" "bool" = some true := by decide +kernel
theorem kt8 : kitB "int" "bool" = some false := by decide +kernel
theorem oIx_eq {S : Sto} {x d : D} {i : Int} {xs : List D} (h : seqA S x = some xs) (h2 : atI xs i = some d) (Q : Qd) : oIx S x (.int i) Q = Q d S := by
  show some! (seqA S x) _ = _
  rw [h]
  show some! (atI xs i) _ = _
  rw [h2]
  rfl
theorem at_k {α : Type} {xs : List α} {k : Nat} {x : α} (h : xs[k]? = some x) : atI xs (k : Int) = some x := by
  have hl := lt_of_some h
  unfold atI ixN
  rw [if_pos (by omega), if_pos (by omega)]
  show xs[(k : Int).toNat]? = _
  rw [Int.toNat_natCast]; exact h
theorem at_z {α : Type} {xs : List α} {k : Int} {x : α} (h0 : 0 ≤ k) (h : xs[k.toNat]? = some x) : atI xs k = some x := by
  have := at_k h
  rw [Int.toNat_of_nonneg h0] at this; exact this
theorem seqA_at {S : Sto} {p : Addr} {xs : List D} (h : S p = some (.lst xs)) : seqA S (.ref p) = some xs := by
  show (match S p with | some (MO.lst xs) => some xs | _ => none) = _
  rw [h]
theorem seqL_at {S : Sto} {p : Addr} {xs : List D} (h : S p = some (.lst xs)) : seqL S (.ref p) = some xs := seqA_at h
theorem ext_refl (S : Sto) : Ext S S := fun _ _ z => z
theorem ext_put {S S' : Sto} {p : Addr} {m : MO} (e : Ext S S') (h : S' p = none) : Ext S (put S' p m) := fun a n z => by
  have := e a n z
  rw [put_ne (fun y => by rw [y, h] at this; cases this)]; exact this
theorem ext_none {S S' : Sto} {p : Addr} (e : Ext S S') (h : S' p = none) : S p = none := by
  cases z : S p with
  | none => rfl
  | some m => rw [e p m z] at h; cases h
theorem ext_chg {S S' : Sto} {p : Addr} {m : MO} (e : Ext S S') (h : S p = none) : Ext S (put S' p m) := fun a n z => by
  rw [put_ne (fun y => by rw [y, h] at z; cases z)]; exact e a n z
theorem ext_del {S S' : Sto} {p : Addr} (e : Ext S S') (h : S p = none) : Ext S (del S' p) := fun a n z => by
  show (if a = p then none else S' a) = _
  rw [if_neg (fun y => by rw [y, h] at z; cases z)]; exact e a n z
theorem ext_trans {S S' S'' : Sto} (e : Ext S S') (e2 : Ext S' S'') : Ext S S'' := fun a n z => e2 a n (e a n z)
theorem oLen_of {S : Sto} {d : D} {xs : List D} {Q : Qd} (h : seqA S d = some xs) (q : Q (.int (xs.length : Nat)) S) : oLen S [d] Q := by
  have key : some! (seqA S d) fun xs => Q (.int (xs.length : Nat)) S := by rw [h]; exact q
  cases d with
  | str x => cases h
  | _ => exact key
theorem mulw {i j : Int} (hi : 0 ≤ i ∧ i < 10000000000000000000) (hj : 0 ≤ j ∧ j < 10000000000000000000) : CMulW i j := by
  have key : ∀ i : Int, 0 ≤ i ∧ i < 10000000000000000000 → i.natAbs.log2 < 100 := fun i hi => by
    by_cases z : i.natAbs = 0
    · rw [z]; decide
    · have := (Nat.log2_lt (k := 64) z).mpr (by omega); omega
  have := key i hi
  have := key j hj
  unfold CMulW
  omega
theorem divw {i j : Int} (h : 0 < j ∧ j ≤ 1000000000) : CDivW i j := by
  refine ⟨h.1, ?_⟩
  by_cases z : j.natAbs = 0
  · omega
  · have : j.natAbs.log2 < 61 := by rw [Nat.log2_lt z]; omega
    omega
theorem z1 : 1 ≤ sizeLine := by decide
theorem z2 : 2 ≤ sizeLine := by decide
theorem fm_map {α β : Type} {f : α → Option β} {g : α → β} : ∀ (l : List α), (∀ x, x ∈ l → f x = some (g x)) → l.filterMap f = l.map g
  | [], _ => rfl
  | x :: r, h => by rw [List.filterMap_cons, h x List.mem_cons_self, List.map_cons, fm_map r fun y hy => h y (List.mem_cons_of_mem _ hy)]
theorem compI_filt {α : Type} {t : WPg} {tt : WPt} {te : WPe} {g : Sto → Prop} {env : DE} {S : Sto} {Q : List D → Sto → Prop} (xs : List α) (f v : α → D) (p : α → Bool) (hg : g S)
    (h : ∀ a, a ∈ xs → ∀ R : Option D → Sto → Prop, R (if p a = true then some (v a) else none) S → t (f a) env fun e => tt e S (fun b S1 => if b = true then te e S1 (fun y S2 => R (some y) S2) X0 else R none S1) X0)
    (hq : Q ((xs.filter p).map v) S) : compI t tt te g env (xs.map f) S Q := by
  refine compI_inv (fun i acc S' => S' = S ∧ acc = ((xs.take i).filter p).map v) ⟨rfl, by simp⟩ (fun i acc S' hh => by rw [hh.1]; exact hg) ?_ ?_
  · rintro i d acc S' hi ⟨rfl, rfl⟩
    rw [List.getElem?_map] at hi
    obtain ⟨a, ha, rfl⟩ := Option.map_eq_some_iff.mp hi
    have et : xs.take (i + 1) = xs.take i ++ [a] := by rw [List.take_add_one, ha]; rfl
    refine h a (List.mem_of_getElem? ha) (fun o S2 => match o with | some y => S2 = S' ∧ ((xs.take i).filter p).map v ++ [y] = ((xs.take (i + 1)).filter p).map v | none => S2 = S' ∧ ((xs.take i).filter p).map v = ((xs.take (i + 1)).filter p).map v) ?_
    rw [et, List.filter_append, List.map_append]
    by_cases z : p a = true
    · rw [if_pos z]
      exact ⟨rfl, by rw [List.filter_cons_of_pos z]; rfl⟩
    · rw [if_neg z]
      exact ⟨rfl, by rw [List.filter_cons_of_neg z]; simp⟩
  · rintro acc S' ⟨rfl, rfl⟩
    rw [List.length_map, List.take_length]
    exact hq
theorem compI_vals {α : Type} {t : WPg} {te : WPe} {g : Sto → Prop} {env : DE} {S : Sto} {Q : List D → Sto → Prop} (xs : List α) (f v : α → D) (hg : g S)
    (h : ∀ a, a ∈ xs → ∀ R : D → Sto → Prop, R (v a) S → t (f a) env fun e => te e S R X0)
    (hq : Q (xs.map v) S) : compI t wYes te g env (xs.map f) S Q := by
  refine compI_filt xs f v (fun _ => true) hg (fun a ha R hR => ?_) (by rw [List.filter_eq_self.mpr fun _ _ => rfl]; exact hq)
  have := h a ha (fun y S2 => R (some y) S2) hR
  simpa [wYes] using this
theorem rng_eq {n : Nat} : rngD 0 n = (List.range n).map fun (i : Nat) => D.int (i : Int) := by
  unfold rngD
  exact List.map_congr_left fun i _ => by rw [Int.zero_add]
theorem prime_pos {w L : Nat} {n : NetV} (h : NetOk w L n) : 0 < n.prime ∧ 2 ≤ n.prime ∧ n.prime ≤ 97 := by
  have := h.pr
  simp only [thePrimes, List.mem_cons, List.not_mem_nil, or_false] at this
  omega
theorem kt1 : kitB "NoneType" "int" = some false := by decide +kernel
theorem kt4 : kitB "str" "int" = some false := by decide +kernel
theorem kt5 : kitB "tuple" "int" = some false := by decide +kernel
theorem kt6 : kitB "list" "int" = some false := by decide +kernel
/-- a value of a known class -/
theorem kn_cases {S : Sto} {d : D} (h : Kn S d) : d = .non ∨ (∃ b, d = .bl b) ∨ (∃ i, d = .int i) ∨ (∃ x, d = .str x) ∨ (∃ xs, d = .tup xs) ∨ (tyN S d = some "list" ∧ ∃ xs, seqL S d = some xs ∧ seqA S d = some xs) := by
  obtain ⟨n, h⟩ := h
  have key : (seqL S d).map (fun _ => "list") = some n → seqA S d = seqL S d → tyN S d = (seqL S d).map (fun _ => "list") → (tyN S d = some "list" ∧ ∃ xs, seqL S d = some xs ∧ seqA S d = some xs) := fun h1 h2 h3 => by
    cases e : seqL S d with
    | none => rw [e] at h1; cases h1
    | some xs => exact ⟨by rw [h3, e]; rfl, xs, rfl, by rw [h2, e]⟩
  cases d with
  | non => exact .inl rfl
  | bl b => exact .inr (.inl ⟨b, rfl⟩)
  | int i => exact .inr (.inr (.inl ⟨i, rfl⟩))
  | str x => exact .inr (.inr (.inr (.inl ⟨x, rfl⟩)))
  | tup xs => exact .inr (.inr (.inr (.inr (.inl ⟨xs, rfl⟩))))
  | lst xs => exact .inr (.inr (.inr (.inr (.inr (key h rfl rfl)))))
  | ref a => exact .inr (.inr (.inr (.inr (.inr (key h rfl rfl)))))
  | fro xs => exact .inr (.inr (.inr (.inr (.inr (key h rfl rfl)))))
  | obj C N xs => exact .inr (.inr (.inr (.inr (.inr (key h rfl rfl)))))
  | exc a dd C f x => exact .inr (.inr (.inr (.inr (.inr (key h rfl rfl)))))
theorem list_not_in {S : Sto} {d : D} {l m : Int} (h : tyN S d = some "list") : inR l m d = false := by
  cases d with
  | int i => exact absurd (Option.some.inj (show some "int" = some "list" from h)) (by decide)
  | _ => rfl
theorem kn_int {S : Sto} (i : Int) : Kn S (.int i) := ⟨_, rfl⟩
theorem isLet_int {L : Nat} {i : Int} (h : 0 ≤ i ∧ i < (L : Int)) : isLet L (.int i) = true := decide_eq_true (by omega)
theorem lets_let {L : Nat} {v : Vec} (h : LetsOk L v) : ∀ d, d ∈ v.map D.int → isLet L d = true := fun d hd => by
  obtain ⟨i, hi, rfl⟩ := List.mem_map.mp hd
  exact isLet_int (h i hi)
/-! ### asks of plain letters -/
end K12
set_option Elab.async false
set_option linter.all false
set_option maxRecDepth 100000
set_option maxHeartbeats 1000000
namespace K12
open PySem PySem.Spec PyProof.Rows L2 DL
theorem zipD_ints {a b : Vec} : zipD (a.map D.int) (b.map D.int) = (a.zip b).map fun p => D.tup [.int p.1, .int p.2] := by
  unfold zipD
  rw [List.zip_map, List.map_map]
  rfl
theorem psum_zip (a b : Vec) : psum a b = ((a.zip b).map fun p => p.1 * p.2).sum := by
  unfold psum
  rw [List.zip, List.map_zipWith]
theorem zip_mem {a b : Vec} {p : Int × Int} (h : p ∈ a.zip b) : p.1 ∈ a ∧ p.2 ∈ b := ⟨(List.of_mem_zip h).1, (List.of_mem_zip h).2⟩
theorem seqA_dR2 {S : Sto} {k : Bool} {xs : List Int} : seqA S (dR k xs) = some (xs.map D.int) := seqA_dR
theorem plusF_zip (p : Int) (a b : Vec) : plusF p a b = (a.zip b).map fun q => (q.1 + q.2) % p := by
  unfold plusF
  rw [List.zip, List.map_zipWith]
theorem len_is_between (c : Cl) : ∀ ds S Q E, sp_is_between c ds S Q E → ds.length = 3 := by
  rintro ds S Q E ⟨_, _, _, rfl, _⟩; rfl
theorem rd_is_between (c : Cl) : ∀ ds S Q X1, sp_is_between c ds S Q X1 → w_is_between c (startD N_is_between_ ds) S (endQ Q X1) := by
  rintro ds S Q X1 ⟨d, l, m, rfl, hk, h⟩
  show w_is_between c [some d, some (.int l), some (.int m)] S (endQ Q X1)
  unfold w_is_between
  simp only [wRet, wAndV, wIsi, wNotV, wVar, getV, some!]
  rcases kn_cases hk with rfl | ⟨b, rfl⟩ | ⟨v, rfl⟩ | ⟨x, rfl⟩ | ⟨xs, rfl⟩ | ⟨e1, xs, e2, e3⟩
  · simp only [tyN, kt1, Bool.false_eq_true, if_false]; exact h
  · simp only [tyN, kt2, kt7, if_true, Bool.not_true, Bool.false_eq_true, if_false]; exact h
  · simp only [tyN, kt3, kt8, if_true, Bool.not_false, wChain, wVar, getV, some!, oLe, oI0, decide_eq_true_eq]
    unfold inR at h
    dsimp only at h
    by_cases z : l ≤ v
    · rw [if_pos z]
      by_cases y : v ≤ m
      · rw [decide_eq_true y]; rw [decide_eq_true (⟨z, y⟩ : l ≤ v ∧ v ≤ m)] at h; exact h
      · rw [decide_eq_false y]; rw [decide_eq_false (fun x : l ≤ v ∧ v ≤ m => y x.2)] at h; exact h
    · rw [if_neg z]; rw [decide_eq_false (fun x : l ≤ v ∧ v ≤ m => z x.1)] at h; exact h
  · simp only [tyN, kt4, Bool.false_eq_true, if_false]; exact h
  · simp only [tyN, kt5, Bool.false_eq_true, if_false]; exact h
  · rw [list_not_in e1] at h
    simp only [e1, kt6, Bool.false_eq_true, if_false]; exact h
end K12
set_option Elab.async false
set_option linter.all false
set_option maxRecDepth 100000
set_option maxHeartbeats 1000000
namespace K12
open PySem PySem.Spec PyProof.Rows L2 DL
theorem seqA_ext {S S' : Sto} {d : D} {xs : List D} (e : Ext S S') (h : seqA S d = some xs) : seqA S' d = some xs := by
  cases d with
  | ref a =>
    have h' : (match S a with | some (MO.lst xs) => some xs | _ => none) = some xs := h
    show (match S' a with | some (MO.lst xs) => some xs | _ => none) = some xs
    cases q : S a with
    | none => rw [q] at h'; cases h'
    | some m => rw [e a m q]; rw [q] at h'; exact h'
  | _ => exact h
/-! ### bounds, widths -/
theorem psum_bd : ∀ {a b : Vec}, Sm a → Sm b → 0 ≤ psum a b ∧ psum a b ≤ 1000000000000 * (a.length : Int)
  | [], b, _, _ => by unfold psum; simp
  | x :: r, [], _, _ => by unfold psum; simp; omega
  | x :: r, y :: s, ha, hb => by
    have h1 := ha x List.mem_cons_self
    have h2 := hb y List.mem_cons_self
    have ih := psum_bd (a := r) (b := s) (fun z hz => ha z (List.mem_cons_of_mem _ hz)) fun z hz => hb z (List.mem_cons_of_mem _ hz)
    have e : psum (x :: r) (y :: s) = x * y + psum r s := by unfold psum; rw [List.zipWith_cons_cons, List.sum_cons]
    have h3 : 0 ≤ x * y := Int.mul_nonneg h1.1 h2.1
    have h4 : x * y ≤ 1000000 * 1000000 := Int.mul_le_mul (by omega) (by omega) h2.1 (by omega)
    rw [e, List.length_cons]
    omega
theorem sm_mod {p x : Int} (h : 0 < p ∧ p ≤ 97) : 0 ≤ x % p ∧ x % p < 97 := by
  have := Int.emod_nonneg x (show p ≠ 0 by omega)
  have := Int.emod_lt_of_pos x h.1
  omega
def Sm97 (v : Vec) : Prop := ∀ x, x ∈ v → 0 ≤ x ∧ x < 97
theorem Sm97.sm {v : Vec} (h : Sm97 v) : Sm v := fun x hx => by have := h x hx; omega
theorem sm_times {p : Int} {m : Mat} {v : Vec} (h : 0 < p ∧ p ≤ 97) : Sm97 (timesF p m v) := fun x hx => by
  unfold timesF at hx
  obtain ⟨r, _, rfl⟩ := List.mem_map.mp hx
  exact sm_mod h
theorem sm_plus {p : Int} {a b : Vec} (h : 0 < p ∧ p ≤ 97) : Sm97 (plusF p a b) := fun x hx => by
  rw [plusF_zip] at hx
  obtain ⟨q, _, rfl⟩ := List.mem_map.mp hx
  exact sm_mod h
theorem len_plus {p : Int} {a b : Vec} : (plusF p a b).length = min a.length b.length := by
  unfold plusF; rw [List.length_zipWith]
theorem len_times {p : Int} {m : Mat} {v : Vec} : (timesF p m v).length = m.length := by unfold timesF; rw [List.length_map]
theorem sm_sq {v : Vec} (h : Sm97 v) : Sm (v.map fun n => n * n) := fun x hx => by
  obtain ⟨y, hy, rfl⟩ := List.mem_map.mp hx
  have h1 := h y hy
  have h3 : 0 ≤ y * y := Int.mul_nonneg h1.1 h1.1
  have h4 : y * y ≤ 97 * 97 := Int.mul_le_mul (by omega) (by omega) h1.1 (by omega)
  omega
theorem len_look {p : Int} {q : Vec} {w : Nat} : ∀ {pairs : List (Vec × Vec)}, q.length = w → (∀ x, x ∈ pairs → x.2.length = w) → (lookF p q pairs).length = w := by
  intro pairs hq hp
  unfold lookF
  have key : ∀ (ps : List (Vec × Vec)) (f : Vec), (∀ x, x ∈ ps → x.2.length = w) → f.length = w → (ps.foldl (fun f kv => plusF p f (kv.2.map (psum q kv.1 * ·))) f).length = w := by
    intro ps
    induction ps with
    | nil => exact fun f _ h => h
    | cons x r ih =>
      intro f h1 h2
      refine ih _ (fun y hy => h1 y (List.mem_cons_of_mem _ hy)) ?_
      rw [len_plus, List.length_map, h2, h1 x List.mem_cons_self, Nat.min_self]
  exact key pairs _ hp (by rw [List.length_map]; exact hq)
theorem look_snoc {p : Int} {q : Vec} {pairs : List (Vec × Vec)} {k : Nat} {x : Vec × Vec} (h : pairs[k]? = some x) : lookF p q (pairs.take (k + 1)) = plusF p (lookF p q (pairs.take k)) (x.2.map (psum q x.1 * ·)) := by
  unfold lookF
  rw [List.take_add_one, h, List.foldl_append]
  rfl
theorem sm_look {p : Int} {q : Vec} {pairs : List (Vec × Vec)} (h : 0 < p ∧ p ≤ 97) : Sm97 (lookF p q pairs) := by
  unfold lookF
  have key : ∀ (ps : List (Vec × Vec)) (f : Vec), Sm97 f → Sm97 (ps.foldl (fun f kv => plusF p f (kv.2.map (psum q kv.1 * ·))) f) := by
    intro ps
    induction ps with
    | nil => exact fun f h => h
    | cons x r ih => exact fun f _ => ih _ (sm_plus h)
  exact key pairs _ fun x hx => by
    obtain ⟨_, _, rfl⟩ := List.mem_map.mp hx
    omega
/-! ### looked_at -/
theorem ints_map {v : Vec} {f : Int → Int} : v.map (fun x => D.int (f x)) = (v.map f).map D.int := by rw [List.map_map]; rfl
end K12
set_option Elab.async false
set_option linter.all false
set_option maxRecDepth 100000
set_option maxHeartbeats 1000000
namespace K12
open PySem PySem.Spec PyProof.Rows L2 DL
def W97 (w : Nat) (v : Vec) : Prop := v.length = w ∧ Sm97 v
theorem W97.wd {w : Nat} {v : Vec} (h : W97 w v) : Wd w v := ⟨h.1, h.2.sm⟩
structure StOk (w : Nat) (st : List (Vec × Vec) × Vec) : Prop where
  x : W97 w st.2
  pa : ∀ p, p ∈ st.1 → W97 w p.1 ∧ W97 w p.2
theorem w97_times {w : Nat} {p : Int} {m : Mat} {v : Vec} (hp : 0 < p ∧ p ≤ 97) (h : m.length = w) : W97 w (timesF p m v) := ⟨by rw [len_times]; exact h, sm_times hp⟩
theorem w97_plus {w : Nat} {p : Int} {a b : Vec} (hp : 0 < p ∧ p ≤ 97) (ha : a.length = w) (hb : b.length = w) : W97 w (plusF p a b) := ⟨by rw [len_plus, ha, hb, Nat.min_self], sm_plus hp⟩
theorem before_ok {w L m i : Nat} {rows : List Rw} (h : RowsOk w L m rows) (hi : i < m) : ∀ q, q ∈ beforeF rows i → Wd w q.1 ∧ Wd w q.2 := fun q hq => by
  unfold beforeF at hq
  obtain ⟨r, hr, rfl⟩ := List.mem_map.mp hq
  obtain ⟨⟨l, a⟩, _⟩ := h.2 r hr
  have hl : i < r.pairs.length := by omega
  rw [List.getD_eq_getElem?_getD, List.getElem?_eq_getElem hl]
  exact a _ (List.getElem_mem hl)
theorem step_ok {w L m : Nat} {p : Int} {rows : List Rw} {st : List (Vec × Vec) × Vec} {l : Lay} (hp : 0 < p ∧ p ≤ 97) (hr : RowsOk w L m rows) (hi : st.1.length < m) (hl : LayOk w l) (h : StOk w st) : StOk w (stepL p rows st l) := by
  obtain ⟨h1, h2, h3, h4, h5⟩ := hl
  have hk := w97_times (v := st.2) hp h2.1
  have hv := w97_times (v := st.2) hp h3.1
  have hq := w97_times (v := st.2) hp h1.1
  have hlook : (lookF p (timesF p l.q st.2) (beforeF rows st.1.length ++ [pairF p l st.2])).length = w := len_look hq.1 fun x hx => by
    rcases List.mem_append.mp hx with z | z
    · exact (before_ok hr hi x z).2.1
    · rw [List.mem_singleton] at z; subst z; exact hv.1
  have hx1 := w97_plus (b := lookF p (timesF p l.q st.2) (beforeF rows st.1.length ++ [pairF p l st.2])) hp h.x.1 hlook
  refine ⟨w97_plus hp hx1.1 (by rw [len_times]; exact h5.1), fun q hq => ?_⟩
  rcases List.mem_append.mp hq with z | z
  · exact h.pa q z
  · rw [List.mem_singleton] at z; subst z; exact ⟨hk, hv⟩
theorem fold_snoc {α β : Type} {f : β → α → β} {xs : List α} {i : Nat} {x : α} {b : β} (h : xs[i]? = some x) : (xs.take (i + 1)).foldl f b = f ((xs.take i).foldl f b) x := by
  rw [List.take_add_one, h, List.foldl_append]
  rfl
theorem fold_len {p : Int} {rows : List Rw} : ∀ (ls : List Lay) (st : List (Vec × Vec) × Vec), (ls.foldl (stepL p rows) st).1.length = st.1.length + ls.length
  | [], st => rfl
  | l :: r, st => by
    rw [List.foldl_cons, fold_len r]
    show (st.1 ++ [_]).length + _ = _
    simp only [List.length_append, List.length_cons, List.length_nil]; omega
theorem fold_ok {w L m : Nat} {p : Int} {rows : List Rw} (hp : 0 < p ∧ p ≤ 97) (hr : RowsOk w L m rows) : ∀ (ls : List Lay) (st : List (Vec × Vec) × Vec), (∀ l, l ∈ ls → LayOk w l) → st.1.length + ls.length ≤ m → StOk w st → StOk w (ls.foldl (stepL p rows) st)
  | [], st, _, _, h => h
  | l :: r, st, hl, hm, h => by
    rw [List.length_cons] at hm
    rw [List.foldl_cons]
    refine fold_ok hp hr r _ (fun x hx => hl x (List.mem_cons_of_mem _ hx)) ?_ (step_ok hp hr (by omega) (hl l List.mem_cons_self) h)
    show (st.1 ++ [_]).length + _ ≤ _
    rw [List.length_append, List.length_singleton]; omega
theorem x0_ok {w L : Nat} {n : NetV} {rows : List Rw} {l : Int} (hn : NetOk w L n) (hl : 0 ≤ l ∧ l < (L : Int)) : W97 w (x0F n rows l) := by
  have hp := prime_pos hn
  have hlt : l.toNat < n.embed.length := by have := hn.em.1; omega
  refine w97_plus ⟨hp.1, hp.2.2⟩ ?_ (by rw [List.length_map]; exact hn.sh.1)
  rw [List.getD_eq_getElem?_getD, List.getElem?_eq_getElem hlt]
  exact (hn.em.2 _ (List.getElem_mem hlt)).1
theorem row_ok {w L : Nat} {n : NetV} {rows : List Rw} {l : Int} (hn : NetOk w L n) (hr : RowsOk w L n.layers.length rows) (hl : 0 ≤ l ∧ l < (L : Int)) : RwOk w L n.layers.length (rowF n rows l) := by
  have hp := prime_pos hn
  have hp' : 0 < n.prime ∧ n.prime ≤ 97 := ⟨hp.1, hp.2.2⟩
  have ok := fold_ok hp' hr n.layers ([], x0F n rows l) hn.la.2 (by simp) ⟨x0_ok hn hl, fun p h => by cases h⟩
  refine ⟨⟨by show (n.layers.foldl (stepL n.prime rows) ([], x0F n rows l)).1.length = _; rw [fold_len]; simp, fun p h => ⟨(ok.pa p h).1.wd, (ok.pa p h).2.wd⟩⟩, by show (n.out.map _).length = L; rw [List.length_map]; exact hn.ou.1, fun x hx => ?_⟩
  obtain ⟨v, _, rfl⟩ := List.mem_map.mp hx
  have := sm_mod (x := psum v (n.layers.foldl (stepL n.prime rows) ([], x0F n rows l)).2) hp'
  omega
end K12
set_option Elab.async false
set_option linter.all false
set_option maxRecDepth 100000
set_option maxHeartbeats 1000000
namespace K12
open PySem PySem.Spec PyProof.Rows L2 DL
theorem at_last {α : Type} {xs : List α} {x : α} (h : xs.getLast? = some x) : atI xs (-1) = some x := by
  have hne : xs ≠ [] := fun z => by rw [z] at h; cases h
  have hl := List.length_pos_iff.mpr hne
  have key : ixN xs.length (-1) = some (xs.length - 1) := by
    unfold ixN
    rw [if_neg (by decide)]
    first
      | (rw [if_pos (by omega)]; congr 1; omega)
      | (simp; omega)
  unfold atI
  rw [key]
  show xs[xs.length - 1]? = some x
  rw [← List.getLast?_eq_getElem?]; exact h
theorem rowsF_snoc (n : NetV) (ls : Vec) (l : Int) : rowsF n (ls ++ [l]) = rowsF n ls ++ [rowF n (rowsF n ls) l] := by
  unfold rowsF; rw [List.foldl_append]; rfl
theorem rowsF_take {n : NetV} {ls : Vec} {i : Nat} {l : Int} (h : ls[i]? = some l) : rowsF n (ls.take (i + 1)) = rowsF n (ls.take i) ++ [rowF n (rowsF n (ls.take i)) l] := by
  rw [List.take_add_one, h]; exact rowsF_snoc ..
theorem rowsF_len (n : NetV) (ls : Vec) : (rowsF n ls).length = ls.length := by
  have key : ∀ k, (rowsF n (ls.take k)).length = (ls.take k).length := by
    intro k
    induction k with
    | zero => rfl
    | succ k ih =>
      cases h : ls[k]? with
      | none =>
        have hl := List.getElem?_eq_none_iff.mp h
        rw [List.take_of_length_le (by omega : ls.length ≤ k + 1)]
        rw [List.take_of_length_le hl] at ih; exact ih
      | some l =>
        rw [rowsF_take h, List.length_append, ih, List.take_add_one, h, List.length_append]; rfl
  have := key ls.length
  rwa [List.take_length] at this
theorem rowsF_ok {w L : Nat} {n : NetV} {ls : Vec} (hn : NetOk w L n) (hl : LetsOk L ls) (h50 : ls.length ≤ 100) : ∀ k, RowsOk w L n.layers.length (rowsF n (ls.take k)) := by
  intro k
  induction k with
  | zero => exact ⟨Nat.zero_le _, fun r h => by cases h⟩
  | succ k ih =>
    refine ⟨by rw [rowsF_len, List.length_take]; omega, fun r hr => ?_⟩
    cases h : ls[k]? with
    | none =>
      have hl := List.getElem?_eq_none_iff.mp h
      rw [List.take_of_length_le (by omega : ls.length ≤ k + 1)] at hr
      rw [List.take_of_length_le hl] at ih; exact ih.2 r hr
    | some l =>
      rw [rowsF_take h] at hr
      rcases List.mem_append.mp hr with z | z
      · exact ih.2 r z
      · rw [List.mem_singleton] at z; subst z
        exact row_ok hn ih (hl l (List.mem_of_getElem? h))
theorem setD_at {S : Sto} {a C : Addr} {N : List Str} {xs : DE} {i : Nat} {d : D} {k : Sto → Prop} (h : S a = some (.ins C N xs)) (q : k (put S a (.ins C N (setV xs i d)))) : setD C N i S (.ref a) d k := by
  show (match S a with | some (MO.ins C' N' xs) => _ | _ => False)
  rw [h]
  exact ⟨⟨rfl, rfl⟩, q⟩
end K12
set_option Elab.async false
set_option linter.all false
set_option maxRecDepth 100000
set_option maxHeartbeats 1000000
namespace K12
open PySem PySem.Spec PyProof.Rows L2 DL
theorem abs_nn (x : Int) : 0 ≤ (if x < 0 then -x else x) := by split <;> omega
theorem e1018 : (10 : Int) ^ Int.toNat 18 = 1000000000000000000 := by decide +kernel
theorem len__law_numbers (c : Cl) : ∀ ds S Q E, sp__law_numbers c ds S Q E → ds.length = 3 := by
  rintro ds S Q E ⟨_, _, _, rfl, _⟩; rfl
theorem rd__law_numbers (c : Cl) : ∀ ds S Q X1, sp__law_numbers c ds S Q X1 → w__law_numbers c (startD N__law_numbers_ ds) S (endQ Q X1) := by
  rintro ds S Q X1 ⟨cell, at_, many, rfl, hat_, hm, h⟩
  show w__law_numbers c [some (.int cell), some (.int at_), some (.int (many : Nat)), none, none, none, none, none] S (endQ Q X1)
  unfold w__law_numbers
  refine seq_k fun q1 n1 r1 _ _ x1 => ?_
  simp only [wSet, wBin, wCB, wCons, wNil, wVar, wC, getV, setV, some!, oInt, oAbs, one, oPow, oI, oGe, oI0, e1018]
  refine ⟨by unfold CPow; decide, n1 _ _ ?_⟩
  refine seq_k fun q1 n1 r1 _ _ x1 => ?_
  simp only [wSet, wBin, wCB, wCons, wNil, wVar, wC, getV, setV, some!, oInt, oAbs, one, oMulS, oI, oLt, oI0, oAdd]
  have ha := abs_nn cell
  generalize (if cell < 0 then -cell else cell) = ab at ha
  refine ⟨.inl (by decide), n1 _ _ ?_⟩
  obtain ⟨rest, hrest, r0, r9⟩ : ∃ rest : Int, 2 * ab + (if decide (cell < 0) = true then 1 else 0) = rest ∧ 0 ≤ rest ∧ (decide (1000000000000000000 ≤ ab) = false → rest < 10000000000000000000) := ⟨_, rfl, by split <;> omega, fun hd => by
    have := of_decide_eq_false hd
    split <;> omega⟩
  rw [hrest]
  generalize decide (1000000000000000000 ≤ ab) = great at r9
  refine seq_k fun q1 n1 r1 _ _ x1 => ?_
  simp only [wSet, wLstM, wNil, setV]
  refine ⟨Nat.zero_le _, fun p hp => n1 _ _ ?_⟩
  have E := ext_put (m := .lst []) (ext_refl S) hp
  have hat : put S p (.lst []) p = some (.lst (([] : Vec).map D.int)) := put_same
  generalize put S p (.lst []) = S1 at E hat
  refine seq_k fun q1 n1 r1 _ _ x1 => ?_
  simp only [wFor, wRg1, wVar, getV, some!, asI]
  refine ⟨⟨by omega, by omega⟩, ?_⟩
  rw [Int.toNat_natCast]
  refine forI_invq (fun k e S' => ∃ (ns : Vec) (rest : Int) (x6 x7 : Option D), Ext S S' ∧ S' p = some (.lst (ns.map D.int)) ∧ NumsOk k ns ∧ 0 ≤ rest ∧ (great = false → rest < 10000000000000000000) ∧
    e = [some (.int cell), some (.int at_), some (.int (many : Nat)), some (.bl great), some (.int rest), some (.ref p), x6, x7]) ⟨[], rest, none, none, E, hat, ⟨rfl, fun x h => by cases h⟩, r0, r9, rfl⟩ (fun _ _ _ _ => trivial) ?_ ?_
  · rintro k d e S' hi ⟨ns, rest, x6, x7, E, hat, hns, r0, r9, rfl⟩ q hq _ _ _ _
    obtain ⟨hlt, rfl⟩ := rngD_get hi
    rw [Int.zero_add]
    have more : ∀ x : Int, 0 ≤ x ∧ x < 1000 → NumsOk (k + 1) (ns ++ [x]) := fun x hx => ⟨by rw [List.length_append, hns.1]; rfl, fun y hy => by
      rcases List.mem_append.mp hy with z | z
      · exact hns.2 y z
      · rw [List.mem_singleton] at z; subst z; exact hx⟩
    have m1000 : ∀ x : Int, 0 ≤ x % 1000 ∧ x % 1000 < 1000 := fun x => ⟨Int.emod_nonneg _ (by decide), Int.emod_lt_of_pos _ (by decide)⟩
    have hsz : ns.length < sizeLine := by have := hns.1; unfold sizeLine; omega
    simp only [gN, setV, wIf, wTest, wVar, getV, some!]
    cases great with
    | true =>
      simp only [if_true]
      refine seq_k fun q1 n1 r1 _ _ x1 => ?_
      simp only [wDrop, wMt, wCons, wNil, wBin, wCB, wVar, wC, getV, some!, mutL, hat, oInt, one, oMod, oI, oAppend, List.length_map]
      refine ⟨by decide, hsz, n1 _ _ ?_⟩
      simp only [wSet, wBin, wVar, wC, getV, setV, some!, oDiv, oI]
      refine ⟨divw (by decide), hq _ _ ⟨_, rest / 1000, _, _, ext_chg E (ext_none (ext_refl S) hp), by rw [put_same, List.map_append]; rfl, more _ (m1000 _), Int.ediv_nonneg r0 (by decide), fun z => (by cases z), rfl⟩⟩
    | false =>
      simp only [Bool.false_eq_true, if_false]
      have r9 := r9 rfl
      have hm1 : ∀ x : Int, 0 ≤ x % 2147483647 ∧ x % 2147483647 < 2147483647 := fun x => ⟨Int.emod_nonneg _ (by decide), Int.emod_lt_of_pos _ (by decide)⟩
      have hm2 : ∀ x : Int, 0 ≤ x % 2147483629 ∧ x % 2147483629 < 2147483629 := fun x => ⟨Int.emod_nonneg _ (by decide), Int.emod_lt_of_pos _ (by decide)⟩
      refine seq_k fun q1 n1 r1 _ _ x1 => ?_
      simp only [wSet, wBin, wCB, wCons, wNil, wVar, wC, getV, setV, some!, oMul, oMod, oI, oAdd, oInt, one]
      refine ⟨mulw ⟨r0, r9⟩ (by decide), mulw ⟨by omega, by omega⟩ (by decide), mulw ⟨by omega, by omega⟩ (by decide), by decide, n1 _ _ ?_⟩
      have y0 := hm1 (rest * 48271 + at_ * 69621 + (k : Int) * 16807 + 7)
      generalize (rest * 48271 + at_ * 69621 + (k : Int) * 16807 + 7) % 2147483647 = y at y0
      refine seq_k fun q1 n1 r1 _ _ x1 => ?_
      simp only [wSet, wBin, wCB, wCons, wNil, wVar, wC, getV, setV, some!, oMul, oMod, oI, oAdd, oInt, one]
      refine ⟨mulw ⟨y0.1, by omega⟩ ⟨y0.1, by omega⟩, mulw ⟨by omega, by omega⟩ (by decide), by decide, n1 _ _ ?_⟩
      have y1 := hm2 (y * y + (k : Int) * 40692 + 3)
      generalize (y * y + (k : Int) * 40692 + 3) % 2147483629 = y at y1
      refine seq_k fun q1 n1 r1 _ _ x1 => ?_
      simp only [wSet, wBin, wCB, wCons, wNil, wVar, wC, getV, setV, some!, oMul, oMod, oI, oAdd, oInt, one]
      refine ⟨mulw ⟨y1.1, by omega⟩ ⟨y1.1, by omega⟩, mulw ⟨by omega, by omega⟩ (by decide), by decide, n1 _ _ ?_⟩
      simp only [wDrop, wMt, wCons, wNil, wBin, wCB, wVar, wC, getV, some!, mutL, hat, oInt, one, oMod, oDiv, oI, oAppend, List.length_map]
      exact ⟨divw (by decide), by decide, hsz, hq _ _ ⟨_, rest, _, _, ext_chg E (ext_none (ext_refl S) hp), by rw [put_same, List.map_append]; rfl, more _ (m1000 _), r0, fun _ => r9, rfl⟩⟩
  · rintro e S' ⟨ns, rest, x6, x7, E, hat, hns, r0, r9, rfl⟩
    rw [rngD_length] at hns
    refine n1 _ _ ?_
    simp only [wRet, wFrz, wVar, getV, some!, frzD, hat]
    exact h ns hns _ (ext_del E (ext_none (ext_refl S) hp))
/-! ### sameness -/
theorem kb1 : kitB "tuple" "tuple" = some true := by decide +kernel
theorem kb3 : kitB "bool" "str" = some false := by decide +kernel
theorem kb4 : kitB "int" "str" = some false := by decide +kernel
theorem kb5 : kitB "str" "str" = some true := by decide +kernel
theorem kb6 : kitB "tuple" "str" = some false := by decide +kernel
theorem kb7 : kitB "tuple" "bool" = some false := by decide +kernel
theorem kb8 : kitB "tuple" "int" = some false := by decide +kernel
theorem eqD_refl {S : Sto} {d : D} (h : shD S d = true) : eqD S d d = true := SeqAt.eqv_refl _ (SeqAt.canLay_of_shaped h)
theorem sh_str {S : Sto} {x : Str} (h : PyData.strOk x = true) : shD S (.str x) = true := by
  show ((PyData.str x).canLay0 && decide ((PyData.str x).depth ≤ 64)) = true
  simp [PyData.canLay0, PyData.depth, h]
theorem len__law_same_n (c : Cl) (n : Nat) : ∀ ds S Q E, sp__law_same_n c n ds S Q E → ds.length = 2 := by
  intro ds S Q E h
  cases n with
  | zero => exact h.elim
  | succ n => obtain ⟨_, rfl, _⟩ := h; rfl
theorem rd__law_same (c : Cl) (n : Nat) : ∀ ds S Q X1, sp__law_same_n c (n + 1) ds S Q X1 → w__law_same c n (startD N__law_same_ ds) S (endQ Q X1) := by
  rintro ds S Q X1 ⟨d, rfl, hp, h⟩
  show w__law_same c n [some d, some d, none] S (endQ Q X1)
  unfold w__law_same
  refine seq_k fun q1 n1 r1 _ _ x1 => ?_
  have non_no : DL.isNon d = false → (wIf (wTest (wBin oIsN (wVar 1) (wC .non))) (wRet (wBin oIsN (wVar 0) (wC .non))) wNext) [some d, some d, none] S q1 = q1.nx [some d, some d, none] S := fun hd => by
    simp only [wIf, wTest, wBin, wVar, wC, getV, some!, oIsN, hd, Bool.false_eq_true, if_false, wNext]
  cases d with
  | non =>
    simp only [wIf, wTest, wBin, wVar, wC, getV, some!, oIsN, DL.isNon, if_true, wRet, r1]
    exact h
  | bl b =>
    rw [non_no rfl]
    refine n1 _ _ ?_
    refine seq_k fun q1 n1 r1 _ _ x1 => ?_
    simp only [wIf, wTest, wIsi, wVar, getV, some!, tyN, kb3, Bool.false_eq_true, if_false, wNext]
    refine n1 _ _ ?_
    refine seq_k fun q1 n1 r1 _ _ x1 => ?_
    simp only [wIf, wTest, wIsi, wVar, getV, some!, tyN, kt7, if_true, wRet, wAndV, wBin, oEq, shD_bl, eqD_bl, beq_self_eq_true, true_and, r1]
    exact h
  | int i =>
    rw [non_no rfl]
    refine n1 _ _ ?_
    refine seq_k fun q1 n1 r1 _ _ x1 => ?_
    simp only [wIf, wTest, wIsi, wVar, getV, some!, tyN, kb4, Bool.false_eq_true, if_false, wNext]
    refine n1 _ _ ?_
    refine seq_k fun q1 n1 r1 _ _ x1 => ?_
    simp only [wIf, wTest, wIsi, wVar, getV, some!, tyN, kt8, Bool.false_eq_true, if_false, wNext]
    refine n1 _ _ ?_
    refine seq_k fun q1 n1 r1 _ _ x1 => ?_
    simp only [wIf, wTest, wIsi, wVar, getV, some!, tyN, kt3, kt8, if_true, wRet, wAndV, wNotV, Bool.not_false, wBin, oEq, shD_int, eqD_int, decide_true, true_and, r1]
    exact h
  | str x =>
    rw [non_no rfl]
    refine n1 _ _ ?_
    refine seq_k fun q1 n1 r1 _ _ x1 => ?_
    have hs : shD S (.str x) = true := sh_str (by cases n <;> exact hp)
    simp only [wIf, wTest, wIsi, wVar, getV, some!, tyN, kb5, if_true, wRet, wAndV, wBin, oEq, hs, eqD_refl hs, true_and, r1]
    exact h
  | tup xs =>
    cases n with
    | zero => exact hp.elim
    | succ n =>
      obtain ⟨h1, h2⟩ := hp
      rw [non_no rfl]
      refine n1 _ _ ?_
      refine seq_k fun q1 n1 r1 _ _ x1 => ?_
      simp only [wIf, wTest, wIsi, wVar, getV, some!, tyN, kb6, Bool.false_eq_true, if_false, wNext]
      refine n1 _ _ ?_
      refine seq_k fun q1 n1 r1 _ _ x1 => ?_
      simp only [wIf, wTest, wIsi, wVar, getV, some!, tyN, kb7, Bool.false_eq_true, if_false, wNext]
      refine n1 _ _ ?_
      refine seq_k fun q1 n1 r1 _ _ x1 => ?_
      simp only [wIf, wTest, wIsi, wVar, getV, some!, tyN, kb8, Bool.false_eq_true, if_false, wNext]
      refine n1 _ _ ?_
      refine seq_k fun q1 n1 r1 _ _ x1 => ?_
      simp only [wIf, wOr, wNot, wTest, wIsi, wBin, wCB, wCons, wNil, wVar, getV, some!, tyN, kb1, Bool.not_true, Bool.false_eq_true, if_false, oLen, one, seqA, seqL, seqM, oNe, shD_int, eqD_int, decide_true, true_and, wNext]
      refine n1 _ _ ?_
      refine seq_k fun q1 n1 r1 _ _ x1 => ?_
      simp only [wFor, wRg1, wCB, wCons, wNil, wVar, getV, some!, oLen, one, seqA, seqL, seqM, asI]
      refine ⟨⟨by omega, by omega⟩, ?_⟩
      rw [Int.toNat_natCast]
      refine forI_invq (fun k e S' => S' = S ∧ ∃ x2, e = [some (.tup xs), some (.tup xs), x2]) ⟨rfl, _, rfl⟩ (fun _ _ _ _ => trivial) ?_ ?_
      · rintro k d e S' hi ⟨rfl, x2, rfl⟩ q hq _ _ _ _
        obtain ⟨hlt, rfl⟩ := rngD_get hi
        rw [Int.zero_add]
        obtain ⟨y, hy⟩ : ∃ y, xs[k]? = some y := ⟨_, List.getElem?_eq_getElem hlt⟩
        have a1 := fun Q => oIx_eq (S := S') (x := .tup xs) (i := (k : Int)) rfl (at_k hy) Q
        simp only [gN, setV, wIf, wNot, wTest, wCall, wBin, wCons, wNil, wVar, getV, some!, a1]
        refine ⟨y, rfl, h2 y (List.mem_of_getElem? hy), ?_⟩
        simp only [Bool.not_true, Bool.false_eq_true, if_false, wNext]
        exact hq _ _ ⟨rfl, _, rfl⟩
      · rintro e S' ⟨rfl, x2, rfl⟩
        refine n1 _ _ ?_
        simp only [wRet, wC]
        exact h
  | _ => exact absurd hp (by cases n <;> exact id)
theorem imp__law_same (c : Cl) : ∀ ds S Q X1, sp__law_same c ds S Q X1 → sp__law_same_n c 8 ds S Q X1 := fun ds S Q X1 h => h
/-! ### products -/
theorem len__law_dot (c : Cl) : ∀ ds S Q E, sp__law_dot c ds S Q E → ds.length = 3 := by
  rintro ds S Q E ⟨_, _, _, _, _, rfl, _⟩; rfl
theorem rd__law_dot (c : Cl) : ∀ ds S Q X1, sp__law_dot c ds S Q X1 → w__law_dot c (startD N__law_dot_ ds) S (endQ Q X1) := by
  rintro ds S Q X1 ⟨i, j, a, b, p, rfl, hab, hl, ha, hb, hp, h⟩
  show w__law_dot c [some (dR i a), some (dR j b), some (.int p), none, none] S (endQ Q X1)
  unfold w__law_dot
  refine seq_k fun q1 n1 r1 _ _ x1 => ?_
  simp only [wSet, wC, setV]
  refine n1 _ _ ?_
  refine seq_k fun q1 n1 r1 _ _ x1 => ?_
  have ol := fun (Q : Qd) => oLen_of (S := S) (d := dR i a) (Q := Q) seqA_dR
  simp only [wFor, wRg1, wCB, wCons, wNil, wVar, getV, some!]
  refine ol _ ?_
  simp only [asI, List.length_map]
  refine ⟨⟨by omega, by omega⟩, ?_⟩
  rw [Int.toNat_natCast]
  refine forI_invq (fun k e S' => S' = S ∧ ∃ x4, e = [some (dR i a), some (dR j b), some (.int p), some (.int (((a.zip b).take k).map fun p => p.1 * p.2).sum), x4]) ⟨rfl, _, rfl⟩ (fun _ _ _ _ => trivial) ?_ ?_
  · rintro k d e S' hi ⟨rfl, x4, rfl⟩ q hq _ _ _ _
    obtain ⟨hlt, rfl⟩ := rngD_get hi
    rw [Int.zero_add]
    obtain ⟨x, hx⟩ : ∃ x, a[k]? = some x := ⟨_, List.getElem?_eq_getElem hlt⟩
    obtain ⟨y, hy⟩ : ∃ y, b[k]? = some y := ⟨_, List.getElem?_eq_getElem (by omega)⟩
    have a1 := fun Q => oIx_eq (S := S') (x := dR i a) (i := (k : Int)) seqA_dR (at_k (by rw [List.getElem?_map, hx]; rfl)) Q
    have a2 := fun Q => oIx_eq (S := S') (x := dR j b) (i := (k : Int)) seqA_dR (at_k (by rw [List.getElem?_map, hy]; rfl)) Q
    have h1 := ha x (List.mem_of_getElem? hx)
    have h2 := hb y (List.mem_of_getElem? hy)
    simp only [gN, setV, wSet, wBin, wVar, getV, some!, a1, a2, oMul, oI, oAdd]
    refine ⟨mulw ⟨h1.1, by omega⟩ ⟨h2.1, by omega⟩, hq _ _ ⟨rfl, some (.int (k : Int)), ?_⟩⟩
    have hz : (a.zip b)[k]? = some (x, y) := List.getElem?_zip_eq_some.mpr ⟨hx, hy⟩
    rw [List.take_add_one, hz]
    simp
  · rintro e S' ⟨rfl, x4, rfl⟩
    refine n1 _ _ ?_
    rw [rngD_length, List.take_of_length_le (by rw [List.length_zip]; omega), ← psum_zip]
    simp only [wRet, wBin, wCB, wCons, wNil, wVar, getV, some!, oInt, one, oMod, oI]
    exact ⟨hp, h⟩
theorem len__law_times (c : Cl) : ∀ ds S Q E, sp__law_times c ds S Q E → ds.length = 3 := by
  rintro ds S Q E ⟨_, _, _, _, rfl, _⟩; rfl
theorem rd__law_times (c : Cl) : ∀ ds S Q X1, sp__law_times c ds S Q X1 → w__law_times c (startD N__law_times_ ds) S (endQ Q X1) := by
  rintro ds S Q X1 ⟨m, j, v, p, rfl, hm, hr, hl, hv, hp, h⟩
  show w__law_times c [some (dM m), some (dR j v), some (.int p), none] S (endQ Q X1)
  unfold w__law_times
  simp only [wRet, wLc, wIt, wVar, getV, some!, dM, seqA, delVs, delV, List.length_map]
  refine ⟨by unfold sizeLine; omega, compI_vals m dT (fun r => .int (psum r v % p)) trivial (fun r hr2 R hR => ?_) ?_⟩
  · simp only [gN, setV, wCall, wCons, wNil, wVar, getV, some!]
    have := hr r hr2
    exact ⟨true, j, r, v, p, rfl, this.1, by omega, this.2, hv, hp, hR⟩
  · have e : m.map (fun r => D.int (psum r v % p)) = (timesF p m v).map D.int := by unfold timesF; rw [List.map_map]; rfl
    rw [e]
    exact h
end K12
set_option Elab.async false
set_option linter.all false
set_option maxRecDepth 100000
set_option maxHeartbeats 1000000
namespace K12
open PySem PySem.Spec PyProof.Rows L2 DL
theorem len__law_vector (c : Cl) : ∀ ds S Q E, sp__law_vector c ds S Q E → ds.length = 4 := by
  rintro ds S Q E ⟨_, _, _, _, _, _, rfl, _⟩; rfl
theorem rd__law_vector (c : Cl) : ∀ ds S Q X1, sp__law_vector c ds S Q X1 → w__law_vector c (startD N__law_vector_ ds) S (endQ Q X1) := by
  rintro ds S Q X1 ⟨i, ns, m, k, w, p, rfl, hns, m0, m1000, hk, hw, hp, h⟩
  show w__law_vector c [some (dR i ns), some (.int k), some (.int (w : Nat)), some (.int p), none, none] S (endQ Q X1)
  unfold w__law_vector
  refine seq_k fun q1 n1 r1 _ _ x1 => ?_
  simp only [wSet, wLstM, wNil, setV]
  refine ⟨Nat.zero_le _, fun pt hpt => n1 _ _ ?_⟩
  have E := ext_put (m := .lst []) (ext_refl S) hpt
  have hat : put S pt (.lst []) pt = some (.lst (([] : Vec).map D.int)) := put_same
  generalize put S pt (.lst []) = S1 at E hat
  refine seq_k fun q1 n1 r1 _ _ x1 => ?_
  simp only [wFor, wRg2, wBin, wVar, getV, some!, asI, oAdd]
  refine ⟨⟨by omega, by omega, by omega, by omega⟩, ?_⟩
  rw [show (k + (w : Int) - k).toNat = w by omega]
  refine forI_invq (fun t e S' => ∃ (v : Vec) (x5 : Option D), Ext S S' ∧ S' pt = some (.lst (v.map D.int)) ∧ v.length = t ∧ Sm97 v ∧ e = [some (dR i ns), some (.int k), some (.int (w : Nat)), some (.int p), some (.ref pt), x5]) ⟨[], none, E, hat, rfl, fun x h => (by cases h), rfl⟩ (fun _ _ _ _ => trivial) ?_ ?_
  · rintro t d e S' hi ⟨v, x5, E, hat, hl, hv, rfl⟩ q hq _ _ _ _
    obtain ⟨hlt, rfl⟩ := rngD_get hi
    have ol := fun (Q : Qd) => oLen_of (S := S') (d := dR i ns) (Q := Q) seqA_dR
    obtain ⟨j, hj⟩ : ∃ j : Nat, k + (t : Int) = (j : Int) := ⟨(k + (t : Int)).toNat, by omega⟩
    rw [hj]
    obtain ⟨y, hy⟩ : ∃ y, ns[j % m]? = some y := ⟨_, List.getElem?_eq_getElem (by rw [hns.1]; exact Nat.mod_lt _ m0)⟩
    have hy2 := hns.2 y (List.mem_of_getElem? hy)
    have a1 := fun Q => oIx_eq (S := S') (x := dR i ns) (i := (j : Int) % (m : Int)) seqA_dR (show atI (ns.map D.int) ((j : Int) % (m : Int)) = some (.int y) by
      rw [show (j : Int) % (m : Int) = ((j % m : Nat) : Int) by omega]
      exact at_k (by rw [List.getElem?_map, hy]; rfl)) Q
    obtain ⟨jd, hjm, hjd⟩ : ∃ jd : Nat, (j : Int) / (m : Int) = (jd : Int) ∧ jd ≤ j := ⟨j / m, by omega, Nat.div_le_self j m⟩
    simp only [gN, setV, wDrop, wMt, wCons, wNil, wBin, wCB, wVar, wC, getV, some!, mutL, hat, oInt, one]
    refine ol _ ?_
    simp only [oMod, oI, List.length_map, hns.1]
    refine ⟨by omega, ?_⟩
    rw [a1]
    refine ol _ ?_
    simp only [oDiv, oMul, oI, oAdd, oMod, List.length_map, hns.1, hjm]
    refine ⟨divw ⟨by omega, by omega⟩, mulw (by decide) ⟨by omega, by omega⟩, by omega, ?_⟩
    simp only [oAppend, mutL, hat, one, List.length_map]
    refine ⟨by unfold sizeLine; omega, hq _ _ ⟨v ++ [(y + 7 * (jd : Int)) % p], _, ext_chg E (ext_none (ext_refl S) hpt), by rw [put_same, List.map_append]; rfl, by rw [List.length_append, hl]; rfl, fun x hx => ?_, rfl⟩⟩
    rcases List.mem_append.mp hx with z | z
    · exact hv x z
    · rw [List.mem_singleton] at z; subst z; exact sm_mod hp
  · rintro e S' ⟨v, x5, E, hat, hl, hv, rfl⟩
    rw [rngD_length] at hl
    refine n1 _ _ ?_
    have e3 := seqA_at hat
    simp only [wRet, wCB, wCons, wNil, wVar, getV, some!, oTuple, one, e3]
    exact h v ⟨hl, hv.sm⟩ S' E
theorem prime_bd {p : Int} (h : p ∈ thePrimes) : 0 < p ∧ p ≤ 97 := by
  simp only [thePrimes, List.mem_cons, List.not_mem_nil, or_false] at h
  omega
theorem mat_sub {w : Nat} {rows : Mat} {i j : Nat} (h : MatOk w rows) : MatOk w ((rows.drop i).take j) := fun v hv => h v (List.mem_of_mem_drop (List.mem_of_mem_take hv))
theorem cutD_rows {rows : Mat} {lo hi : Option Int} : DL.cutD (rows.map dT) lo hi = (((rows.drop (HT.sIx rows.length 0 lo)).take (HT.sIx rows.length rows.length hi - HT.sIx rows.length 0 lo))).map dT := by
  unfold DL.cutD
  rw [List.length_map, List.map_take, List.map_drop]
theorem sIx_k {n : Nat} {k d : Nat} (h : k ≤ n) : HT.sIx n d (some (k : Int)) = k := by
  unfold HT.sIx
  simp
  split <;> omega
theorem sIx_none {n d : Nat} : HT.sIx n d none = d := rfl
theorem cut_rows {rows : Mat} {a b : Nat} (h : a ≤ b) (hb : b ≤ rows.length) : DL.cutD (rows.map dT) (some (a : Int)) (some (b : Int)) = ((rows.drop a).take (b - a)).map dT := by
  rw [cutD_rows, sIx_k (k := a) (by omega), sIx_k (k := b) hb]
theorem cut_rows0 {rows : Mat} {b : Nat} (hb : b ≤ rows.length) : DL.cutD (rows.map dT) none (some (b : Int)) = (rows.take b).map dT := by
  rw [cutD_rows, sIx_k hb, sIx_none, List.drop_zero, Nat.sub_zero]
theorem sl {S : Sto} {xs : List D} : seqA S (.lst xs) = some xs := rfl
theorem len__law_net (c : Cl) : ∀ ds S Q E, sp__law_net c ds S Q E → ds.length = 5 := by
  rintro ds S Q E ⟨_, _, _, _, _, _, rfl, _⟩; rfl
theorem mat5 {w : Nat} {ms : List Mat} (h : ms.length = 5) (hm : ∀ m, m ∈ ms → m.length = w ∧ MatOk w m) : ∃ l, LayOk w l ∧ D.tup (ms.map dM) = dLay l := by
  match ms, h, hm with
  | [a, b, d, e, f], _, hm =>
    exact ⟨⟨a, b, d, e, f⟩, ⟨hm a (by simp), hm b (by simp), hm d (by simp), hm e (by simp), hm f (by simp)⟩, rfl⟩
theorem rd__law_net (c : Cl) : ∀ ds S Q X1, sp__law_net c ds S Q X1 → w__law_net c (startD N__law_net_ ds) S (endQ Q X1) := by
  rintro ds S Q X1 ⟨ns, k, L, w, m, p, rfl, hns, k0, k1000, hL, hw, hm, hp, h⟩
  have hpb := prime_bd hp
  show w__law_net c [some (dL ns), some (.int (L : Nat)), some (.int (w : Nat)), some (.int (m : Nat)), some (.int p), none, none, none, none, none, none] S (endQ Q X1)
  unfold w__law_net
  refine seq_k fun q1 n1 r1 _ _ x1 => ?_
  simp only [wSet, wLstM, wNil, setV]
  refine ⟨Nat.zero_le _, fun pt hpt => n1 _ _ ?_⟩
  have E := ext_put (m := .lst []) (ext_refl S) hpt
  have hat : put S pt (.lst []) pt = some (.lst (([] : Mat).map dT)) := put_same
  generalize put S pt (.lst []) = S1 at E hat
  obtain ⟨N, hN⟩ : ∃ N : Nat, N = 2 * L + 1 + 5 * w * m := ⟨_, rfl⟩
  have hwm : w * m ≤ 4 * 3 := Nat.mul_le_mul hw.2 hm
  have h5 : 5 * w * m = 5 * (w * m) := Nat.mul_assoc ..
  have hNi : 2 * (L : Int) + 1 + 5 * (w : Int) * (m : Int) = (N : Int) := by
    rw [hN]; push_cast; rfl
  refine seq_k fun q1 n1 r1 _ _ x1 => ?_
  simp only [wFor, wRg1, wBin, wVar, wC, getV, some!, asI, oMul, oI, oAdd]
  refine ⟨mulw (by decide) ⟨by omega, by omega⟩, mulw (by decide) ⟨by omega, by omega⟩, mulw ⟨by omega, by omega⟩ ⟨by omega, by omega⟩, ?_⟩
  rw [hNi]
  refine ⟨⟨by omega, by omega⟩, ?_⟩
  rw [Int.toNat_natCast]
  refine forI_invq (fun t e S' => ∃ (rows : Mat) (x6 : Option D), Ext S S' ∧ S' pt = some (.lst (rows.map dT)) ∧ rows.length = t ∧ MatOk w rows ∧ e = [some (dL ns), some (.int (L : Nat)), some (.int (w : Nat)), some (.int (m : Nat)), some (.int p), some (.ref pt), x6, none, none, none, none]) ⟨[], none, E, hat, rfl, fun x h => (by cases h), rfl⟩ (fun _ _ _ _ => trivial) ?_ ?_
  · rintro t d e S' hi ⟨rows, x6, E, hat, hl, hr, rfl⟩ q hq _ _ _ _
    obtain ⟨hlt, rfl⟩ := rngD_get hi
    rw [Int.zero_add]
    simp only [gN, setV, wDrop, wMt, wCall, wCons, wNil, wBin, wVar, getV, some!, mutL, hat, oMul, oI]
    have htw : (t : Int) * (w : Int) ≤ 100 * 4 := Int.mul_le_mul (by omega) (by omega) (by omega) (by omega)
    have htw0 : 0 ≤ (t : Int) * (w : Int) := Int.mul_nonneg (by omega) (by omega)
    refine ⟨mulw ⟨by omega, by omega⟩ ⟨by omega, by omega⟩, false, ns, k, _, w, p, rfl, hns, k0, k1000, ⟨htw0, by omega⟩, hw.2, hpb, fun v hv S2 E2 => ?_⟩
    have hat2 := E2 _ _ hat
    simp only [oAppend, mutL, hat2, one, List.length_map]
    refine ⟨by unfold sizeLine; omega, hq _ _ ⟨rows ++ [v], _, ext_chg (ext_trans E E2) (ext_none (ext_refl S) hpt), by rw [put_same, List.map_append]; rfl, by rw [List.length_append, hl]; rfl, fun x hx => ?_, rfl⟩⟩
    rcases List.mem_append.mp hx with z | z
    · exact hr x z
    · rw [List.mem_singleton] at z; subst z; exact hv
  rintro e S1 ⟨rows, x6, E, hat, hl, hr, rfl⟩
  rw [rngD_length] at hl
  refine n1 _ _ ?_
  refine seq_k fun q1 n1 r1 _ _ x1 => ?_
  simp only [wSet, wLstM, wNil, setV]
  refine ⟨Nat.zero_le _, fun pl hpl => n1 _ _ ?_⟩
  have hpln := ext_none E hpl
  have hpne : pt ≠ pl := fun z => by rw [z, hpl] at hat; cases hat
  have E := ext_put (m := .lst []) E hpl
  have hatl : put S1 pl (.lst []) pl = some (.lst (([] : List Lay).map dLay)) := put_same
  have hat : put S1 pl (.lst []) pt = some (.lst (rows.map dT)) := by rw [put_ne hpne]; exact hat
  generalize put S1 pl (.lst []) = S1 at E hat hatl
  refine seq_k fun q1 n1 r1 _ _ x1 => ?_
  simp only [wFor, wRg1, wVar, getV, some!, asI]
  refine ⟨⟨by omega, by omega⟩, ?_⟩
  rw [Int.toNat_natCast]
  refine forI_invq (fun t e S' => ∃ (ls : List Lay) (x6 x8 x9 x10 : Option D), Ext S S' ∧ S' pt = some (.lst (rows.map dT)) ∧ S' pl = some (.lst (ls.map dLay)) ∧ ls.length = t ∧ (∀ l, l ∈ ls → LayOk w l) ∧ e = [some (dL ns), some (.int (L : Nat)), some (.int (w : Nat)), some (.int (m : Nat)), some (.int p), some (.ref pt), x6, some (.ref pl), x8, x9, x10]) ⟨[], _, none, none, none, E, hat, hatl, rfl, fun x h => (by cases h), rfl⟩ (fun _ _ _ _ => trivial) ?_ ?_
  · rintro t d e S2 hi ⟨ls, x6, x8, x9, x10, E, hat, hatl, hls, hlo, rfl⟩ q hq _ _ _ _
    obtain ⟨hlt, rfl⟩ := rngD_get hi
    rw [Int.zero_add]
    simp only [gN, setV]
    refine seq_k fun q1 n1 r1 _ _ x1 => ?_
    simp only [wSet, wLstM, wNil, setV]
    refine ⟨Nat.zero_le _, fun pm hpm => n1 _ _ ?_⟩
    have hpmn := ext_none E hpm
    have ne1 : pt ≠ pm := fun z => by rw [z, hpm] at hat; cases hat
    have ne2 : pl ≠ pm := fun z => by rw [z, hpm] at hatl; cases hatl
    have E := ext_put (m := .lst []) E hpm
    have hatm : put S2 pm (.lst []) pm = some (.lst (([] : List Mat).map dM)) := put_same
    have hat : put S2 pm (.lst []) pt = some (.lst (rows.map dT)) := by rw [put_ne ne1]; exact hat
    have hatl : put S2 pm (.lst []) pl = some (.lst (ls.map dLay)) := by rw [put_ne ne2]; exact hatl
    generalize put S2 pm (.lst []) = S2 at E hat hatl hatm
    refine seq_k fun q1 n1 r1 _ _ x1 => ?_
    simp only [wFor, wRg1, wC, asI]
    refine ⟨⟨by decide, by decide⟩, ?_⟩
    refine forI_invq (fun u e S' => ∃ (ms : List Mat) (x6 x10 : Option D), Ext S S' ∧ S' pt = some (.lst (rows.map dT)) ∧ S' pl = some (.lst (ls.map dLay)) ∧ S' pm = some (.lst (ms.map dM)) ∧ ms.length = u ∧ (∀ y, y ∈ ms → y.length = w ∧ MatOk w y) ∧ e = [some (dL ns), some (.int (L : Nat)), some (.int (w : Nat)), some (.int (m : Nat)), some (.int p), some (.ref pt), x6, some (.ref pl), some (.int (t : Int)), some (.ref pm), x10]) ⟨[], _, _, E, hat, hatl, hatm, rfl, fun x h => (by cases h), rfl⟩ (fun _ _ _ _ => trivial) ?_ ?_
    · rintro u d e S3 hi ⟨ms, x6, x10, E, hat, hatl, hatm, hms, hmo, rfl⟩ q2 hq2 _ _ _ _
      obtain ⟨hlt2, rfl⟩ := rngD_get hi
      have hlt2 : u < 5 := hlt2
      rw [Int.zero_add]
      simp only [gN, setV]
      obtain ⟨F, hF⟩ : ∃ F : Nat, F = 2 * L + 1 + w * (5 * t + u) := ⟨_, rfl⟩
      have hFi : 2 * (L : Int) + 1 + (w : Int) * (5 * (t : Int) + (u : Int)) = (F : Int) := by rw [hF]; push_cast; rfl
      have hFb : F + w ≤ rows.length := by
        have h1 : w * (5 * t + u) + w = w * (5 * t + u + 1) := (Nat.mul_succ w (5 * t + u)).symm
        have h2 : w * (5 * t + u + 1) ≤ w * (5 * m) := Nat.mul_le_mul_left _ (by omega)
        have h3 : w * (5 * m) = 5 * w * m := by rw [← Nat.mul_assoc, Nat.mul_comm w 5]
        omega
      refine seq_k fun q1 n1 r1 _ _ x1 => ?_
      simp only [wSet, wBin, wVar, wC, getV, setV, some!, oMul, oI, oAdd]
      refine ⟨mulw (by decide) ⟨by omega, by omega⟩, mulw (by decide) ⟨by omega, by omega⟩, mulw ⟨by omega, by omega⟩ ⟨by omega, by omega⟩, n1 _ _ ?_⟩
      rw [hFi]
      have e3 := seqL_at hat
      simp only [wDrop, wMt, wCons, wNil, wBin, wCB, wSl, wP, wVar, getV, some!, mutL, hatm, asI, oAdd, oSl, e3]
      rw [show ((F : Int) + (w : Int)) = ((F + w : Nat) : Int) by push_cast; rfl, cut_rows (Nat.le_add_right _ _) hFb, show F + w - F = w by omega]
      simp only [oTuple, one, seqA, seqL, seqM, some!, oAppend, mutL, hatm, List.length_map]
      refine ⟨by unfold sizeLine; omega, hq2 _ _ ⟨ms ++ [(rows.drop F).take w], _, _, ext_chg E hpmn, by rw [put_ne ne1]; exact hat, by rw [put_ne ne2]; exact hatl, by rw [put_same, List.map_append]; rfl, by rw [List.length_append, hms]; rfl, fun y hy => ?_, rfl⟩⟩
      rcases List.mem_append.mp hy with z | z
      · exact hmo y z
      · rw [List.mem_singleton] at z; subst z
        exact ⟨by rw [List.length_take, List.length_drop]; omega, mat_sub hr⟩
    · rintro e S3 ⟨ms, x6, x10, E, hat, hatl, hatm, hms, hmo, rfl⟩
      refine n1 _ _ ?_
      obtain ⟨l, hlok, el⟩ := mat5 hms hmo
      have e3 := seqA_at hatm
      simp only [wDrop, wMt, wCons, wNil, wCB, wVar, getV, some!, mutL, hatl, oTuple, one, e3, el, oAppend, List.length_map]
      refine ⟨by unfold sizeLine; omega, hq _ _ ⟨ls ++ [l], _, _, _, _, ext_chg E hpln, by rw [put_ne hpne]; exact hat, by rw [put_same, List.map_append]; rfl, by rw [List.length_append, hls]; rfl, fun y hy => ?_, rfl⟩⟩
      rcases List.mem_append.mp hy with z | z
      · exact hlo y z
      · rw [List.mem_singleton] at z; subst z; exact hlok
  · rintro e S2 ⟨ls, x6, x8, x9, x10, E, hat, hatl, hls, hlo, rfl⟩
    rw [rngD_length] at hls
    refine n1 _ _ ?_
    have e3 := seqL_at hat
    have e4 := seqA_at hatl
    have hLi : (2 : Int) * (L : Int) = ((2 * L : Nat) : Int) := by push_cast; rfl
    obtain ⟨sh, hsh⟩ : ∃ sh, rows[2 * L]? = some sh := ⟨_, List.getElem?_eq_getElem (by omega)⟩
    have a1 := fun Q => oIx_eq (S := S2) (x := .ref pt) (i := ((2 * L : Nat) : Int)) (seqA_at hat) (at_k (by rw [List.getElem?_map, hsh]; rfl)) Q
    simp only [wRet, wTup, wCons, wNil, wCB, wSl, wNoP, wP, wBin, wVar, wC, getV, some!, asI, oSl, e3, oMul, oI]
    rw [cut_rows0 (by omega : L ≤ rows.length)]
    simp only [oTuple, one, sl, e4, some!]
    refine ⟨mulw (by decide) ⟨by omega, by omega⟩, ?_⟩
    rw [hLi, a1]
    simp only [e3, e4]
    refine ⟨mulw (by decide) ⟨by omega, by omega⟩, ?_⟩
    rw [cut_rows (by omega) (by omega), show 2 * L - L = L by omega]
    refine ⟨by show 5 ≤ sizeLine; decide, h ⟨p, rows.take L, sh, ls, (rows.drop L).take L⟩ ⟨hw, hL, hp, ⟨by show (rows.take L).length = L; rw [List.length_take]; omega, fun v hv => hr v (List.mem_of_mem_take hv)⟩, hr sh (List.mem_of_getElem? hsh), ⟨by show ls.length ≤ 3; omega, hlo⟩, ⟨by show ((rows.drop L).take L).length = L; rw [List.length_take, List.length_drop]; omega, mat_sub hr⟩⟩ rfl S2 E⟩
end K12
set_option Elab.async false
set_option linter.all false
set_option maxRecDepth 100000
set_option maxHeartbeats 1000000
namespace K12
open PySem PySem.Spec PyProof.Rows L2 DL
/-! ### the law's own row -/
def Smp (p : Int) (v : Vec) : Prop := ∀ x, x ∈ v → 0 ≤ x ∧ x < p
theorem smp_plus {p : Int} {a b : Vec} (h : 0 < p) : Smp p (plusF p a b) := fun x hx => by
  rw [plusF_zip] at hx
  obtain ⟨q, _, rfl⟩ := List.mem_map.mp hx
  exact ⟨Int.emod_nonneg _ (by omega), Int.emod_lt_of_pos _ h⟩
theorem rz {f : Int → Int → Int} {a b : Vec} {w : Nat} (ha : a.length = w) (hb : b.length = w) : (List.range w).map (fun k => f (a.getD k 0) (b.getD k 0)) = List.zipWith f a b := by
  refine List.ext_getElem? fun i => ?_
  rw [List.getElem?_map, List.getElem?_zipWith]
  by_cases h : i < w
  · rw [List.getElem?_range h, List.getElem?_eq_getElem (by omega : i < a.length), List.getElem?_eq_getElem (by omega : i < b.length)]
    simp [List.getD_eq_getElem?_getD, List.getElem?_eq_getElem (by omega : i < a.length), List.getElem?_eq_getElem (by omega : i < b.length)]
  · rw [List.getElem?_eq_none (by rw [List.length_range]; omega), List.getElem?_eq_none (by omega : a.length ≤ i)]
    rfl
theorem mod_step (x l d v p : Int) : ((x + l) % p + d % p * v) % p = (x + (l + d * v) % p) % p := by
  rw [Int.add_emod ((x + l) % p), Int.emod_emod_of_dvd _ (Int.dvd_refl p), Int.mul_emod (d % p), Int.emod_emod_of_dvd _ (Int.dvd_refl p), ← Int.mul_emod, ← Int.add_emod, Int.add_emod x ((l + d * v) % p), Int.emod_emod_of_dvd _ (Int.dvd_refl p), ← Int.add_emod, Int.add_assoc]
theorem plus_step (p d : Int) : ∀ (x l v : Vec), plusF p (plusF p x l) (v.map (d % p * ·)) = plusF p x (plusF p l (v.map (d * ·)))
  | [], _, _ => rfl
  | _ :: _, [], _ => rfl
  | _ :: _, _ :: _, [] => rfl
  | x :: xs, l :: ls, v :: vs => by
    show ((x + l) % p + d % p * v) % p :: plusF p (plusF p xs ls) (vs.map (d % p * ·)) = (x + (l + d * v) % p) % p :: plusF p xs (plusF p ls (vs.map (d * ·)))
    rw [mod_step, plus_step p d xs ls vs]
theorem plus_zero {p : Int} : ∀ {x q : Vec}, Smp p x → x.length = q.length → plusF p x (q.map fun _ => 0) = x
  | [], [], _, _ => rfl
  | x :: xs, q :: qs, h, hl => by
    have hx := h x List.mem_cons_self
    show (x + 0) % p :: plusF p xs (qs.map fun _ => 0) = _
    rw [Int.add_zero, Int.emod_eq_of_lt hx.1 hx.2, plus_zero (fun y hy => h y (List.mem_cons_of_mem _ hy)) (Nat.succ.inj hl)]
section
variable {S : Sto} {n : NetV} {l : Lay} {p : Vec × Vec} {r : Rw} {Q : Qd}
theorem nt0 : oIx S (dNetT n) (.int 0) Q = Q (.int n.prime) S := oIx_eq (xs := [.int n.prime, dM n.embed, dT n.shift, .tup (n.layers.map dLay), dM n.out]) rfl rfl Q
theorem nt1 : oIx S (dNetT n) (.int 1) Q = Q (dM n.embed) S := oIx_eq (xs := [.int n.prime, dM n.embed, dT n.shift, .tup (n.layers.map dLay), dM n.out]) rfl rfl Q
theorem nt2 : oIx S (dNetT n) (.int 2) Q = Q (dT n.shift) S := oIx_eq (xs := [.int n.prime, dM n.embed, dT n.shift, .tup (n.layers.map dLay), dM n.out]) rfl rfl Q
theorem nt3 : oIx S (dNetT n) (.int 3) Q = Q (.tup (n.layers.map dLay)) S := oIx_eq (xs := [.int n.prime, dM n.embed, dT n.shift, .tup (n.layers.map dLay), dM n.out]) rfl rfl Q
theorem nt4 : oIx S (dNetT n) (.int 4) Q = Q (dM n.out) S := oIx_eq (xs := [.int n.prime, dM n.embed, dT n.shift, .tup (n.layers.map dLay), dM n.out]) rfl rfl Q
theorem ly0 : oIx S (dLay l) (.int 0) Q = Q (dM l.q) S := oIx_eq (xs := [dM l.q, dM l.k, dM l.v, dM l.f, dM l.s]) rfl rfl Q
theorem ly1 : oIx S (dLay l) (.int 1) Q = Q (dM l.k) S := oIx_eq (xs := [dM l.q, dM l.k, dM l.v, dM l.f, dM l.s]) rfl rfl Q
theorem ly2 : oIx S (dLay l) (.int 2) Q = Q (dM l.v) S := oIx_eq (xs := [dM l.q, dM l.k, dM l.v, dM l.f, dM l.s]) rfl rfl Q
theorem ly3 : oIx S (dLay l) (.int 3) Q = Q (dM l.f) S := oIx_eq (xs := [dM l.q, dM l.k, dM l.v, dM l.f, dM l.s]) rfl rfl Q
theorem ly4 : oIx S (dLay l) (.int 4) Q = Q (dM l.s) S := oIx_eq (xs := [dM l.q, dM l.k, dM l.v, dM l.f, dM l.s]) rfl rfl Q
theorem pr0 : oIx S (dP p) (.int 0) Q = Q (dT p.1) S := oIx_eq (xs := [dT p.1, dT p.2]) rfl rfl Q
theorem pr1 : oIx S (dP p) (.int 1) Q = Q (dT p.2) S := oIx_eq (xs := [dT p.1, dT p.2]) rfl rfl Q
theorem rw0 : oIx S (dRw r) (.int 0) Q = Q (.tup (r.pairs.map dP)) S := oIx_eq (xs := [.tup (r.pairs.map dP), dT r.wts]) rfl rfl Q
end
/-- an item of a row of ints -/
theorem ixI {S : Sto} {i : Bool} {v : Vec} {k : Nat} {Q : Qd} (h : k < v.length) : oIx S (dR i v) (.int (k : Int)) Q = Q (.int (v.getD k 0)) S := by
  rw [oIx_eq (S := S) (x := dR i v) (i := (k : Int)) (xs := v.map D.int) seqA_dR (at_k (by rw [List.getElem?_map, List.getElem?_eq_getElem h]; rfl)) Q, List.getD_eq_getElem?_getD, List.getElem?_eq_getElem h]
  rfl
theorem getD_mem {v : Vec} {k : Nat} (h : k < v.length) : v.getD k 0 ∈ v := by
  rw [List.getD_eq_getElem?_getD, List.getElem?_eq_getElem h]
  exact List.getElem_mem h
theorem ints_rng {w : Nat} {f : Nat → Int} : (List.range w).map (fun k => D.int (f k)) = ((List.range w).map f).map D.int := by rw [List.map_map]; rfl
theorem len__law_row (c : Cl) : ∀ ds S Q E, sp__law_row c ds S Q E → ds.length = 3 := by
  rintro ds S Q E ⟨_, _, _, _, _, _, rfl, _⟩; rfl
theorem rd__law_row (c : Cl) : ∀ ds S Q X1, sp__law_row c ds S Q X1 → w__law_row c (startD N__law_row_ ds) S (endQ Q X1) := by
  rintro ds S Q X1 ⟨n, d, rows, l, w, L, rfl, hd, hn, hr, hl, h⟩
  have hp := prime_pos hn
  have hp' : 0 < n.prime ∧ n.prime ≤ 97 := ⟨hp.1, hp.2.2⟩
  have wle := hn.w1
  show w__law_row c [some (dNetT n), some d, some (.int l), none, none, none, none, none, none, none, none, none, none, none, none, none, none] S (endQ Q X1)
  unfold w__law_row
  refine seq_k fun q1 n1 r1 _ _ x1 => ?_
  simp only [wSet, wBin, wVar, wC, getV, setV, some!, nt0]
  refine n1 _ _ ?_
  refine seq_k fun q1 n1 r1 _ _ x1 => ?_
  have hlt : l.toNat < n.embed.length := by have := hn.em.1; omega
  obtain ⟨ev, hev⟩ : ∃ ev, n.embed[l.toNat]? = some ev := ⟨_, List.getElem?_eq_getElem hlt⟩
  have hevw := hn.em.2 ev (List.mem_of_getElem? hev)
  have a1 := fun Q => oIx_eq (S := S) (x := dM n.embed) (i := l) rfl (at_z hl.1 (by rw [List.getElem?_map, hev]; rfl) : atI (n.embed.map dT) l = some (dT ev)) Q
  have ol := fun (Q : Qd) => oLen_of (S := S) (d := d) (Q := Q) hd
  have olt := fun (v : Vec) (Q : Qd) => oLen_of (S := S) (d := dT v) (xs := v.map D.int) (Q := Q) rfl
  simp only [wSet, wLc, wRg1, wBin, wCB, wCons, wNil, wVar, wC, getV, setV, some!, nt2]
  refine olt _ _ ?_
  simp only [asI, List.length_map, delVs, delV, hn.sh.1]
  refine ⟨⟨by omega, by omega⟩, by rw [rngD_length]; unfold sizeLine; omega, ?_⟩
  rw [Int.toNat_natCast, rng_eq]
  refine compI_vals (List.range w) (fun i => .int (i : Int)) (fun k => .int ((ev.getD k 0 + (rows.length : Int) * n.shift.getD k 0) % n.prime)) trivial (fun k hk R hR => ?_) ?_
  · have hk := List.mem_range.mp hk
    have i1 : ∀ Q, oIx S (dT ev) (.int (k : Int)) Q = Q (.int (ev.getD k 0)) S := fun Q => ixI (i := true) (by rw [hevw.1]; exact hk)
    have i2 : ∀ Q, oIx S (dT n.shift) (.int (k : Int)) Q = Q (.int (n.shift.getD k 0)) S := fun Q => ixI (i := true) (by rw [hn.sh.1]; exact hk)
    have b1 := hn.sh.2 _ (getD_mem (by rw [hn.sh.1]; exact hk))
    simp only [gN, setV, wBin, wCB, wCons, wNil, wVar, wC, getV, some!, nt1, a1, i1]
    refine ol _ ?_
    simp only [nt2, i2, List.length_map, oMul, oI, oAdd, oInt, one, oMod]
    exact ⟨mulw ⟨by omega, by have := hr.1; omega⟩ ⟨b1.1, by omega⟩, hp.1, hR⟩
  rw [ints_rng (f := fun k => (ev.getD k 0 + (rows.length : Int) * n.shift.getD k 0) % n.prime), rz (f := fun x y => (x + (rows.length : Int) * y) % n.prime) hevw.1 hn.sh.1]
  refine n1 _ _ ?_
  have ex0 : List.zipWith (fun x y => (x + (rows.length : Int) * y) % n.prime) ev n.shift = x0F n rows l := by
    unfold x0F plusF; rw [List.getD_eq_getElem?_getD, hev, List.zipWith_map_right]; rfl
  rw [ex0]
  have ok0 := x0_ok (rows := rows) hn hl
  have sp0 : Smp n.prime (x0F n rows l) := smp_plus hp.1
  generalize hx0 : x0F n rows l = x0 at ok0 sp0
  refine seq_k fun q1 n1 r1 _ _ x1 => ?_
  simp only [wSet, wLstM, wNil, setV]
  refine ⟨Nat.zero_le _, fun po hpo => n1 _ _ ?_⟩
  have E := ext_put (m := .lst []) (ext_refl S) hpo
  have hat : put S po (.lst []) po = some (.lst (([] : List (Vec × Vec)).map dP)) := put_same
  generalize put S po (.lst []) = S1 at E hat
  refine seq_k fun q1 n1 r1 _ _ x1 => ?_
  simp only [wFor, wRg1, wCB, wCons, wNil, wBin, wVar, wC, getV, some!, nt3, oLen, one, seqA, seqL, seqM, List.length_map, asI]
  refine ⟨⟨by omega, by have := hn.la.1; omega⟩, ?_⟩
  rw [Int.toNat_natCast]
  refine forI_invq (fun i e' S' => ∃ st x6 x7 x8 x9 x10 x11 x12 x13, st = (n.layers.take i).foldl (stepL n.prime rows) ([], x0) ∧ StOk w st ∧ Smp n.prime st.2 ∧ Ext S S' ∧ S' po = some (.lst (st.1.map dP)) ∧
    e' = [some (dNetT n), some d, some (.int l), some (.int n.prime), some (dL st.2), some (.ref po), x6, x7, x8, x9, x10, x11, x12, x13, none, none, none]) ⟨([], x0), _, _, _, _, _, _, _, _, rfl, ⟨ok0, fun p h => by cases h⟩, sp0, E, hat, rfl⟩ (fun _ _ _ _ => trivial) ?_ ?_
  · rintro i d' e' S' hi ⟨st, x6, x7, x8, x9, x10, x11, x12, x13, est, ok, spx, E, hat, rfl⟩ q hq _ _ _ _
    obtain ⟨hlt2, rfl⟩ := rngD_get hi
    rw [Int.zero_add]
    obtain ⟨la, hla⟩ : ∃ la, n.layers[i]? = some la := ⟨_, List.getElem?_eq_getElem hlt2⟩
    have hlen : st.1.length = i := by rw [est, fold_len, List.length_take]; simp; omega
    obtain ⟨k1, k2, k3, k4, k5⟩ := hn.la.2 la (List.mem_of_getElem? hla)
    have hd' := seqA_ext E hd
    obtain ⟨ox, opa⟩ := id ok
    have sv : Sm st.2 := ox.2.sm
    have ok2 := step_ok hp' hr (by rw [hlen]; exact hlt2) (hn.la.2 la (List.mem_of_getElem? hla)) ok
    have sp2 : Smp n.prime (stepL n.prime rows st la).2 := smp_plus hp.1
    have est2 : (n.layers.take (i + 1)).foldl (stepL n.prime rows) ([], x0) = stepL n.prime rows st la := by rw [fold_snoc hla, ← est]
    have mk : ∀ {m : Mat} {v : Vec}, m.length = w ∧ MatOk w m → v.length = w → m.length ≤ 1000 ∧ ∀ r, r ∈ m → r.length = v.length ∧ Sm r := fun hm hv => ⟨by have := hm.1; omega, fun r hr => ⟨by rw [(hm.2 r hr).1, hv], (hm.2 r hr).2⟩⟩
    have al := fun Q => oIx_eq (S := S') (x := .tup (n.layers.map dLay)) (i := (i : Int)) rfl (at_k (by rw [List.getElem?_map, hla]; rfl)) Q
    simp only [gN, setV]
    refine seq_k fun q1 n1 r1 _ _ x1 => ?_
    simp only [wSet, wBin, wVar, wC, getV, setV, some!, nt3, al]
    refine n1 _ _ ?_
    refine seq_k fun q1 n1 r1 _ _ x1 => ?_
    simp only [wSet, wCall, wCons, wNil, wBin, wVar, wC, getV, setV, some!, ly0]
    refine ⟨la.q, false, st.2, n.prime, rfl, (mk k1 ox.1).1, (mk k1 ox.1).2, by have := ox.1; omega, sv, hp.1, n1 _ _ ?_⟩
    have hq97 := w97_times (v := st.2) hp' k1.1
    refine seq_k fun q1 n1 r1 _ _ x1 => ?_
    simp only [wSet, wTup, wCB, wCall, wCons, wNil, wBin, wVar, wC, getV, setV, some!, ly1, ly2]
    refine ⟨la.k, false, st.2, n.prime, rfl, (mk k2 ox.1).1, (mk k2 ox.1).2, by have := ox.1; omega, sv, hp.1, ?_⟩
    simp only [oTuple, one, dL, sl, some!]
    refine ⟨la.v, false, st.2, n.prime, rfl, (mk k3 ox.1).1, (mk k3 ox.1).2, by have := ox.1; omega, sv, hp.1, ?_⟩
    simp only [dL, sl]
    refine ⟨z2, n1 _ _ ?_⟩
    have hpair : D.tup [.tup ((timesF n.prime la.k st.2).map D.int), .tup ((timesF n.prime la.v st.2).map D.int)] = dP (pairF n.prime la st.2) := rfl
    rw [hpair]
    have hpk : W97 w (pairF n.prime la st.2).1 := w97_times hp' k2.1
    have hpv : W97 w (pairF n.prime la st.2).2 := w97_times hp' k3.1
    have hbo : ∀ p, p ∈ beforeF rows st.1.length ++ [pairF n.prime la st.2] → Wd w p.1 ∧ Wd w p.2 := fun p hp2 => by
      rcases List.mem_append.mp hp2 with z | z
      · exact before_ok hr (by rw [hlen]; exact hlt2) p z
      · rw [List.mem_singleton] at z; subst z
        exact ⟨hpk.wd, hpv.wd⟩
    refine seq_k fun q1 n1 r1 _ _ x1 => ?_
    simp only [wFor, wIt, wBin, wLc, wLst, wCons, wNil, wVar, getV, some!, hd', delVs, delV, List.length_map]
    refine ⟨by have := hr.1; unfold sizeLine; omega, compI_vals rows dRw (fun r => dP (r.pairs.getD i ([], []))) hd' (fun r hr2 R hR => ?_) ?_⟩
    · have hri := hr.2 r hr2
      have hli : i < r.pairs.length := by have := hri.pa.1; omega
      have a2 := fun Q => oIx_eq (S := S') (x := .tup (r.pairs.map dP)) (i := (i : Int)) rfl (at_k (by rw [List.getElem?_map, List.getElem?_eq_getElem hli]; rfl)) Q
      simp only [gN, setV, wBin, wVar, wC, getV, some!, rw0, a2]
      rw [List.getD_eq_getElem?_getD, List.getElem?_eq_getElem hli] at hR
      exact hR
    have hbef : rows.map (fun r => dP (r.pairs.getD i ([], []))) = (beforeF rows st.1.length).map dP := by
      unfold beforeF; rw [hlen, List.map_map]; rfl
    rw [hbef]
    simp only [oAdd, oCatL, seqM, some!]
    refine ⟨z1, by rw [List.length_map]; show (rows.map _).length + 1 ≤ _; rw [List.length_map]; have := hr.1; unfold sizeLine; omega, ?_⟩
    have hcat : (beforeF rows st.1.length).map dP ++ [dP (pairF n.prime la st.2)] = (beforeF rows st.1.length ++ [pairF n.prime la st.2]).map dP := by rw [List.map_append]; rfl
    rw [hcat, sl]
    simp only []
    -- the inner loop
    have hx1d : nextX n.prime (beforeF rows st.1.length) la st.2 = plusF n.prime (plusF n.prime st.2 (lookF n.prime (timesF n.prime la.q st.2) (beforeF rows st.1.length ++ [pairF n.prime la st.2]))) (timesF n.prime la.s ((timesF n.prime la.f (plusF n.prime st.2 (lookF n.prime (timesF n.prime la.q st.2) (beforeF rows st.1.length ++ [pairF n.prime la st.2])))).map fun n => n * n)) := rfl
    have esl : stepL n.prime rows st la = (st.1 ++ [pairF n.prime la st.2], nextX n.prime (beforeF rows st.1.length) la st.2) := rfl
    rw [esl, hx1d] at ok2 sp2 est2
    clear hx1d esl
    generalize hps : beforeF rows st.1.length ++ [pairF n.prime la st.2] = ps at hbo ok2 sp2 est2
    generalize hqq : timesF n.prime la.q st.2 = qv at hq97 ok2 sp2 est2
    refine forI_invq (fun k e' S'' => S'' = S' ∧ ∃ x10 x11, e' = [some (dNetT n), some d, some (.int l), some (.int n.prime), some (dL (plusF n.prime st.2 (lookF n.prime qv (ps.take k)))), some (.ref po), some (.int (i : Int)), some (dLay la), some (.lst (qv.map D.int)), some (dP (pairF n.prime la st.2)), x10, x11, x12, x13, none, none, none])
      ⟨rfl, _, _, by rw [show lookF n.prime qv (ps.take 0) = qv.map fun _ => 0 from rfl, plus_zero spx (by rw [ox.1, hq97.1])]; rfl⟩ (fun _ _ _ _ => rfl) ?_ ?_
    · rintro k d2 e2 S2 hi2 ⟨rfl, x10, x11, rfl⟩ q2 hq2 _ _ _ _
      rw [List.getElem?_map] at hi2
      obtain ⟨pk, hpk2, rfl⟩ := Option.map_eq_some_iff.mp hi2
      have hpo2 := hbo pk (List.mem_of_getElem? hpk2)
      have hlk : (plusF n.prime st.2 (lookF n.prime qv (ps.take k))).length = w := by
        rw [len_plus, ox.1, len_look hq97.1 (fun x hx => (hbo x (List.mem_of_mem_take hx)).2.1), Nat.min_self]
      have hlk97 : Sm97 (plusF n.prime st.2 (lookF n.prime qv (ps.take k))) := sm_plus hp'
      simp only [gN, setV]
      refine seq_k fun q1 n1 r1 _ _ x1 => ?_
      simp only [wSet, wCall, wCons, wNil, wBin, wVar, wC, getV, setV, some!, pr0]
      refine ⟨false, true, qv, pk.1, n.prime, rfl, by rw [hq97.1, hpo2.1.1], by have := hq97.1; omega, hq97.2.sm, hpo2.1.2, hp.1, n1 _ _ ?_⟩
      have hnear := sm_mod (x := psum qv pk.1) hp'
      have olx := fun (v : Vec) (Q : Qd) => oLen_of (S := S2) (d := dL v) (xs := v.map D.int) (Q := Q) rfl
      have estep : plusF n.prime st.2 (lookF n.prime qv (ps.take (k + 1))) = plusF n.prime (plusF n.prime st.2 (lookF n.prime qv (ps.take k))) (pk.2.map (psum qv pk.1 % n.prime * ·)) := by
        rw [look_snoc hpk2, plus_step]
      generalize plusF n.prime st.2 (lookF n.prime qv (ps.take k)) = y at hlk hlk97 estep
      simp only [wSet, wLc, wRg1, wCB, wCons, wNil, wVar, getV, setV, some!]
      refine olx _ _ ?_
      simp only [asI, List.length_map, delVs, delV, hlk]
      refine ⟨⟨by omega, by omega⟩, by rw [rngD_length]; unfold sizeLine; omega, ?_⟩
      rw [Int.toNat_natCast, rng_eq]
      refine compI_vals (List.range w) (fun i => .int (i : Int)) (fun k => .int ((y.getD k 0 + psum qv pk.1 % n.prime * pk.2.getD k 0) % n.prime)) trivial (fun k hk R hR => ?_) ?_
      · have hk := List.mem_range.mp hk
        have i1 : ∀ Q, oIx S2 (dL y) (.int (k : Int)) Q = Q (.int (y.getD k 0)) S2 := fun Q => ixI (i := false) (by rw [hlk]; exact hk)
        have i2 : ∀ Q, oIx S2 (dT pk.2) (.int (k : Int)) Q = Q (.int (pk.2.getD k 0)) S2 := fun Q => ixI (i := true) (by rw [hpo2.2.1]; exact hk)
        have b1 := hpo2.2.2 _ (getD_mem (by rw [hpo2.2.1]; exact hk))
        simp only [gN, setV, wBin, wCB, wCons, wNil, wVar, wC, getV, some!, i1, pr1, i2, oMul, oI, oAdd, oInt, one, oMod]
        exact ⟨mulw ⟨hnear.1, by omega⟩ ⟨b1.1, by omega⟩, hp.1, hR⟩
      rw [ints_rng (f := fun k => (y.getD k 0 + psum qv pk.1 % n.prime * pk.2.getD k 0) % n.prime), rz (f := fun a b => (a + psum qv pk.1 % n.prime * b) % n.prime) hlk hpo2.2.1]
      refine hq2 _ _ ⟨rfl, some (dP pk), some (.int (psum qv pk.1 % n.prime)), ?_⟩
      rw [estep]
      unfold plusF
      rw [List.zipWith_map_right]
      rfl
    · rintro e2 S2 ⟨rfl, x10, x11, rfl⟩
      rw [List.length_map, List.take_length]
      refine n1 _ _ ?_
      have hx1 := w97_plus (a := st.2) (b := lookF n.prime qv ps) hp' ox.1 (len_look hq97.1 fun x hx => (hbo x hx).2.1)
      generalize plusF n.prime st.2 (lookF n.prime qv ps) = y at hx1 ok2 sp2 est2
      have hf97 := w97_times (v := y) hp' k4.1
      refine seq_k fun q1 n1 r1 _ _ x1 => ?_
      simp only [wSet, wLc, wIt, wCall, wCons, wNil, wBin, wVar, wC, getV, setV, some!, ly3]
      refine ⟨la.f, false, y, n.prime, rfl, (mk k4 hx1.1).1, (mk k4 hx1.1).2, by have := hx1.1; omega, hx1.2.sm, hp.1, ?_⟩
      simp only [dL, sl, delVs, delV, List.length_map]
      refine ⟨by have := hf97.1; unfold sizeLine; omega, compI_vals (timesF n.prime la.f y) D.int (fun y => .int (y * y)) trivial (fun z hz R hR => ?_) ?_⟩
      · have h2 := hf97.2 z hz
        simp only [gN, setV, wBin, wVar, getV, some!, oMul, oI]
        exact ⟨mulw ⟨h2.1, by omega⟩ ⟨h2.1, by omega⟩, hR⟩
      rw [ints_map (f := fun y => y * y)]
      refine n1 _ _ ?_
      refine seq_k fun q1 n1 r1 _ _ x1 => ?_
      simp only [wSet, wCall, wCons, wNil, wBin, wVar, wC, getV, setV, some!, ly4]
      have hsq : ((timesF n.prime la.f y).map fun y => y * y).length = w := by rw [List.length_map]; exact hf97.1
      refine ⟨la.s, false, (timesF n.prime la.f y).map fun y => y * y, n.prime, rfl, (mk k5 hsq).1, (mk k5 hsq).2, by omega, sm_sq hf97.2, hp.1, n1 _ _ ?_⟩
      have hs97 := w97_times (v := (timesF n.prime la.f y).map fun y => y * y) hp' k5.1
      generalize timesF n.prime la.s ((timesF n.prime la.f y).map fun y => y * y) = mo at hs97 ok2 sp2 est2
      refine seq_k fun q1 n1 r1 _ _ x1 => ?_
      have olx := fun (v : Vec) (Q : Qd) => oLen_of (S := S2) (d := dL v) (xs := v.map D.int) (Q := Q) rfl
      simp only [wSet, wLc, wRg1, wCB, wCons, wNil, wVar, getV, setV, some!]
      refine olx y _ ?_
      simp only [asI, List.length_map, delVs, delV, hx1.1]
      refine ⟨⟨by omega, by omega⟩, by rw [rngD_length]; unfold sizeLine; omega, ?_⟩
      rw [Int.toNat_natCast, rng_eq]
      refine compI_vals (List.range w) (fun i => .int (i : Int)) (fun k => .int ((y.getD k 0 + mo.getD k 0) % n.prime)) trivial (fun k hk R hR => ?_) ?_
      · have hk := List.mem_range.mp hk
        have i1 : ∀ Q, oIx S2 (dL y) (.int (k : Int)) Q = Q (.int (y.getD k 0)) S2 := fun Q => ixI (i := false) (by rw [hx1.1]; exact hk)
        have i2 : ∀ Q, oIx S2 (dL mo) (.int (k : Int)) Q = Q (.int (mo.getD k 0)) S2 := fun Q => ixI (i := false) (by rw [hs97.1]; exact hk)
        have i1' : ∀ Q, oIx S2 (.lst (y.map D.int)) (.int (k : Int)) Q = Q (.int (y.getD k 0)) S2 := i1
        simp only [gN, setV, wBin, wCB, wCons, wNil, wVar, wC, getV, some!, i1', i2, oAdd, oInt, one, oMod, oI]
        exact ⟨hp.1, hR⟩
      rw [ints_rng (f := fun k => (y.getD k 0 + mo.getD k 0) % n.prime), rz (f := fun a b => (a + b) % n.prime) hx1.1 hs97.1]
      refine n1 _ _ ?_
      simp only [wDrop, wMt, wCons, wNil, wVar, getV, some!, mutL, hat, oAppend, one, List.length_map]
      refine ⟨by have := hn.la.1; unfold sizeLine; omega, hq _ _ ⟨_, _, _, _, _, _, _, _, _, est2.symm, ok2, sp2, ext_chg E (ext_none (ext_refl S) hpo), by rw [put_same, List.map_append]; rfl, rfl⟩⟩
  · rintro e' S' ⟨st, x6, x7, x8, x9, x10, x11, x12, x13, est, ok, spx, E, hat, rfl⟩
    rw [rngD_length, List.take_length] at est
    refine n1 _ _ ?_
    have e3 := seqA_at hat
    simp only [wRet, wTup, wCB, wCons, wNil, wLc, wIt, wBin, wVar, wC, getV, some!, oTuple, one, e3, nt4]
    simp only [dM, seqA, delVs, delV, List.length_map]
    refine ⟨by have := hn.ou.1; have := hn.l1; unfold sizeLine; omega, compI_vals n.out dT (fun v => .int (1 + psum v st.2 % n.prime)) trivial (fun v hv R hR => ?_) ?_⟩
    · have hv2 := hn.ou.2 v hv
      simp only [gN, setV, wBin, wCall, wCons, wNil, wVar, wC, getV, some!]
      refine ⟨true, false, v, st.2, n.prime, rfl, by rw [hv2.1, ok.x.1], by have := hv2.1; omega, hv2.2, ok.x.2.sm, hp.1, ?_⟩
      simp only [oAdd]
      rw [Int.add_comm]
      exact hR
    simp only [seqL, seqM]
    refine ⟨z2, ?_⟩
    have eo : n.out.map (fun v => D.int (1 + psum v st.2 % n.prime)) = (n.out.map fun v => 1 + psum v st.2 % n.prime).map D.int := by rw [List.map_map]; rfl
    rw [eo, est]
    have := h S' E
    unfold rowF at this
    rw [hx0] at this
    exact this
end K12

set_option Elab.async false
set_option linter.all false
set_option maxRecDepth 100000
set_option maxHeartbeats 1000000

namespace K12
open PySem PySem.Spec PyProof.Rows L2 DL
theorem repr_int {S : Sto} {i : Int} (h : i.natAbs.log2 < 1920) : ReprOk S (.int i) := ⟨⟨rfl, by show (PyData.int i).depth ≤ 8; exact Nat.le_of_ble_eq_true rfl⟩, by show decide _ = true; exact decide_eq_true h, int_text_fits h⟩
theorem strOk_str (x : String) : PyData.strOk (Str.ofString x) = true := by
  rw [Str.ofString_eq_toList]
  unfold PyData.strOk
  simp only [List.all_toArray, List.all_eq_true, decide_eq_true_eq]
  intro n hn
  obtain ⟨ch, _, rfl⟩ := List.mem_map.mp hn
  have := ch.valid
  show ch.val.toNat < 0x110000
  rcases this with h | ⟨_, h⟩
  · have : ch.val.toNat < 0xd800 := h
    omega
  · exact h
theorem fine_int {i : Int} (h : i.natAbs.log2 < 1920) : Fine (.int i) := ⟨fun S => ⟨_, rfl⟩, fun S => repr_int h, fun S => strOk_str _⟩
theorem log_lt {i : Int} (h : i.natAbs < 2 ^ 1000) : i.natAbs.log2 < 1920 := by
  by_cases z : i.natAbs = 0
  · rw [z]; decide
  · have := (Nat.log2_lt (k := 1000) z).mpr h; omega
theorem fine_small {i : Int} (h : i.natAbs < 1000000) : Fine (.int i) := fine_int (log_lt (Nat.lt_of_lt_of_le h (by decide +kernel)))
theorem plain_dT {v : Vec} {k : Nat} (h : v.length ≤ 1000) : plain (k + 1) (dT v) := ⟨by rw [List.length_map]; exact h, fun x hx => by
  obtain ⟨i, _, rfl⟩ := List.mem_map.mp hx
  cases k <;> exact trivial⟩
theorem plain_rw {w L m k : Nat} {r : Rw} (h : RwOk w L m r) (hw : w ≤ 4) (hL : L ≤ 12) (hm : m ≤ 3) : plain (k + 4) (dRw r) := by
  refine ⟨by show 2 ≤ 1000; decide, fun x hx => ?_⟩
  simp only [List.mem_cons, List.not_mem_nil, or_false] at hx
  rcases hx with rfl | rfl
  · refine ⟨by rw [List.length_map, h.pa.1]; omega, fun y hy => ?_⟩
    obtain ⟨p, hp, rfl⟩ := List.mem_map.mp hy
    have := h.pa.2 p hp
    refine ⟨by show 2 ≤ 1000; decide, fun z hz => ?_⟩
    simp only [List.mem_cons, List.not_mem_nil, or_false] at hz
    rcases hz with rfl | rfl
    · exact plain_dT (by rw [this.1.1]; omega)
    · exact plain_dT (by rw [this.2.1]; omega)
  · exact plain_dT (by rw [h.wt.1]; omega)
theorem plain_rows {w L m k : Nat} {rows : List Rw} (h : RowsOk w L m rows) (hw : w ≤ 4) (hL : L ≤ 12) (hm : m ≤ 3) : plain (k + 5) (.tup (rows.map dRw)) :=
  ⟨by rw [List.length_map]; have := h.1; omega, fun x hx => by
    obtain ⟨r, hr, rfl⟩ := List.mem_map.mp hx
    exact plain_rw (h.2 r hr) hw hL hm⟩
theorem same_go {c : Cl} {d : D} {S : Sto} {Q : Qd} {E : XQ} (h : plain 7 d) (q : Q (.bl true) S) : sp__law_same c [d, d] S Q E := ⟨d, rfl, h, q⟩
theorem frz_at {S : Sto} {x C : Addr} {N : List Str} {ys : List D} {xs : DE} {Q : Qd} (h : S x = some (.ins C N xs)) (e : allV xs = some ys) (q : Q (.obj C N ys) (del S x)) : frzD S (.ref x) Q := by
  show (match S x with | some (.lst xs) => _ | some (.ins C N xs) => _ | _ => False)
  rw [h]
  show some! (allV xs) _
  rw [e]
  exact q
theorem fine_non : Fine .non := ⟨fun S => ⟨_, rfl⟩, fun S => ⟨⟨rfl, by show PyData.none.depth ≤ 8; decide +kernel⟩, rfl, by show (PyData.none.shown).length ≤ sizeLine; decide +kernel⟩, fun S => by show PyData.strOk PyData.none.shown = true; decide +kernel⟩
theorem fine_bl (b : Bool) : Fine (.bl b) := ⟨fun S => ⟨_, rfl⟩, fun S => ⟨⟨rfl, by show (PyData.bool b).depth ≤ 8; cases b <;> decide +kernel⟩, rfl, by show ((PyData.bool b).shown).length ≤ sizeLine; cases b <;> decide +kernel⟩, fun S => by show PyData.strOk (PyData.bool b).shown = true; cases b <;> decide +kernel⟩
theorem fine_str : Fine (.str "0") := ⟨fun S => ⟨_, rfl⟩, fun S => ⟨⟨by show (PyData.str "0").canLay0 = true; decide +kernel, by show (PyData.str "0").depth ≤ 8; decide +kernel⟩, rfl, by show ((PyData.str "0").shown).length ≤ sizeLine; decide +kernel⟩, fun S => by show PyData.strOk (PyData.str "0").shown = true; decide +kernel⟩
theorem fine_t0 : Fine (.tup [.int 0]) := ⟨fun S => ⟨_, rfl⟩, fun S => ⟨⟨by show (PyData.tuple [.int 0]).canLay0 = true; decide +kernel, by show (PyData.tuple [.int 0]).depth ≤ 8; decide +kernel⟩, by show (PyData.tuple [.int 0]).showable = true; decide +kernel, by show ((PyData.tuple [.int 0]).shown).length ≤ sizeLine; decide +kernel⟩, fun S => by show PyData.strOk (PyData.tuple [.int 0]).shown = true; decide +kernel⟩
theorem fine_l0 : Fine (.lst [.int 0]) := ⟨fun S => ⟨_, rfl⟩, fun S => ⟨⟨by show (PyData.list [.int 0]).canLay0 = true; decide +kernel, by show (PyData.list [.int 0]).depth ≤ 8; decide +kernel⟩, by show (PyData.list [.int 0]).showable = true; decide +kernel, by show ((PyData.list [.int 0]).shown).length ≤ sizeLine; decide +kernel⟩, fun S => by show PyData.strOk (PyData.list [.int 0]).shown = true; decide +kernel⟩
theorem fine_tl : Fine (.tup [.int 0, .lst [.int 1]]) := ⟨fun S => ⟨_, rfl⟩, fun S => ⟨⟨by show (PyData.tuple [.int 0, .list [.int 1]]).canLay0 = true; decide +kernel, by show (PyData.tuple [.int 0, .list [.int 1]]).depth ≤ 8; decide +kernel⟩, by show (PyData.tuple [.int 0, .list [.int 1]]).showable = true; decide +kernel, by show ((PyData.tuple [.int 0, .list [.int 1]]).shown).length ≤ sizeLine; decide +kernel⟩, fun S => by show PyData.strOk (PyData.tuple [.int 0, .list [.int 1]]).shown = true; decide +kernel⟩
theorem fine_res {d : D} (h : Fine d) (S : Sto) : resD S d = d := by
  cases d with
  | ref a =>
    obtain ⟨n, hn⟩ := h.1 (fun _ => none)
    cases hn
  | _ => rfl
theorem okP_str {x : Str} (h : PyData.strOk x = true) : okP 0 (toP (.str x)) := by
  show (PyData.str x).canLay0 = true ∧ (PyData.str x).depth ≤ 0
  simp [PyData.canLay0, PyData.depth, h]
theorem shp_one {x : Str} (h : PyData.strOk x = true) : SeqAt.shaped (toP (.lst [.str x])) = true := shaped_of (n := 1) (okP_lst fun y hy => by
  rw [List.mem_singleton] at hy; subst hy; exact okP_str h) (by decide)
theorem res_ref {S : Sto} {p : Addr} {xs : List D} (h : S p = some (.lst xs)) : resD S (.ref p) = .lst xs := by
  show (match S p with | some (.lst xs) => D.lst xs | _ => .ref p) = _
  rw [h]
theorem numI {S : Sto} {ns : Vec} {m k : Nat} (hns : NumsOk m ns) (h : k < m) : ∃ v, (0 ≤ v ∧ v < 1000) ∧ ∀ Q, oIx S (dL ns) (.int (k : Int)) Q = Q (.int v) S := by
  obtain ⟨v, hv⟩ : ∃ v, ns[k]? = some v := ⟨_, List.getElem?_eq_getElem (by rw [hns.1]; exact h)⟩
  exact ⟨v, hns.2 v (List.mem_of_getElem? hv), fun Q => oIx_eq (xs := ns.map D.int) rfl (at_k (by rw [List.getElem?_map, hv]; rfl)) Q⟩
theorem modN {v : Int} {m : Int} (h : 0 < m) : 0 ≤ v % m ∧ v % m < m := ⟨Int.emod_nonneg _ (by omega), Int.emod_lt_of_pos _ h⟩
theorem seqM_A {S : Sto} {d : D} {xs : List D} (h : seqM S d = some xs) : seqA S d = some xs := by
  cases d with
  | tup ys => cases h
  | fro ys => cases h
  | _ => exact h

end K12

set_option Elab.async false
set_option linter.all false
set_option maxRecDepth 100000
set_option maxHeartbeats 1000000

namespace K12
open PySem PySem.Spec PyProof.Rows L2 DL
theorem fldD_at {C : Addr} {N : List Str} {i : Nat} {S : Sto} {a : Addr} {xs : DE} {d : D} (h : S a = some (.ins C N xs)) (h2 : getV xs i = some d) (k : D → Prop) : fldD C N i S (.ref a) k = k d := by
  simp only [fldD, h, h2, true_and, and_self, some!]
theorem setF_at {C : Addr} {N : List Str} {i : Nat} {S : Sto} {a : Addr} {xs : DE} {d : D} (h : S a = some (.ins C N xs)) (k : Sto → Prop) : setD C N i S (.ref a) d k = k (put S a (.ins C N (setV xs i d))) := by
  simp only [setD, h, true_and, and_self]
theorem ne_fresh {S : Sto} {m : MO} {a p : Addr} (h : S a = some m) (h0 : S p = none) : a ≠ p := fun z => by rw [← z, h] at h0; cases h0
theorem setIx_at {S : Sto} {a : Addr} {xs : List D} {j : Int} {n : Nat} {d : D} {k : Sto → Prop} (h : S a = some (.lst xs)) (hn : ixN xs.length j = some n) (q : k (put S a (.lst (xs.set n d)))) : setIx S (.ref a) (.int j) d k := by
  show (match S a with | some (MO.lst xs) => _ | _ => False)
  rw [h]
  show some! (ixN xs.length j) _
  rw [hn]
  exact q
theorem ixN_in {n : Nat} {i : Int} (h0 : 0 ≤ i) (h1 : i < (n : Int)) : ixN n i = some i.toNat := by
  unfold ixN
  rw [if_pos (by omega), if_pos (by omega)]
theorem oTuple_at {S : Sto} {d : D} {xs : List D} (h : seqA S d = some xs) (Q : Qd) : oTuple S [d] Q = Q (.tup xs) S := by
  simp only [oTuple, one, h, some!]
theorem oLen_at {S : Sto} {d : D} {xs : List D} (h : seqA S d = some xs) (Q : Qd) : oLen S [d] Q = Q (.int (xs.length : Nat)) S := by
  cases d with
  | str x => cases h
  | _ => simp only [oLen, one, h, some!]
theorem cs_at {cs : List Nat} {b : Nat} (h : b < cs.length) : (cs.map fun (n : Nat) => D.int (n : Nat))[b]? = some (.int (cs.getD b 0 : Nat)) := by
  rw [List.getElem?_map, List.getD_eq_getElem?_getD, List.getElem?_eq_getElem h]; rfl
theorem ks_at {ks : List (List Rw)} {b : Nat} (h : b < ks.length) : (ks.map fun (rs : List Rw) => D.tup (rs.map dRw))[b]? = some (.tup ((ks.getD b []).map dRw)) := by
  rw [List.getElem?_map, List.getD_eq_getElem?_getD, List.getElem?_eq_getElem h]; rfl
theorem cs_set {cs : List Nat} {b v : Nat} : (cs.map fun (n : Nat) => D.int (n : Nat)).set b (.int (v : Nat)) = (cs.set b v).map fun (n : Nat) => D.int (n : Nat) := (List.map_set ..).symm
theorem ks_set {ks : List (List Rw)} {b : Nat} {v : List Rw} : (ks.map fun (rs : List Rw) => D.tup (rs.map dRw)).set b (.tup (v.map dRw)) = (ks.set b v).map fun (rs : List Rw) => D.tup (rs.map dRw) := (List.map_set (f := fun (rs : List Rw) => D.tup (rs.map dRw)) ..).symm
theorem blk_some {n b : Nat} {d : D} (h : blk n d = some b) : d = .int (b : Nat) ∧ b < n := by
  unfold blk at h
  cases d with
  | int i =>
    dsimp only at h
    split at h
    · rename_i q
      obtain rfl := Option.some.inj h
      exact ⟨by rw [show ((i.toNat : Nat) : Int) = i by omega], by omega⟩
    · cases h
  | _ => cases h
theorem blk_in {n : Nat} {d : D} : inR 0 ((n : Int) - 1) d = (blk n d).isSome := by
  unfold inR blk
  cases d with
  | int i =>
    dsimp only
    by_cases q : 0 ≤ i ∧ i < (n : Int)
    · rw [if_pos q, decide_eq_true (by omega)]; rfl
    · rw [if_neg q, decide_eq_false (by omega)]; rfl
  | _ => rfl
theorem isSt {c : Cl} {S : Sto} {a : Addr} {xs : DE} (h : S a = some (.ins c.Store N_Store xs)) : isIns c.Store N_Store S (.ref a) := by
  show (match S a with | some (MO.ins C' N' _) => _ | _ => False)
  rw [h]; exact ⟨rfl, rfl⟩
structure StF (c : Cl) (S : Sto) (a pC pK : Addr) (z : Nat) (st : StV) : Prop where
  f0 : ∀ k, fldD c.Store N_Store 0 S (.ref a) k = k (.int (st.cs.length : Nat))
  f1 : ∀ k, fldD c.Store N_Store 1 S (.ref a) k = k (.int (z : Nat))
  f2 : ∀ k, fldD c.Store N_Store 2 S (.ref a) k = k (.ref pC)
  f3 : ∀ k, fldD c.Store N_Store 3 S (.ref a) k = k (.ref pK)
  iC : ∀ b, b < st.cs.length → ∀ Q, oIx S (.ref pC) (.int (b : Nat)) Q = Q (.int (st.cs.getD b 0 : Nat)) S
  iK : ∀ b, b < st.cs.length → ∀ Q, oIx S (.ref pK) (.int (b : Nat)) Q = Q (.tup ((st.ks.getD b []).map dRw)) S
theorem stF {c : Cl} {S : Sto} {a pC pK : Addr} {z : Nat} {st : StV} (h : StAt c S a pC pK z st) : StF c S a pC pK z st :=
  ⟨fldD_at h.ob rfl, fldD_at h.ob rfl, fldD_at h.ob rfl, fldD_at h.ob rfl, fun b hb => oIx_eq (seqA_at h.hc) (at_k (cs_at hb)), fun b hb => oIx_eq (seqA_at h.hk) (at_k (ks_at (by rw [h.ok.lk]; exact hb)))⟩
theorem st_C {c : Cl} {S : Sto} {a pC pK : Addr} {z b v : Nat} {st : StV} (h : StAt c S a pC pK z st) : StAt c (put S pC (.lst ((st.cs.set b v).map fun (n : Nat) => D.int (n : Nat)))) a pC pK z ⟨st.cs.set b v, st.ks⟩ := by
  have na : a ≠ pC := fun z => by have := h.ob; rw [z, h.hc] at this; cases this
  refine ⟨⟨by rw [List.length_set]; exact h.ok.l1, by rw [List.length_set]; exact h.ok.lk, h.ok.z8, h.ok.k8⟩, ?_, put_same, (put_ne (Ne.symm h.ne)).trans h.hk, h.ne⟩
  rw [put_ne na, List.length_set]; exact h.ob
theorem st_K {c : Cl} {S : Sto} {a pC pK : Addr} {z b : Nat} {v : List Rw} {st : StV} (h : StAt c S a pC pK z st) (hv : v.length ≤ z) : StAt c (put S pK (.lst ((st.ks.set b v).map fun (rs : List Rw) => D.tup (rs.map dRw)))) a pC pK z ⟨st.cs, st.ks.set b v⟩ := by
  have na : a ≠ pK := fun z => by have := h.ob; rw [z, h.hk] at this; cases this
  refine ⟨⟨h.ok.l1, by rw [List.length_set]; exact h.ok.lk, h.ok.z8, fun k hk => ?_⟩, (put_ne na).trans h.ob, (put_ne h.ne).trans h.hc, put_same, h.ne⟩
  rcases List.mem_or_eq_of_mem_set hk with y | rfl
  · exact h.ok.k8 k y
  · exact hv
theorem held_of {st : StV} {d : D} (h : heldF st d = true) : ∃ b, blk st.cs.length d = some b ∧ d = .int (b : Nat) ∧ b < st.cs.length ∧ st.cs.getD b 0 ≠ 0 := by
  unfold heldF at h
  cases e : blk st.cs.length d with
  | none => rw [e] at h; cases h
  | some b =>
    rw [e] at h
    exact ⟨b, rfl, (blk_some e).1, (blk_some e).2, of_decide_eq_true h⟩
theorem step_no {z : Nat} {st : StV} {w : Word} {d : D} {v : Vl} (h : heldF st d = false) (h1 : w ≠ .take) (h2 : w ≠ .holders) : stepF z st w d v = (st, .err 0 d) := by
  unfold stepF
  rw [if_neg h1]
  unfold heldF at h
  cases e : blk st.cs.length d with
  | none => rfl
  | some b =>
    rw [e] at h
    dsimp only
    rw [if_neg h2, if_pos (by have := of_decide_eq_false h; omega)]
theorem step_yes {z b : Nat} {st : StV} {w : Word} {d : D} {v : Vl} (h : blk st.cs.length d = some b) (h0 : st.cs.getD b 0 ≠ 0) (h1 : w ≠ .take) (h2 : w ≠ .holders) : stepF z st w d v = stepB z st b d w v := by
  unfold stepF
  rw [if_neg h1, h]
  dsimp only
  rw [if_neg h2, if_neg h0]
theorem len_own_row (c : Cl) : ∀ ds S Q E, sp_own_row c ds S Q E → ds.length = 1 := by
  rintro ds S Q E ⟨_, _, rfl, _⟩; rfl
theorem rd_own_row (c : Cl) : ∀ ds S Q X1, sp_own_row c ds S Q X1 → w_own_row c (startD N_own_row_ ds) S (endQ Q X1) := by
  rintro ds S Q X1 ⟨d, r, rfl, ⟨pd, wd, ps, hd, hp, hpl, hw, h100, hall⟩, h⟩
  show w_own_row c [some d, none, none, none, none] S (endQ Q X1)
  unfold w_own_row
  refine seq_k fun q1 n1 r1 _ _ x1 => ?_
  simp only [wAsgS, wVar, getV, some!, gU, hd, gAll, gN, setV]
  refine ⟨rfl, n1 _ _ ?_⟩
  simp only [wRet, wTup, wCB, wCons, wNil, wLcS, wIt, wVar, getV, some!, hp, delVs, delV]
  refine ⟨by unfold sizeLine; omega, compIS_inv (fun k acc S' => S' = S ∧ acc = (r.pairs.take k).map dP) ⟨rfl, rfl⟩ (fun k acc S' z => by rw [z.1]; exact hp) ?_ ?_⟩
  · rintro k p acc S' hk ⟨rfl, rfl⟩
    have hkl := lt_of_some hk
    obtain ⟨q, hq⟩ : ∃ q, r.pairs[k]? = some q := ⟨_, List.getElem?_eq_getElem (by rw [← hpl]; exact hkl)⟩
    obtain ⟨kd, vd, e1, e2, e3⟩ := hall k p q hk hq
    have o1 := fun Q => oTuple_at (S := S') e2 Q
    have o2 := fun Q => oTuple_at (S := S') e3 Q
    simp only [gU, e1, some!, gAll, gN, setV, wYes, if_true, wTup, wCB, wCons, wNil, wVar, getV, o1, o2]
    refine ⟨rfl, show 2 ≤ sizeLine by decide, trivial, ?_⟩
    rw [List.take_add_one, hq, List.map_append]; rfl
  · rintro acc S' ⟨rfl, rfl⟩
    rw [hpl, List.take_length]
    have o1 : ∀ Q, oTuple S' [.lst (r.pairs.map dP)] Q = Q (.tup (r.pairs.map dP)) S' := fun Q => oTuple_at rfl Q
    have o2 := fun Q => oTuple_at (S := S') hw Q
    simp only [o1, o2]
    exact ⟨show 2 ≤ sizeLine by decide, h⟩
theorem len_Store_check_held (c : Cl) : ∀ ds S Q E, sp_Store_check_held c ds S Q E → ds.length = 2 := by
  rintro ds S Q E ⟨_, _, _, _, _, _, rfl, _⟩; rfl
theorem rd_Store_check_held (c : Cl) : ∀ ds S Q X1, sp_Store_check_held c ds S Q X1 → w_Store_check_held c (startD N_Store_check_held_ ds) S (endQ Q X1) := by
  rintro ds S Q X1 ⟨a, pC, pK, z, st, d, rfl, hA, hk, hy, hn⟩
  show w_Store_check_held c [some (.ref a), some d] S (endQ Q X1)
  unfold w_Store_check_held
  have F := stF hA
  simp only [wIf, wOr, wNot, wTest, wCall, wBin, wFld, wCons, wNil, wVar, wC, getV, some!, F.f0, oSub, oI0]
  refine ⟨d, 0, ((st.cs.length : Nat) : Int) - 1, rfl, hk, ?_⟩
  rw [blk_in]
  cases e : blk st.cs.length d with
  | none =>
    simp only [Option.isSome_none, Bool.not_false, if_true, wRaise, wMkE, wVar, getV, some!]
    exact hn (by unfold heldF; rw [e])
  | some b =>
    obtain ⟨rfl, hb⟩ := blk_some e
    simp only [Option.isSome_some, Bool.not_true, Bool.false_eq_true, if_false, F.f2, F.iC b hb, oEq, shD_int, eqD_int, true_and, decide_eq_true_eq]
    by_cases y : ((st.cs.getD b 0 : Nat) : Int) = 0
    · rw [if_pos y]
      simp only [wRaise, wMkE, wVar, getV, some!]
      exact hn (by unfold heldF; rw [e]; exact decide_eq_false (by omega))
    · rw [if_neg y]
      simp only [wNext]
      exact hy (by unfold heldF; rw [e]; exact decide_eq_true (by omega))
theorem len_Store_check_alone (c : Cl) : ∀ ds S Q E, sp_Store_check_alone c ds S Q E → ds.length = 2 := by
  rintro ds S Q E ⟨_, _, _, _, _, _, rfl, _⟩; rfl
theorem rd_Store_check_alone (c : Cl) : ∀ ds S Q X1, sp_Store_check_alone c ds S Q X1 → w_Store_check_alone c (startD N_Store_check_alone_ ds) S (endQ Q X1) := by
  rintro ds S Q X1 ⟨a, pC, pK, z, st, d, rfl, hA, hk, hy, hn, ho⟩
  show w_Store_check_alone c [some (.ref a), some d] S (endQ Q X1)
  unfold w_Store_check_alone
  have F := stF hA
  refine seq_k fun q1 n1 r1 _ _ x1 => ?_
  simp only [wDrop, wMeth, wCons, wNil, wVar, getV, some!]
  refine ⟨isSt hA.ob, a, pC, pK, z, st, d, rfl, hA, hk, fun hh => n1 _ _ ?_, fun hh => ?_⟩
  · obtain ⟨b, e, rfl, hb, h0⟩ := held_of hh
    simp only [wIf, wTest, wBin, wFld, wVar, wC, getV, some!, F.f2, F.iC b hb, oGt, oI0, decide_eq_true_eq]
    by_cases y : (1 : Int) < ((st.cs.getD b 0 : Nat) : Int)
    · rw [if_pos y]
      simp only [wRaise, wMkE, wVar, getV, some!]
      exact ho hh (by unfold aloneF; rw [e]; exact decide_eq_false (by omega))
    · rw [if_neg y]
      simp only [wNext]
      exact hy hh (by unfold aloneF; rw [e]; exact decide_eq_true (by omega))
  · show q1.xc c.NotHeld [("block", d)] _ S
    rw [x1]; exact hn hh
theorem len_Store_take (c : Cl) : ∀ ds S Q E, sp_Store_take c ds S Q E → ds.length = 1 := by
  rintro ds S Q E ⟨_, _, _, _, _, rfl, _⟩; rfl
theorem find_first {cs : List Nat} {k : Nat} (h0 : ∀ j, j < k → cs.getD j 0 ≠ 0) (hk : k < cs.length) (h : cs.getD k 0 = 0) : cs.findIdx? (· == 0) = some k := by
  rw [List.findIdx?_eq_some_iff_getElem]
  refine ⟨hk, ?_, fun j hj => ?_⟩
  · rw [List.getD_eq_getElem?_getD, List.getElem?_eq_getElem hk] at h
    simpa using h
  · have := h0 j hj
    rw [List.getD_eq_getElem?_getD, List.getElem?_eq_getElem (by omega)] at this
    simpa using this
theorem find_none {cs : List Nat} (h0 : ∀ j, j < cs.length → cs.getD j 0 ≠ 0) : cs.findIdx? (· == 0) = none := by
  rw [List.findIdx?_eq_none_iff]
  intro x hx
  obtain ⟨j, hj, rfl⟩ := List.mem_iff_getElem.mp hx
  have := h0 j hj
  rw [List.getD_eq_getElem?_getD, List.getElem?_eq_getElem hj] at this
  simpa using this
theorem rd_Store_take (c : Cl) : ∀ ds S Q X1, sp_Store_take c ds S Q X1 → w_Store_take c (startD N_Store_take_ ds) S (endQ Q X1) := by
  rintro ds S Q X1 ⟨a, pC, pK, z, st, rfl, hA, h⟩
  show w_Store_take c [some (.ref a), none] S (endQ Q X1)
  unfold w_Store_take
  have F := stF hA
  have hl := hA.ok.l1
  refine seq_k fun q1 n1 r1 _ _ x1 => ?_
  simp only [wFor, wRg1, wFld, wVar, getV, some!, F.f0, asI, Int.toNat_natCast]
  refine ⟨by omega, ?_⟩
  refine forI_invq (fun k e' S' => S' = S ∧ (∀ j, j < k → st.cs.getD j 0 ≠ 0) ∧ ∃ x1, e' = [some (.ref a), x1]) ⟨rfl, fun j hj => by omega, _, rfl⟩ (fun _ _ _ _ => trivial) ?_ ?_
  · rintro k d e' S' hi ⟨rfl, hno, y1, rfl⟩ q hq hrt _ _ _
    obtain ⟨hkl, rfl⟩ := rngD_get hi
    rw [Int.zero_add]
    simp only [gN, setV, wIf, wTest, wBin, wFld, wVar, wC, getV, some!, F.f2, F.iC k hkl, oEq, shD_int, eqD_int, true_and, decide_eq_true_eq]
    by_cases y : ((st.cs.getD k 0 : Nat) : Int) = 0
    · rw [if_pos y]
      have hf := find_first hno hkl (by omega)
      unfold Out takeF at h
      rw [hf] at h
      dsimp only at h
      refine seq_k fun q2 n2 r2 _ _ x2 => ?_
      simp only [wSetI, wFld, wVar, wC, getV, some!, F.f2]
      refine setIx_at hA.hc (by rw [List.length_map]; exact ixN_in (by omega) (by omega)) ?_
      rw [Int.toNat_natCast]
      have es : (st.cs.map fun (n : Nat) => D.int (n : Nat)).set k (.int 1) = (st.cs.set k 1).map fun (n : Nat) => D.int (n : Nat) := cs_set (v := 1)
      rw [es]
      refine n2 _ _ ?_
      simp only [wRet, wVar, getV, some!]
      rw [hrt, r1]
      exact h _ (st_C hA) fun x m h1 _ z => (put_ne h1).trans z
    · rw [if_neg y]
      simp only [wNext]
      refine hq _ _ ⟨rfl, fun j hj => ?_, _, rfl⟩
      rcases (show j < k ∨ j = k by omega) with w | rfl
      · exact hno j w
      · omega
  · rintro e' S' ⟨rfl, hno, y1, rfl⟩
    rw [rngD_length] at hno
    refine n1 _ _ ?_
    have hf := find_none hno
    unfold Out takeF at h
    rw [hf] at h
    simp only [wRaise, wMkE, wC]
    exact h
theorem len_Store_hold (c : Cl) : ∀ ds S Q E, sp_Store_hold c ds S Q E → ds.length = 2 := by
  rintro ds S Q E ⟨_, _, _, _, _, _, _, rfl, _⟩; rfl
theorem atI_cs {cs : List Nat} {b : Nat} (h : b < cs.length) : atI (cs.map fun (n : Nat) => D.int (n : Nat)) ((b : Nat) : Int) = some (.int (cs.getD b 0 : Nat)) := at_k (cs_at h)
theorem rd_Store_hold (c : Cl) : ∀ ds S Q X1, sp_Store_hold c ds S Q X1 → w_Store_hold c (startD N_Store_hold_ ds) S (endQ Q X1) := by
  rintro ds S Q X1 ⟨a, pC, pK, z, st, d, v, rfl, hA, hk, h⟩
  show w_Store_hold c [some (.ref a), some d] S (endQ Q X1)
  unfold w_Store_hold
  have F := stF hA
  refine seq_k fun q1 n1 r1 _ _ x1 => ?_
  simp only [wDrop, wMeth, wCons, wNil, wVar, getV, some!]
  refine ⟨isSt hA.ob, a, pC, pK, z, st, d, rfl, hA, hk, fun hh => n1 _ _ ?_, fun hh => ?_⟩
  · obtain ⟨b, e, rfl, hb, h0⟩ := held_of hh
    rw [step_yes e h0 (by decide) (by decide)] at h
    simp only [wAugI, wFld, wVar, wC, getV, some!, F.f2, mutL, hA.hc, atI_cs hb, oI0]
    refine ⟨by omega, setIx_at hA.hc (by rw [List.length_map]; exact ixN_in (by omega) (by omega)) ?_⟩
    rw [Int.toNat_natCast, show ((st.cs.getD b 0 : Nat) : Int) + 1 = ((st.cs.getD b 0 + 1 : Nat) : Int) by omega, cs_set]
    exact h _ (st_C hA) fun x m h1 _ z => (put_ne h1).trans z
  · rw [step_no hh (by decide) (by decide)] at h
    show q1.xc c.NotHeld [("block", d)] _ S
    rw [x1]; exact h
theorem len_Store_release (c : Cl) : ∀ ds S Q E, sp_Store_release c ds S Q E → ds.length = 2 := by
  rintro ds S Q E ⟨_, _, _, _, _, _, _, rfl, _⟩; rfl
theorem rd_Store_release (c : Cl) : ∀ ds S Q X1, sp_Store_release c ds S Q X1 → w_Store_release c (startD N_Store_release_ ds) S (endQ Q X1) := by
  rintro ds S Q X1 ⟨a, pC, pK, z, st, d, v, rfl, hA, hk, h⟩
  show w_Store_release c [some (.ref a), some d] S (endQ Q X1)
  unfold w_Store_release
  have F := stF hA
  refine seq_k fun q1 n1 r1 _ _ x1 => ?_
  simp only [wDrop, wMeth, wCons, wNil, wVar, getV, some!]
  refine ⟨isSt hA.ob, a, pC, pK, z, st, d, rfl, hA, hk, fun hh => n1 _ _ ?_, fun hh => ?_⟩
  · obtain ⟨b, e, rfl, hb, h0⟩ := held_of hh
    rw [step_yes e h0 (by decide) (by decide)] at h
    refine seq_k fun q2 n2 r2 _ _ x2 => ?_
    simp only [wAugI, wFld, wVar, wC, getV, some!, F.f2, mutL, hA.hc, atI_cs hb, oSub, oI0]
    refine ⟨by omega, setIx_at hA.hc (by rw [List.length_map]; exact ixN_in (by omega) (by omega)) ?_⟩
    rw [Int.toNat_natCast, show ((st.cs.getD b 0 : Nat) : Int) - 1 = ((st.cs.getD b 0 - 1 : Nat) : Int) by omega, cs_set]
    refine n2 _ _ ?_
    have hA1 := st_C (b := b) (v := st.cs.getD b 0 - 1) hA
    have fr1 : ∀ x m, x ≠ pC → x ≠ pK → S x = some m → put S pC (.lst ((st.cs.set b (st.cs.getD b 0 - 1)).map fun (n : Nat) => D.int (n : Nat))) x = some m := fun x m h1 _ z => (put_ne h1).trans z
    generalize put S pC (.lst ((st.cs.set b (st.cs.getD b 0 - 1)).map fun (n : Nat) => D.int (n : Nat))) = S1 at hA1 fr1
    have F1 := stF hA1
    have hb1 : b < (⟨st.cs.set b (st.cs.getD b 0 - 1), st.ks⟩ : StV).cs.length := by show b < (st.cs.set b _).length; rw [List.length_set]; exact hb
    have eg : (st.cs.set b (st.cs.getD b 0 - 1)).getD b 0 = st.cs.getD b 0 - 1 := by
      rw [List.getD_eq_getElem?_getD, List.getElem?_set_self hb]; rfl
    have i1 := F1.iC b hb1
    rw [show (⟨st.cs.set b (st.cs.getD b 0 - 1), st.ks⟩ : StV).cs.getD b 0 = st.cs.getD b 0 - 1 from eg] at i1
    unfold Out stepB at h
    dsimp only at h
    simp only [wIf, wTest, wBin, wFld, wVar, wC, getV, some!, F1.f2, i1, oEq, shD_int, eqD_int, true_and, decide_eq_true_eq]
    by_cases y : ((st.cs.getD b 0 - 1 : Nat) : Int) = 0
    · rw [if_pos y]
      rw [if_pos (by omega)] at h
      simp only [wSetI, wTup, wNil, wFld, wVar, getV, some!, F1.f3]
      refine ⟨show 0 ≤ sizeLine by decide, setIx_at hA1.hk (by rw [List.length_map, hA1.ok.lk]; exact ixN_in (by omega) (by show ((b : Nat) : Int) < (((st.cs.set b _).length : Nat) : Int); rw [List.length_set]; omega)) ?_⟩
      rw [Int.toNat_natCast]
      have es : (st.ks.map fun (rs : List Rw) => D.tup (rs.map dRw)).set b (.tup []) = (st.ks.set b []).map fun (rs : List Rw) => D.tup (rs.map dRw) := ks_set (v := [])
      rw [es]
      exact h _ (st_K hA1 (Nat.zero_le _)) fun x m h1 h2 z => (put_ne h2).trans (fr1 x m h1 h2 z)
    · rw [if_neg y]
      rw [if_neg (by omega)] at h
      simp only [wNext]
      exact h _ hA1 fr1
  · rw [step_no hh (by decide) (by decide)] at h
    show q1.xc c.NotHeld [("block", d)] _ S
    rw [x1]; exact h

end K12

set_option Elab.async false
set_option linter.all false
set_option maxRecDepth 100000
set_option maxHeartbeats 1000000

namespace K12
open PySem PySem.Spec PyProof.Rows L2 DL
theorem alone_of {st : StV} {b : Nat} (e : blk st.cs.length (.int (b : Nat)) = some b) : aloneF st (.int (b : Nat)) = decide (st.cs.getD b 0 ≤ 1) := by
  unfold aloneF; rw [e]
theorem len_Store_put_row (c : Cl) : ∀ ds S Q E, sp_Store_put_row c ds S Q E → ds.length = 3 := by
  rintro ds S Q E ⟨_, _, _, _, _, _, _, _, rfl, _⟩; rfl
theorem rd_Store_put_row (c : Cl) : ∀ ds S Q X1, sp_Store_put_row c ds S Q X1 → w_Store_put_row c (startD N_Store_put_row_ ds) S (endQ Q X1) := by
  rintro ds S Q X1 ⟨a, pC, pK, z, st, d, rd, r, rfl, hA, hk, hrow, h⟩
  show w_Store_put_row c [some (.ref a), some d, some rd] S (endQ Q X1)
  unfold w_Store_put_row
  have F := stF hA
  refine seq_k fun q1 n1 r1 _ _ x1 => ?_
  simp only [wDrop, wMeth, wCons, wNil, wVar, getV, some!]
  refine ⟨isSt hA.ob, a, pC, pK, z, st, d, rfl, hA, hk, fun hh hal => n1 _ _ ?_, fun hh => ?_, fun hh hal => ?_⟩
  · obtain ⟨b, e, rfl, hb, h0⟩ := held_of hh
    rw [alone_of e] at hal
    have hal := of_decide_eq_true hal
    rw [step_yes e h0 (by decide) (by decide)] at h
    have hbk : b < st.ks.length := by rw [hA.ok.lk]; exact hb
    have hk8 : (st.ks.getD b []).length ≤ z := hA.ok.k8 _ (by rw [List.getD_eq_getElem?_getD, List.getElem?_eq_getElem hbk]; exact List.getElem_mem _)
    have ol : ∀ Q, oLen S [.tup ((st.ks.getD b []).map dRw)] Q = Q (.int ((st.ks.getD b []).length : Nat)) S := fun Q => by rw [oLen_at (S := S) (d := .tup ((st.ks.getD b []).map dRw)) rfl, List.length_map]
    unfold Out stepB at h
    dsimp only at h
    rw [if_neg (by omega)] at h
    refine seq_k fun q2 n2 r2 _ _ x2 => ?_
    simp only [wIf, wTest, wBin, wCB, wCons, wNil, wFld, wVar, getV, some!, F.f3, F.f1, F.iK b hb, ol, oEq, shD_int, eqD_int, true_and, decide_eq_true_eq]
    by_cases y : (((st.ks.getD b []).length : Nat) : Int) = ((z : Nat) : Int)
    · rw [if_pos y]
      rw [if_pos (by omega)] at h
      simp only [wRaise, wMkE, wC]
      show q2.xc c.NoRoom [("many", .int 1)] _ S
      rw [x2]; exact h
    · rw [if_neg y]
      rw [if_neg (by omega)] at h
      simp only [wNext]
      refine n2 _ _ ?_
      have hz := hA.ok.z8
      simp only [wSetI, wBin, wTup, wCall, wCons, wNil, wFld, wVar, getV, some!, F.f3, F.iK b hb]
      refine ⟨rd, r, rfl, hrow, show 1 ≤ sizeLine by decide, ?_⟩
      show ((st.ks.getD b []).map dRw).length + [dRw r].length ≤ sizeLine ∧ _
      refine ⟨by rw [List.length_map, List.length_singleton]; unfold sizeLine; omega, ?_⟩
      simp only [F.f3]
      refine setIx_at hA.hk (by rw [List.length_map]; exact ixN_in (by omega) (by omega)) ?_
      rw [Int.toNat_natCast, show (st.ks.getD b []).map dRw ++ [dRw r] = (st.ks.getD b [] ++ [r]).map dRw by rw [List.map_append]; rfl, ks_set]
      exact h _ (st_K hA (by rw [List.length_append, List.length_singleton]; omega)) fun x m _ h2 z => (put_ne h2).trans z
  · rw [step_no hh (by decide) (by decide)] at h
    show q1.xc c.NotHeld [("block", d)] _ S
    rw [x1]; exact h
  · obtain ⟨b, e, rfl, hb, h0⟩ := held_of hh
    rw [alone_of e] at hal
    have hal := of_decide_eq_false hal
    rw [step_yes e h0 (by decide) (by decide)] at h
    unfold Out stepB at h
    dsimp only at h
    rw [if_pos (by omega)] at h
    show q1.xc c.NotAlone [("block", _)] _ S
    rw [x1]; exact h
theorem len_Store_shorten (c : Cl) : ∀ ds S Q E, sp_Store_shorten c ds S Q E → ds.length = 3 := by
  rintro ds S Q E ⟨_, _, _, _, _, _, _, rfl, _⟩; rfl
theorem rd_Store_shorten (c : Cl) : ∀ ds S Q X1, sp_Store_shorten c ds S Q X1 → w_Store_shorten c (startD N_Store_shorten_ ds) S (endQ Q X1) := by
  rintro ds S Q X1 ⟨a, pC, pK, z, st, d, v, rfl, hA, hk, hkv, h⟩
  show w_Store_shorten c [some (.ref a), some d, some v] S (endQ Q X1)
  unfold w_Store_shorten
  have F := stF hA
  refine seq_k fun q1 n1 r1 _ _ x1 => ?_
  simp only [wDrop, wMeth, wCons, wNil, wVar, getV, some!]
  refine ⟨isSt hA.ob, a, pC, pK, z, st, d, rfl, hA, hk, fun hh hal => n1 _ _ ?_, fun hh => ?_, fun hh hal => ?_⟩
  · obtain ⟨b, e, rfl, hb, h0⟩ := held_of hh
    rw [alone_of e] at hal
    have hal := of_decide_eq_true hal
    rw [step_yes e h0 (by decide) (by decide)] at h
    have hbk : b < st.ks.length := by rw [hA.ok.lk]; exact hb
    have hk8 : (st.ks.getD b []).length ≤ z := hA.ok.k8 _ (by rw [List.getD_eq_getElem?_getD, List.getElem?_eq_getElem hbk]; exact List.getElem_mem _)
    have ol : ∀ Q, oLen S [.tup ((st.ks.getD b []).map dRw)] Q = Q (.int ((st.ks.getD b []).length : Nat)) S := fun Q => by rw [oLen_at (S := S) (d := .tup ((st.ks.getD b []).map dRw)) rfl, List.length_map]
    unfold Out stepB at h
    dsimp only at h
    rw [if_neg (by omega)] at h
    refine seq_k fun q2 n2 r2 _ _ x2 => ?_
    simp only [wIf, wNot, wTest, wCall, wBin, wCB, wCons, wNil, wFld, wVar, wC, getV, some!, F.f3, F.iK b hb, ol]
    refine ⟨v, 0, _, rfl, hkv, ?_⟩
    have hin : inR 0 (((st.ks.getD b []).length : Nat) : Int) v = (blk ((st.ks.getD b []).length + 1) v).isSome := by
      rw [← blk_in]; congr 1; omega
    rw [hin]
    cases ev : blk ((st.ks.getD b []).length + 1) v with
    | none =>
      rw [ev] at h
      simp only [Option.isSome_none, Bool.not_false, if_true, wRaise, wMkE, wVar, getV, some!]
      show q2.xc c.InvalidNumber [("number", v)] _ S
      rw [x2]; exact h
    | some k =>
      rw [ev] at h
      obtain ⟨rfl, hkl⟩ := blk_some ev
      simp only [Option.isSome_some, Bool.not_true, Bool.false_eq_true, if_false, wNext]
      refine n2 _ _ ?_
      have osl : ∀ Q, oSl S (.tup ((st.ks.getD b []).map dRw)) none (some ((k : Nat) : Int)) Q = Q (.tup (((st.ks.getD b []).take k).map dRw)) S := fun Q => by
        show Q (.tup (DL.cutD ((st.ks.getD b []).map dRw) none (some ((k : Nat) : Int)))) S = _
        unfold DL.cutD
        rw [List.length_map, sIx_none, sIx_k (by omega), List.drop_zero, Nat.sub_zero, List.map_take]
      simp only [wSetI, wSl, wNoP, wP, wBin, wFld, wVar, getV, some!, F.f3, F.iK b hb, asI, osl]
      refine setIx_at hA.hk (by rw [List.length_map]; exact ixN_in (by omega) (by omega)) ?_
      rw [Int.toNat_natCast, ks_set]
      exact h _ (st_K hA (by rw [List.length_take]; omega)) fun x m _ h2 z => (put_ne h2).trans z
  · rw [step_no hh (by decide) (by decide)] at h
    show q1.xc c.NotHeld [("block", d)] _ S
    rw [x1]; exact h
  · obtain ⟨b, e, rfl, hb, h0⟩ := held_of hh
    rw [alone_of e] at hal
    have hal := of_decide_eq_false hal
    rw [step_yes e h0 (by decide) (by decide)] at h
    unfold Out stepB at h
    dsimp only at h
    rw [if_pos (by omega)] at h
    show q1.xc c.NotAlone [("block", _)] _ S
    rw [x1]; exact h
theorem len_Store_rows (c : Cl) : ∀ ds S Q E, sp_Store_rows c ds S Q E → ds.length = 2 := by
  rintro ds S Q E ⟨_, _, _, _, _, _, _, rfl, _⟩; rfl
theorem rd_Store_rows (c : Cl) : ∀ ds S Q X1, sp_Store_rows c ds S Q X1 → w_Store_rows c (startD N_Store_rows_ ds) S (endQ Q X1) := by
  rintro ds S Q X1 ⟨a, pC, pK, z, st, d, v, rfl, hA, hk, h⟩
  show w_Store_rows c [some (.ref a), some d] S (endQ Q X1)
  unfold w_Store_rows
  have F := stF hA
  refine seq_k fun q1 n1 r1 _ _ x1 => ?_
  simp only [wDrop, wMeth, wCons, wNil, wVar, getV, some!]
  refine ⟨isSt hA.ob, a, pC, pK, z, st, d, rfl, hA, hk, fun hh => n1 _ _ ?_, fun hh => ?_⟩
  · obtain ⟨b, e, rfl, hb, h0⟩ := held_of hh
    rw [step_yes e h0 (by decide) (by decide)] at h
    simp only [wRet, wBin, wFld, wVar, getV, some!, F.f3, F.iK b hb]
    exact h S hA fun x m _ _ z => z
  · rw [step_no hh (by decide) (by decide)] at h
    show q1.xc c.NotHeld [("block", d)] _ S
    rw [x1]; exact h
theorem len_Store_holders (c : Cl) : ∀ ds S Q E, sp_Store_holders c ds S Q E → ds.length = 2 := by
  rintro ds S Q E ⟨_, _, _, _, _, _, _, rfl, _⟩; rfl
theorem rd_Store_holders (c : Cl) : ∀ ds S Q X1, sp_Store_holders c ds S Q X1 → w_Store_holders c (startD N_Store_holders_ ds) S (endQ Q X1) := by
  rintro ds S Q X1 ⟨a, pC, pK, z, st, d, v, rfl, hA, hk, h⟩
  show w_Store_holders c [some (.ref a), some d] S (endQ Q X1)
  unfold w_Store_holders
  have F := stF hA
  unfold Out stepF at h
  rw [if_neg (by decide)] at h
  refine seq_k fun q1 n1 r1 _ _ x1 => ?_
  simp only [wIf, wNot, wTest, wCall, wBin, wFld, wCons, wNil, wVar, wC, getV, some!, F.f0, oSub, oI0]
  refine ⟨d, 0, ((st.cs.length : Nat) : Int) - 1, rfl, hk, ?_⟩
  rw [blk_in]
  cases e : blk st.cs.length d with
  | none =>
    rw [e] at h
    simp only [Option.isSome_none, Bool.not_false, if_true, wRaise, wMkE, wVar, getV, some!]
    show q1.xc c.NotHeld [("block", d)] _ S
    rw [x1]; exact h
  | some b =>
    obtain ⟨rfl, hb⟩ := blk_some e
    rw [e] at h
    dsimp only at h
    rw [if_pos rfl] at h
    simp only [Option.isSome_some, Bool.not_true, Bool.false_eq_true, if_false, wNext]
    refine n1 _ _ ?_
    simp only [wRet, wBin, wFld, wVar, getV, some!, F.f2, F.iC b hb]
    exact h S hA fun x m _ _ z => z
theorem len_Store_free (c : Cl) : ∀ ds S Q E, sp_Store_free c ds S Q E → ds.length = 1 := by
  rintro ds S Q E ⟨_, _, _, _, _, rfl, _⟩; rfl
/-- the counts that are nought, counted -/
theorem free_comp {st : StV} {env : DE} {S : Sto} {Q : List D → Sto → Prop} {g : Sto → Prop} {i : Nat} (hg : g S) (hi : ∀ d, getV (setV env i d) i = some d) (h : ∀ ds : List D, ds.length = freeF st → Q ds S) :
    compI (gN i) (wTest (wBin oEq (wVar i) (wC (.int 0)))) (wVar i) g env (st.cs.map fun (n : Nat) => D.int (n : Nat)) S Q := by
  refine compI_filt st.cs (fun (n : Nat) => D.int (n : Nat)) (fun (n : Nat) => D.int (n : Nat)) (· == 0) hg (fun n hn R hR => ?_) (h _ (by rw [List.length_map]; rfl))
  simp only [gN, wTest, wBin, wVar, wC, hi, some!, oEq, shD_int, eqD_int, true_and]
  by_cases y : n = 0
  · subst y
    simpa using hR
  · have y1 : ¬ ((n : Nat) : Int) = 0 := by omega
    rw [decide_eq_false y1]
    rw [if_neg (by simpa using y)] at hR
    simpa using hR
theorem rd_Store_free (c : Cl) : ∀ ds S Q X1, sp_Store_free c ds S Q X1 → w_Store_free c (startD N_Store_free_ ds) S (endQ Q X1) := by
  rintro ds S Q X1 ⟨a, pC, pK, z, st, rfl, hA, h⟩
  show w_Store_free c [some (.ref a), none] S (endQ Q X1)
  unfold w_Store_free
  have F := stF hA
  have hl := hA.ok.l1
  simp only [wRet, wCB, wCons, wNil, wLc, wIt, wFld, wVar, getV, some!, F.f2, seqA_at hA.hc, delVs, delV, List.length_map]
  refine ⟨by unfold sizeLine; omega, free_comp (st := st) (seqA_at hA.hc) (fun d => rfl) fun ds hds => ?_⟩
  have ol : ∀ Q, oLen S [.lst ds] Q = Q (.int (ds.length : Nat)) S := fun Q => oLen_at (S := S) (d := .lst ds) rfl Q
  rw [ol, hds]
  exact h
theorem len_Store_init (c : Cl) : ∀ ds S Q E, sp_Store_init c ds S Q E → ds.length = 3 := by
  rintro ds S Q E ⟨_, _, _, rfl, _⟩; rfl
theorem rd_Store_init (c : Cl) : ∀ ds S Q X1, sp_Store_init c ds S Q X1 → w_Store_init c (startD N_Store_init_ ds) S (endQ Q X1) := by
  rintro ds S Q X1 ⟨a, m, z, rfl, hm, hz, h0, h⟩
  show w_Store_init c [some (.ref a), some (.int (m : Nat)), some (.int (z : Nat)), none] S (endQ Q X1)
  unfold w_Store_init
  refine seq_k fun q1 n1 r1 _ _ x1 => ?_
  simp only [wIf, wNot, wTest, wCall, wCons, wNil, wVar, wC, getV, some!]
  refine ⟨_, 1, 60, rfl, kn_int _, ?_⟩
  rw [show inR 1 60 (.int (m : Nat)) = true from decide_eq_true (by omega)]
  simp only [Bool.not_true, Bool.false_eq_true, if_false, wNext]
  refine n1 _ _ ?_
  refine seq_k fun q2 n2 r2 _ _ x2 => ?_
  simp only [wIf, wNot, wTest, wCall, wCons, wNil, wVar, wC, getV, some!]
  refine ⟨_, 1, 8, rfl, kn_int _, ?_⟩
  rw [show inR 1 8 (.int (z : Nat)) = true from decide_eq_true (by omega)]
  simp only [Bool.not_true, Bool.false_eq_true, if_false, wNext]
  refine n2 _ _ ?_
  have fr : ∀ {S' : Sto} {m : MO}, (∀ x m, x ≠ a → S x = some m → S' x = some m) → ∀ x y, x ≠ a → S x = some y → put S' a m x = some y := fun h x y ne z => by rw [put_ne ne]; exact h x y ne z
  refine seq_k fun q3 n3 r3 _ _ x3 => ?_
  simp only [wSetF, wVar, getV, some!, setF_at h0]
  refine n3 _ _ ?_
  have f1 := fr (m := .ins c.Store N_Store (setV (noneV N_Store) 0 (.int (m : Nat)))) fun _ _ _ z => z
  have h1 : put S a (.ins c.Store N_Store (setV (noneV N_Store) 0 (.int (m : Nat)))) a = some _ := put_same
  generalize put S a (.ins c.Store N_Store (setV (noneV N_Store) 0 (.int (m : Nat)))) = S1 at f1 h1 ⊢
  refine seq_k fun q4 n4 r4 _ _ x4 => ?_
  simp only [wSetF, wVar, getV, some!, setF_at h1]
  refine n4 _ _ ?_
  generalize hx2 : setV (setV (noneV N_Store) 0 (.int (m : Nat))) 1 (.int (z : Nat)) = xs2
  have f2 := fr (m := .ins c.Store N_Store xs2) f1
  have h2 : put S1 a (.ins c.Store N_Store xs2) a = some _ := put_same
  generalize put S1 a (.ins c.Store N_Store xs2) = S2 at f2 h2 ⊢
  have inS : ∀ {S' : Sto} {x : Addr} {mm : MO}, (∀ x m, x ≠ a → S x = some m → S' x = some m) → S' a = some mm → S' x = none → S x = none := fun {S' x mm} hf ha hx => by
    cases e : S x with
    | none => rfl
    | some y =>
      by_cases q : x = a
      · rw [q, ha] at hx; cases hx
      · rw [hf x y q e] at hx; cases hx
  refine seq_k fun q5 n5 r5 _ _ x5 => ?_
  simp only [wSetF, wLcM, wRg1, wVar, wC, getV, some!, asI, delVs, delV, Int.toNat_natCast, rngD_length]
  rw [rng_eq]
  refine ⟨⟨by omega, by omega⟩, by unfold sizeLine; omega, compI_vals (List.range m) (fun (i : Nat) => D.int (i : Int)) (fun _ => .int 0) trivial (fun r hr2 R hR => ?_) fun pC hC => ?_⟩
  · simp only [gN, setV, wC]; exact hR
  have nCa : pC ≠ a := fun q => by rw [q, h2] at hC; cases hC
  have hC0 := inS f2 h2 hC
  have e1 : (List.range m).map (fun _ => D.int 0) = (List.replicate m 0).map fun (n : Nat) => D.int (n : Nat) := by
    rw [List.map_const', List.length_range, List.map_replicate]; rfl
  rw [e1]
  have hC2 : put S2 pC (.lst ((List.replicate m 0).map fun (n : Nat) => D.int (n : Nat))) pC = some _ := put_same
  have h3 : put S2 pC (.lst ((List.replicate m 0).map fun (n : Nat) => D.int (n : Nat))) a = _ := (put_ne (Ne.symm nCa)).trans h2
  have f3 : ∀ x m', x ≠ a → S x = some m' → put S2 pC (.lst ((List.replicate m 0).map fun (n : Nat) => D.int (n : Nat))) x = some m' := fun x m' ne zz => (put_ne (fun q => by rw [q, hC0] at zz; cases zz)).trans (f2 x m' ne zz)
  generalize put S2 pC (.lst ((List.replicate m 0).map fun (n : Nat) => D.int (n : Nat))) = S3 at hC2 h3 f3 ⊢
  simp only [setF_at h3]
  refine n5 _ _ ?_
  generalize hx3 : setV xs2 2 (.ref pC) = xs3
  have hC4 : put S3 a (.ins c.Store N_Store xs3) pC = _ := (put_ne nCa).trans hC2
  have f4 := fr (m := .ins c.Store N_Store xs3) f3
  have h4 : put S3 a (.ins c.Store N_Store xs3) a = some _ := put_same
  generalize put S3 a (.ins c.Store N_Store xs3) = S4 at f4 h4 hC4 ⊢
  simp only [wSetF, wLcM, wRg1, wVar, wTup, wNil, getV, some!, asI, delVs, delV, Int.toNat_natCast, rngD_length]
  rw [rng_eq]
  refine ⟨⟨by omega, by omega⟩, by unfold sizeLine; omega, compI_vals (List.range m) (fun (i : Nat) => D.int (i : Int)) (fun _ => .tup []) trivial (fun r hr2 R hR => ?_) fun pK hK => ?_⟩
  · simp only [gN, setV]; exact ⟨show 0 ≤ sizeLine by decide, hR⟩
  have nKa : pK ≠ a := fun q => by rw [q, h4] at hK; cases hK
  have nKC : pC ≠ pK := fun q => by rw [← q, hC4] at hK; cases hK
  have hK0 := inS f4 h4 hK
  have e2 : (List.range m).map (fun _ => D.tup []) = (List.replicate m []).map fun (rs : List Rw) => D.tup (rs.map dRw) := by
    rw [List.map_const', List.length_range, List.map_replicate]; rfl
  rw [e2]
  have hK5 : put S4 pK (.lst ((List.replicate m []).map fun (rs : List Rw) => D.tup (rs.map dRw))) pK = some _ := put_same
  have h5 : put S4 pK (.lst ((List.replicate m []).map fun (rs : List Rw) => D.tup (rs.map dRw))) a = _ := (put_ne (Ne.symm nKa)).trans h4
  have hC5 : put S4 pK (.lst ((List.replicate m []).map fun (rs : List Rw) => D.tup (rs.map dRw))) pC = _ := (put_ne nKC).trans hC4
  have f5 : ∀ x m', x ≠ a → S x = some m' → put S4 pK (.lst ((List.replicate m []).map fun (rs : List Rw) => D.tup (rs.map dRw))) x = some m' := fun x m' ne zz => (put_ne (fun q => by rw [q, hK0] at zz; cases zz)).trans (f4 x m' ne zz)
  generalize put S4 pK (.lst ((List.replicate m []).map fun (rs : List Rw) => D.tup (rs.map dRw))) = S5 at hC5 hK5 h5 f5 ⊢
  simp only [setF_at h5]
  refine h pC pK _ hC0 hK0 ⟨⟨?_, ?_, hz, fun k hk => ?_⟩, ?_, (put_ne nCa).trans hC5, (put_ne nKa).trans hK5, nKC⟩ (fr f5)
  · show 1 ≤ (List.replicate m 0).length ∧ (List.replicate m 0).length ≤ 60
    rw [List.length_replicate]; exact hm
  · show (List.replicate m ([] : List Rw)).length = (List.replicate m 0).length
    rw [List.length_replicate, List.length_replicate]
  · have := List.eq_of_mem_replicate (show k ∈ List.replicate m ([] : List Rw) from hk)
    rw [this]; exact Nat.zero_le _
  · rw [put_same]
    subst hx3 hx2
    show some (MO.ins c.Store N_Store [some (.int (m : Nat)), some (.int (z : Nat)), some (.ref pC), some (.ref pK)]) = some (MO.ins c.Store N_Store [some (.int ((List.replicate m 0).length : Nat)), some (.int (z : Nat)), some (.ref pC), some (.ref pK)])
    rw [List.length_replicate]

end K12

set_option Elab.async false
set_option linter.all false
set_option maxRecDepth 100000
set_option maxHeartbeats 1000000

namespace K12
open PySem PySem.Spec PyProof.Rows L2 DL
theorem frz_lst {S : Sto} {x : Addr} {xs : List D} (h : S x = some (.lst xs)) (Q : Qd) : frzD S (.ref x) Q = Q (.lst xs) (del S x) := by
  show (match S x with | some (.lst xs) => _ | some (.ins C N xs) => _ | _ => False) = _
  rw [h]
theorem plR {r : Rw} (h : RowGood r) : ∀ n, plain (n + 4) (dRw r) := fun n => by
  obtain ⟨w, L, m, h1, h2, h3, h4⟩ := h
  exact plain_rw h1 h2 h3 h4
theorem len__law_some_rows (c : Cl) : ∀ ds S Q E, sp__law_some_rows c ds S Q E → ds.length = 1 := by
  rintro ds S Q E ⟨_, _, rfl, _⟩; rfl
theorem rd__law_some_rows (c : Cl) : ∀ ds S Q X1, sp__law_some_rows c ds S Q X1 → w__law_some_rows c (startD N__law_some_rows_ ds) S (endQ Q X1) := by
  rintro ds S Q X1 ⟨ns, m, rfl, hns, hm, hm2, h⟩
  show w__law_some_rows c [some (dL ns), none, none, none] S (endQ Q X1)
  unfold w__law_some_rows
  obtain ⟨v0, b0, i0⟩ := numI (S := S) hns (k := 0) (by omega)
  obtain ⟨v1, b1, i1⟩ := numI (S := S) hns (k := 1) (by omega)
  obtain ⟨v2, b2, i2⟩ := numI (S := S) hns (k := 2) (by omega)
  have i0' : ∀ Q, oIx S (dL ns) (.int 0) Q = Q (.int v0) S := i0
  have i1' : ∀ Q, oIx S (dL ns) (.int 1) Q = Q (.int v1) S := i1
  have i2' : ∀ Q, oIx S (dL ns) (.int 2) Q = Q (.int v2) S := i2
  refine seq_k fun q1 n1 r1 _ _ x1 => ?_
  simp only [wSet, wCall, wBin, wCB, wCons, wNil, wVar, wC, getV, setV, some!, i0', i1', i2', oInt, one, oMod, oI, oAdd]
  obtain ⟨L, hL⟩ : ∃ L : Nat, 1 + v0 % 3 = (L : Int) := ⟨(1 + v0 % 3).toNat, by omega⟩
  obtain ⟨w, hw⟩ : ∃ w : Nat, 1 + v1 % 2 = (w : Int) := ⟨(1 + v1 % 2).toNat, by omega⟩
  obtain ⟨k, hk⟩ : ∃ k : Nat, v2 % 2 = (k : Int) := ⟨(v2 % 2).toNat, by omega⟩
  refine ⟨by decide, by decide, by decide, ?_⟩
  rw [hL, hw, hk]
  refine ⟨ns, m, L, w, k, 97, rfl, hns, by omega, by omega, by omega, by omega, by omega, by decide, fun n hn _ S1 E1 => n1 _ _ ?_⟩
  refine seq_k fun q2 n2 r2 _ _ x2 => ?_
  simp only [wSet, wLstM, wNil, setV]
  refine ⟨show 0 ≤ sizeLine by decide, fun t ht => n2 _ _ ?_⟩
  have ht0 := ext_none E1 ht
  have E2 := ext_put (m := .lst []) E1 ht
  have hat : put S1 t (.lst []) t = some (.lst (([] : List Rw).map dRw)) := put_same
  generalize put S1 t (.lst []) = S2 at E2 hat
  refine seq_k fun q3 n3 r3 _ _ x3 => ?_
  simp only [wFor, wRg1, wC, asI]
  refine ⟨by decide, ?_⟩
  rw [show (20 : Int).toNat = 20 from rfl]
  refine forI_invq (fun k e' S' => ∃ (rs : List Rw) (x3 : Option D), rs.length = k ∧ (∀ r, r ∈ rs → RwOk w L n.layers.length r) ∧ Ext S S' ∧ S' t = some (.lst (rs.map dRw)) ∧ e' = [some (dL ns), some (dNetT n), some (.ref t), x3])
    ⟨[], none, rfl, (fun r hr => by cases hr), E2, hat, rfl⟩ (fun _ _ _ _ => trivial) ?_ ?_
  · rintro j d e' S3 hi ⟨rs, y3, hrl, hro, E3, hat3, rfl⟩ q hq _ _ _ _
    obtain ⟨hjl, rfl⟩ := rngD_get hi
    rw [Int.zero_add]
    have hjl : j < 20 := hjl
    obtain ⟨v, bv, iv⟩ := numI (S := S3) hns (k := 3 + j) (by omega)
    have iv' : ∀ Q, oIx S3 (dL ns) (.int (3 + (j : Int))) Q = Q (.int v) S3 := fun Q => by rw [show (3 + (j : Int)) = ((3 + j : Nat) : Int) by omega]; exact iv Q
    have osl : ∀ Q, oSl S3 (.ref t) none (some 5) Q = Q (.lst ((rs.take 5).map dRw)) S3 := fun Q => by
      show some! (seqL S3 (.ref t)) (fun xs => Q (.lst (DL.cutD xs none (some 5))) S3) = _
      rw [seqL_at hat3]
      show Q (.lst (DL.cutD (rs.map dRw) none (some ((5 : Nat) : Int)))) S3 = _
      congr 2
      unfold DL.cutD
      rw [List.length_map, sIx_none, List.drop_zero, Nat.sub_zero, ← List.map_take]
      congr 1
      by_cases y : 5 ≤ rs.length
      · rw [sIx_k y]
      · have hm5 : HT.sIx rs.length rs.length (some ((5 : Nat) : Int)) = rs.length := by
          have := sIx_pos (n := rs.length) (d := rs.length) (i := ((5 : Nat) : Int)) (by omega)
          rw [this]; omega
        rw [hm5, List.take_length, List.take_of_length_le (by omega)]
    have n1' : ∀ Q, oIx S3 (dNetT n) (.int 1) Q = Q (dM n.embed) S3 := fun Q => nt1
    have oe : ∀ Q, oLen S3 [dM n.embed] Q = Q (.int (L : Nat)) S3 := fun Q => by rw [oLen_at (S := S3) (d := dM n.embed) rfl, List.length_map, hn.em.1]
    have hl12 := hn.l1
    have hmod := modN (v := v) (m := (L : Int)) (by omega)
    simp only [gN, setV, wDrop, wMt, wCall, wSl, wNoP, wP, wBin, wCB, wCons, wNil, wVar, wC, getV, some!, mutL, hat3, asI, osl, oAdd, iv', oInt, one, n1', oe, oMod, oI]
    have hrk : RowsOk w L n.layers.length (rs.take 5) := ⟨by rw [List.length_take]; omega, fun r hr => hro r (List.mem_of_mem_take hr)⟩
    refine ⟨by omega, n, .lst ((rs.take 5).map dRw), rs.take 5, v % (L : Int), w, L, rfl, rfl, hn, hrk, hmod, fun S4 E4 => ?_⟩
    have hat4 := E4 _ _ hat3
    simp only [oAppend, mutL, hat4, one, List.length_map]
    refine ⟨by unfold sizeLine; omega, hq _ _ ⟨rs ++ [rowF n (rs.take 5) (v % (L : Int))], _, by rw [List.length_append, List.length_singleton, hrl], fun r hr => ?_, ext_chg (ext_trans E3 E4) ht0, by rw [put_same, List.map_append]; rfl, rfl⟩⟩
    rcases List.mem_append.mp hr with y | y
    · exact hro r y
    · rw [List.mem_singleton] at y; subst y
      exact row_ok hn hrk hmod
  · rintro e' S3 ⟨rs, y3, hrl, hro, E3, hat3, rfl⟩
    refine n3 _ _ ?_
    simp only [wRet, wFrz, wVar, getV, some!, frz_lst hat3]
    refine h rs _ hrl (fun r hr => ⟨w, L, n.layers.length, hro r hr, hn.w1.2, hn.l1.2, hn.la.1⟩) (ext_del E3 ht0)
/-! ### the law's own store -/
theorem la_ix {S : Sto} {sC sK : Addr} : (∀ Q, oIx S (dSt sC sK) (.int 0) Q = Q (.ref sC) S) ∧ (∀ Q, oIx S (dSt sC sK) (.int 1) Q = Q (.ref sK) S) :=
  ⟨oIx_eq (show seqA S (dSt sC sK) = some [.ref sC, .ref sK] from rfl) rfl, oIx_eq (show seqA S (dSt sC sK) = some [.ref sC, .ref sK] from rfl) rfl⟩
theorem la_C {S : Sto} {sC sK : Addr} {rs : List Addr} {st : StV} (h : LaAt S sC sK rs st) {b : Nat} (hb : b < st.cs.length) (Q : Qd) : oIx S (.ref sC) (.int (b : Nat)) Q = Q (.int (st.cs.getD b 0 : Nat)) S := oIx_eq (seqA_at h.hc) (at_k (cs_at hb)) Q
theorem la_len {S : Sto} {sC sK : Addr} {rs : List Addr} {st : StV} (h : LaAt S sC sK rs st) (Q : Qd) : oLen S [.ref sC] Q = Q (.int (st.cs.length : Nat)) S := by rw [oLen_at (seqA_at h.hc), List.length_map]
theorem la_nd {S : Sto} {sC sK : Addr} {rs : List Addr} {st : StV} (h : LaAt S sC sK rs st) : sC ≠ sK ∧ sC ∉ rs ∧ sK ∉ rs ∧ rs.Nodup := by
  have := h.nd
  simp only [List.nodup_cons, List.mem_cons, not_or] at this
  exact ⟨this.1.1, this.1.2, this.2.1, this.2.2⟩
theorem la_setC {S : Sto} {sC sK : Addr} {rs : List Addr} {st : StV} {b v : Nat} (h : LaAt S sC sK rs st) : LaAt (put S sC (.lst ((st.cs.set b v).map fun (n : Nat) => D.int (n : Nat)))) sC sK rs ⟨st.cs.set b v, st.ks⟩ := by
  obtain ⟨n1, n2, n3, n4⟩ := la_nd h
  refine ⟨put_same, (put_ne (Ne.symm n1)).trans h.hk, h.len, fun i r k hr hk => (put_ne (show r ≠ sC from fun z => n2 (z ▸ List.mem_of_getElem? hr))).trans (h.el i r k hr hk), h.nd⟩
theorem len__law_lowest (c : Cl) : ∀ ds S Q E, sp__law_lowest c ds S Q E → ds.length = 1 := by
  rintro ds S Q E ⟨_, _, _, _, rfl, _⟩; rfl
theorem rd__law_lowest (c : Cl) : ∀ ds S Q X1, sp__law_lowest c ds S Q X1 → w__law_lowest c (startD N__law_lowest_ ds) S (endQ Q X1) := by
  rintro ds S Q X1 ⟨sC, sK, rs, st, rfl, hA, h60, h⟩
  show w__law_lowest c [some (dSt sC sK), none] S (endQ Q X1)
  unfold w__law_lowest
  obtain ⟨i0, i1⟩ := la_ix (S := S) (sC := sC) (sK := sK)
  refine seq_k fun q1 n1 r1 _ _ x1 => ?_
  simp only [wFor, wRg1, wCB, wBin, wCons, wNil, wC, wVar, getV, some!, i0, la_len hA, asI, Int.toNat_natCast]
  refine ⟨by omega, ?_⟩
  refine forI_invq (fun k e' S' => S' = S ∧ (∀ j, j < k → st.cs.getD j 0 ≠ 0) ∧ ∃ x1, e' = [some (dSt sC sK), x1]) ⟨rfl, fun j hj => by omega, _, rfl⟩ (fun _ _ _ _ => trivial) ?_ ?_
  · rintro k d e' S' hi ⟨rfl, hno, y1, rfl⟩ q hq hrt _ _ _
    obtain ⟨hkl, rfl⟩ := rngD_get hi
    rw [Int.zero_add]
    simp only [gN, setV, wIf, wTest, wBin, wVar, wC, getV, some!, i0, la_C hA hkl, oEq, shD_int, eqD_int, true_and, decide_eq_true_eq]
    by_cases y : ((st.cs.getD k 0 : Nat) : Int) = 0
    · rw [if_pos y]
      rw [find_first hno hkl (by omega)] at h
      simp only [wRet, wVar, getV, some!]
      rw [hrt, r1]
      exact h
    · rw [if_neg y]
      simp only [wNext]
      refine hq _ _ ⟨rfl, fun j hj => ?_, _, rfl⟩
      rcases (show j < k ∨ j = k by omega) with w | rfl
      · exact hno j w
      · omega
  · rintro e' S' ⟨rfl, hno, y1, rfl⟩
    rw [rngD_length] at hno
    refine n1 _ _ ?_
    rw [find_none hno] at h
    simp only [wRet, wC]
    exact h
theorem find_lt {cs : List Nat} {i : Nat} (h : cs.findIdx? (· == 0) = some i) : i < cs.length := by
  rw [List.findIdx?_eq_some_iff_getElem] at h
  exact h.1
theorem len__law_take (c : Cl) : ∀ ds S Q E, sp__law_take c ds S Q E → ds.length = 1 := by
  rintro ds S Q E ⟨_, _, _, _, rfl, _⟩; rfl
theorem rd__law_take (c : Cl) : ∀ ds S Q X1, sp__law_take c ds S Q X1 → w__law_take c (startD N__law_take_ ds) S (endQ Q X1) := by
  rintro ds S Q X1 ⟨sC, sK, rs, st, rfl, hA, h60, h⟩
  show w__law_take c [some (dSt sC sK), none] S (endQ Q X1)
  unfold w__law_take
  obtain ⟨i0, i1⟩ := la_ix (S := S) (sC := sC) (sK := sK)
  refine seq_k fun q1 n1 r1 _ _ x1 => ?_
  simp only [wSet, wCall, wCons, wNil, wVar, getV, setV, some!]
  refine ⟨sC, sK, rs, st, rfl, hA, h60, n1 _ _ ?_⟩
  unfold takeF at h
  refine seq_k fun q2 n2 r2 _ _ x2 => ?_
  cases e : st.cs.findIdx? (· == 0) with
  | none =>
    rw [e] at h
    simp only [wIf, wTest, wBin, wVar, wC, getV, some!, oNotN, DL.isNon, Bool.not_true, Bool.false_eq_true, if_false, wNext]
    refine n2 _ _ ?_
    simp only [wRet, wVar, getV, some!]
    exact h S hA fun x m _ z => z
  | some i =>
    rw [e] at h
    have hi := find_lt e
    simp only [wIf, wTest, wBin, wVar, wC, getV, some!, oNotN, DL.isNon, Bool.not_false, if_true, wSetI, i0]
    refine setIx_at hA.hc (by rw [List.length_map]; exact ixN_in (by omega) (by omega)) ?_
    rw [Int.toNat_natCast]
    have es : (st.cs.map fun (n : Nat) => D.int (n : Nat)).set i (.int 1) = (st.cs.set i 1).map fun (n : Nat) => D.int (n : Nat) := cs_set (v := 1)
    rw [es]
    refine n2 _ _ ?_
    simp only [wRet, wVar, getV, some!]
    exact h _ (la_setC hA) fun x m hx z => (put_ne hx).trans z
theorem len__law_release (c : Cl) : ∀ ds S Q E, sp__law_release c ds S Q E → ds.length = 2 := by
  rintro ds S Q E ⟨_, _, _, _, _, rfl, _⟩; rfl
theorem nodup_set {x : Addr} : ∀ {l : List Addr} {b : Nat}, l.Nodup → x ∉ l → (l.set b x).Nodup
  | [], _, h, _ => h
  | y :: r, 0, h, hx => by
    rw [List.nodup_cons] at h
    show (x :: r).Nodup
    rw [List.nodup_cons]
    exact ⟨fun q => hx (List.mem_cons_of_mem _ q), h.2⟩
  | y :: r, b + 1, h, hx => by
    rw [List.nodup_cons] at h
    show (y :: r.set b x).Nodup
    rw [List.nodup_cons]
    refine ⟨fun q => ?_, nodup_set h.2 fun q => hx (List.mem_cons_of_mem _ q)⟩
    rcases List.mem_or_eq_of_mem_set q with z | z
    · exact h.1 z
    · exact hx (z ▸ List.mem_cons_self)
/-- a block's rows are another list from now on -/
theorem la_setK {S : Sto} {sC sK r' : Addr} {rs : List Addr} {st : StV} {b : Nat} {k' : List Rw} (h : LaAt S sC sK rs st) (hr : S r' = some (.lst (k'.map dRw))) (hn : r' ≠ sC ∧ r' ≠ sK ∧ r' ∉ rs) : LaAt (put S sK (.lst ((rs.set b r').map D.ref))) sC sK (rs.set b r') ⟨st.cs, st.ks.set b k'⟩ := by
  obtain ⟨n1, n2, n3, n4⟩ := la_nd h
  refine ⟨(put_ne n1).trans h.hc, put_same, by rw [List.length_set, List.length_set]; exact h.len, fun i r k hi hk => ?_, ?_⟩
  · rw [List.getElem?_set] at hi
    rw [List.getElem?_set] at hk
    by_cases z : b = i
    · subst z
      rw [if_pos rfl] at hi hk
      by_cases y : b < rs.length
      · rw [if_pos y] at hi
        rw [if_pos (by rw [← h.len]; exact y)] at hk
        obtain rfl := Option.some.inj hi
        obtain rfl := Option.some.inj hk
        exact (put_ne hn.2.1).trans hr
      · rw [if_neg y] at hi; cases hi
    · rw [if_neg z] at hi hk
      exact (put_ne (show r ≠ sK from fun q => n3 (q ▸ List.mem_of_getElem? hi))).trans (h.el i r k hi hk)
  · have hs : ∀ x, x ∈ rs.set b r' → x ∈ rs ∨ x = r' := fun x hx => List.mem_or_eq_of_mem_set hx
    have nds : (rs.set b r').Nodup := nodup_set n4 hn.2.2
    simp only [List.nodup_cons, List.mem_cons, not_or]
    refine ⟨⟨n1, fun q => ?_⟩, fun q => ?_, nds⟩
    · rcases hs _ q with y | y
      · exact n2 y
      · exact hn.1 y.symm
    · rcases hs _ q with y | y
      · exact n3 y
      · exact hn.2.1 y.symm
theorem la_some {S : Sto} {sC sK x : Addr} {rs : List Addr} {st : StV} (h : LaAt S sC sK rs st) (hx : S x = none) : x ≠ sC ∧ x ≠ sK ∧ x ∉ rs := by
  refine ⟨(fun z => by rw [z, h.hc] at hx; cases hx), (fun z => by rw [z, h.hk] at hx; cases hx), fun z => ?_⟩
  obtain ⟨i, hi⟩ := List.mem_iff_getElem?.mp z
  have hl := lt_of_some hi
  rw [h.el i x _ hi (List.getElem?_eq_getElem (by rw [← h.len]; exact hl))] at hx
  cases hx
theorem rd__law_release (c : Cl) : ∀ ds S Q X1, sp__law_release c ds S Q X1 → w__law_release c (startD N__law_release_ ds) S (endQ Q X1) := by
  rintro ds S Q X1 ⟨sC, sK, rs, st, b, rfl, hA, hb, hlk, h1, h⟩
  show w__law_release c [some (dSt sC sK), some (.int (b : Nat))] S (endQ Q X1)
  unfold w__law_release
  obtain ⟨i0, i1⟩ := la_ix (S := S) (sC := sC) (sK := sK)
  refine seq_k fun q1 n1 r1 _ _ x1 => ?_
  simp only [wSetI, wBin, wC, wVar, getV, some!, i0, la_C hA hb, oSub, oI0]
  refine setIx_at hA.hc (by rw [List.length_map]; exact ixN_in (by omega) (by omega)) ?_
  rw [Int.toNat_natCast, show ((st.cs.getD b 0 : Nat) : Int) - 1 = ((st.cs.getD b 0 - 1 : Nat) : Int) by omega, cs_set]
  refine n1 _ _ ?_
  have hA1 := la_setC (b := b) (v := st.cs.getD b 0 - 1) hA
  have fr1 : ∀ x m, x ≠ sC → S x = some m → put S sC (.lst ((st.cs.set b (st.cs.getD b 0 - 1)).map fun (n : Nat) => D.int (n : Nat))) x = some m := fun x m h1 z => (put_ne h1).trans z
  have nn1 : ∀ x, put S sC (.lst ((st.cs.set b (st.cs.getD b 0 - 1)).map fun (n : Nat) => D.int (n : Nat))) x = none → S x = none := fun x hx => by
    cases e : S x with
    | none => rfl
    | some m =>
      by_cases q : x = sC
      · rw [q, put_same] at hx; cases hx
      · rw [fr1 x m q e] at hx; cases hx
  generalize put S sC (.lst ((st.cs.set b (st.cs.getD b 0 - 1)).map fun (n : Nat) => D.int (n : Nat))) = S1 at hA1 fr1 nn1
  have eg : (st.cs.set b (st.cs.getD b 0 - 1)).getD b 0 = st.cs.getD b 0 - 1 := by
    rw [List.getD_eq_getElem?_getD, List.getElem?_set_self hb]; rfl
  obtain ⟨i0, i1⟩ := la_ix (S := S1) (sC := sC) (sK := sK)
  have ic : ∀ Q, oIx S1 (.ref sC) (.int (b : Nat)) Q = Q (.int (st.cs.getD b 0 - 1 : Nat)) S1 := fun Q => by
    have := la_C hA1 (b := b) (by show b < (st.cs.set b _).length; rw [List.length_set]; exact hb) Q
    rw [this]
    show Q (.int ((st.cs.set b (st.cs.getD b 0 - 1)).getD b 0 : Nat)) S1 = _
    rw [eg]
  simp only [wIf, wTest, wBin, wVar, wC, getV, some!, i0, ic, oEq, shD_int, eqD_int, true_and, decide_eq_true_eq]
  by_cases y : ((st.cs.getD b 0 - 1 : Nat) : Int) = 0
  · rw [if_pos y]
    rw [if_pos (by omega)] at h
    simp only [wSetI, wLstM, wNil, wBin, wVar, wC, getV, some!]
    refine ⟨show 0 ≤ sizeLine by decide, fun r' hr' => ?_⟩
    have hfr := la_some hA1 hr'
    have E2 := ext_put (m := .lst []) (ext_refl S1) hr'
    have hr2 : put S1 r' (.lst []) r' = some (.lst (([] : List Rw).map dRw)) := put_same
    have hA2 : LaAt (put S1 r' (.lst [])) sC sK rs ⟨st.cs.set b (st.cs.getD b 0 - 1), st.ks⟩ := ⟨E2 _ _ hA1.hc, E2 _ _ hA1.hk, hA1.len, fun i r k h1 h2 => E2 _ _ (hA1.el i r k h1 h2), hA1.nd⟩
    generalize put S1 r' (.lst []) = S2 at E2 hr2 hA2
    obtain ⟨j0, j1⟩ := la_ix (S := S2) (sC := sC) (sK := sK)
    simp only [j1]
    refine setIx_at hA2.hk (by rw [List.length_map, hA2.len]; exact ixN_in (by omega) (by show ((b : Nat) : Int) < ((st.ks.length : Nat) : Int); omega)) ?_
    rw [Int.toNat_natCast, show (rs.map D.ref).set b (.ref r') = (rs.set b r').map D.ref from (List.map_set ..).symm]
    refine h _ _ (la_setK hA2 hr2 hfr) (fun x m hx1 hx2 z => (put_ne hx2).trans (E2 _ _ (fr1 x m hx1 z))) fun x hx => ?_
    rcases List.mem_or_eq_of_mem_set hx with q | rfl
    · exact .inl q
    · exact .inr (nn1 _ hr')
  · rw [if_neg y]
    rw [if_neg (by omega)] at h
    simp only [wNext]
    exact h rs S1 hA1 (fun x m hx1 _ z => fr1 x m hx1 z) fun x hx => .inl hx
theorem len__law_is_integer (c : Cl) : ∀ ds S Q E, sp__law_is_integer c ds S Q E → ds.length = 3 := by
  rintro ds S Q E ⟨_, _, _, rfl, _⟩; rfl
theorem rd__law_is_integer (c : Cl) : ∀ ds S Q X1, sp__law_is_integer c ds S Q X1 → w__law_is_integer c (startD N__law_is_integer_ ds) S (endQ Q X1) := rd_is_between c
theorem len__law_free (c : Cl) : ∀ ds S Q E, sp__law_free c ds S Q E → ds.length = 1 := by
  rintro ds S Q E ⟨_, _, _, _, rfl, _⟩; rfl
theorem rd__law_free (c : Cl) : ∀ ds S Q X1, sp__law_free c ds S Q X1 → w__law_free c (startD N__law_free_ ds) S (endQ Q X1) := by
  rintro ds S Q X1 ⟨sC, sK, rs, st, rfl, hA, h60, h⟩
  show w__law_free c [some (dSt sC sK), none] S (endQ Q X1)
  unfold w__law_free
  obtain ⟨i0, i1⟩ := la_ix (S := S) (sC := sC) (sK := sK)
  simp only [wRet, wCB, wCons, wNil, wLc, wIt, wBin, wC, wVar, getV, some!, i0, seqA_at hA.hc, delVs, delV, List.length_map]
  refine ⟨by unfold sizeLine; omega, free_comp (st := st) (seqA_at hA.hc) (fun d => rfl) fun ds hds => ?_⟩
  have ol : ∀ Q, oLen S [.lst ds] Q = Q (.int (ds.length : Nat)) S := fun Q => oLen_at (S := S) (d := .lst ds) rfl Q
  rw [ol, hds]
  exact h
def oddL (L n : Int) : List D := [.int (-1), .int L, .bl true, .bl false, .non, .str "0", .tup [.int 0], .lst [.int 0], .int ((10 : Int) ^ Int.toNat 30), .tup [], .str "", .int (-((10 : Int) ^ Int.toNat 20)), .int (L + n)]
theorem numA {ns : Vec} {m k : Nat} (hns : NumsOk m ns) (h : k < m) : ∃ v, (0 ≤ v ∧ v < 1000) ∧ ∀ S Q, oIx S (dL ns) (.int (k : Int)) Q = Q (.int v) S := by
  obtain ⟨v, hv⟩ : ∃ v, ns[k]? = some v := ⟨_, List.getElem?_eq_getElem (by rw [hns.1]; exact h)⟩
  exact ⟨v, hns.2 v (List.mem_of_getElem? hv), fun S Q => oIx_eq (xs := ns.map D.int) rfl (at_k (by rw [List.getElem?_map, hv]; rfl)) Q⟩
theorem fine_e : Fine (.str "") := ⟨fun S => ⟨_, rfl⟩, fun S => ⟨⟨by show (PyData.str "").canLay0 = true; decide +kernel, by show (PyData.str "").depth ≤ 8; decide +kernel⟩, rfl, by show ((PyData.str "").shown).length ≤ sizeLine; decide +kernel⟩, fun S => by show PyData.strOk (PyData.str "").shown = true; decide +kernel⟩
theorem fine_t : Fine (.tup []) := ⟨fun S => ⟨_, rfl⟩, fun S => ⟨⟨by show (PyData.tuple []).canLay0 = true; decide +kernel, by show (PyData.tuple []).depth ≤ 8; decide +kernel⟩, by show (PyData.tuple []).showable = true; decide +kernel, by show ((PyData.tuple []).shown).length ≤ sizeLine; decide +kernel⟩, fun S => by show PyData.strOk (PyData.tuple []).shown = true; decide +kernel⟩
theorem odd_at {L n q : Int} (hL : 1 ≤ L ∧ L ≤ 60) (hn : 0 ≤ n ∧ n < 1000) (h : 0 ≤ q ∧ q < 13) : ∃ d, atI (oddL L n) q = some d ∧ Fine d := by
  have e : q = 0 ∨ q = 1 ∨ q = 2 ∨ q = 3 ∨ q = 4 ∨ q = 5 ∨ q = 6 ∨ q = 7 ∨ q = 8 ∨ q = 9 ∨ q = 10 ∨ q = 11 ∨ q = 12 := by omega
  rcases e with rfl | rfl | rfl | rfl | rfl | rfl | rfl | rfl | rfl | rfl | rfl | rfl | rfl
  · exact ⟨_, rfl, fine_small (by decide)⟩
  · exact ⟨_, rfl, fine_small (by omega)⟩
  · exact ⟨_, rfl, fine_bl _⟩
  · exact ⟨_, rfl, fine_bl _⟩
  · exact ⟨_, rfl, fine_non⟩
  · exact ⟨_, rfl, fine_str⟩
  · exact ⟨_, rfl, fine_t0⟩
  · exact ⟨_, rfl, fine_l0⟩
  · exact ⟨_, rfl, fine_int (by decide +kernel)⟩
  · exact ⟨_, rfl, fine_t⟩
  · exact ⟨_, rfl, fine_e⟩
  · exact ⟨_, rfl, fine_int (by decide +kernel)⟩
  · exact ⟨_, rfl, fine_small (by omega)⟩
theorem len__law_odd (c : Cl) : ∀ ds S Q E, sp__law_odd c ds S Q E → ds.length = 3 := by
  rintro ds S Q E ⟨_, _, _, _, rfl, _⟩; rfl
theorem rd__law_odd (c : Cl) : ∀ ds S Q X1, sp__law_odd c ds S Q X1 → w__law_odd c (startD N__law_odd_ ds) S (endQ Q X1) := by
  rintro ds S Q X1 ⟨ns, m, k, L, rfl, hns, hk, hm, hL, h⟩
  show w__law_odd c [some (dL ns), some (.int (k : Nat)), some (.int (L : Nat)), none] S (endQ Q X1)
  unfold w__law_odd
  refine seq_k fun q1 n1 r1 _ _ x1 => ?_
  simp only [wSet, wLstM, wLst, wTup, wUn, wBin, wCons, wNil, wVar, wC, getV, setV, some!, oNeg, oPow, oI]
  refine ⟨show 1 ≤ sizeLine by decide, show 1 ≤ sizeLine by decide, by unfold CPow; decide, show 0 ≤ sizeLine by decide, by unfold CPow; decide, show 12 ≤ sizeLine by decide, fun t ht => n1 _ _ ?_⟩
  obtain ⟨v0, b0, i0⟩ := numA hns (k := k) (by omega)
  obtain ⟨v1, b1, i1⟩ := numA hns (k := k + 1) (by omega)
  have i1' : ∀ S Q, oIx S (dL ns) (.int ((k : Int) + 1)) Q = Q (.int v1) S := i1
  obtain ⟨d, ad, fd⟩ := odd_at (L := (L : Int)) (n := v0 % 70) (by omega) (by omega) (modN (v := v1) (show (0 : Int) < 13 by decide))
  refine seq_k fun q2 n2 r2 _ _ x2 => ?_
  simp only [wDrop, wMt, wBin, wCB, wCons, wNil, wVar, wC, getV, some!, mutL, put_same, i0, oInt, one, oMod, oI, oAdd, oAppend]
  refine ⟨by decide, show 12 < sizeLine by decide, n2 _ _ ?_⟩
  simp only [wRet, wBin, wCB, wCons, wNil, wVar, wC, getV, some!, i1', oAdd, oInt, one, oMod, oI]
  refine ⟨by decide, ?_⟩
  refine (oIx_eq (seqA_at put_same) (show atI _ _ = some d from ad) _).mpr ?_
  refine h d _ fd (ext_chg (ext_put (ext_refl S) ht) ht)
theorem kinds_H (c : Cl) {a dd : Addr} {x : D} {S : Sto} {Q : Qd} {X1 : XQ} (hx : Fine x) (h : ∀ S', Ext S S' → Q (.tup [.str "NotHeld", .str (shw x)]) S') : w__law_kinds c a dd c.NotHeld [some (.exc a dd c.NotHeld "block" x), none] S (endQ Q X1) := by
  have hres := fine_res hx
  have hlay := fun S => (hx.2.1 S).1
  have hsw : (toP x).showable = true := by have := (hx.2.1 S).2.1; rw [hres] at this; exact this
  have hsl : (toP x).shown.length ≤ sizeLine := by have := (hx.2.1 S).2.2; unfold shownD at this; rw [hres] at this; exact this
  unfold w__law_kinds
  refine seq_k fun q0 n0 r0 _ _ x0 => ?_
  simp only [wSet, wLstM, wNil, setV]
  refine ⟨Nat.zero_le _, fun p hp => n0 _ _ ?_⟩
  have E := ext_put (m := .lst []) (ext_refl S) hp
  have hat : put S p (.lst []) p = some (.lst []) := put_same
  generalize put S p (.lst []) = S1 at E hat
  refine seq_k fun q1 n1 r1 _ _ x1 => ?_
  simp only [wIf, wTest, wIsE, wVar, getV, some!, c.kHI, c.isH, and_self, true_and, Bool.false_eq_true, if_false, wNext]
  refine n1 _ _ ?_
  refine seq_k fun q2 n2 r2 _ _ x2 => ?_
  simp only [wIf, wTest, wIsE, wVar, getV, some!, c.kHR, c.isH, and_self, true_and, Bool.false_eq_true, if_false, wNext]
  refine n2 _ _ ?_
  refine seq_k fun q3 n3 r3 _ _ x3 => ?_
  simp only [wIf, wTest, wIsE, wVar, getV, some!, c.kHA, c.isH, and_self, true_and, Bool.false_eq_true, if_false, wNext]
  refine n3 _ _ ?_
  refine seq_k fun q4 n4 r4 _ _ x4 => ?_
  simp only [wIf, wTest, wIsE, wVar, getV, some!, c.kHH, c.isH, and_self, true_and, if_true, wDrop, wMt, wCons, wNil, wCB, wTup, wC, wExF, mutL, hat, c.xfH, oRepr, one, hres]
  refine ⟨hlay S1, hsw, hsl, show 2 ≤ sizeLine by decide, ?_⟩
  simp only [oAppend, mutL, hat, one, List.nil_append]
  refine ⟨Nat.lt_of_lt_of_le Nat.zero_lt_one z1, n4 _ _ ?_⟩
  have E := ext_chg (m := .lst [.tup [.str "NotHeld", .str (toP x).shown]]) E hp
  have hat2 : put S1 p (.lst [.tup [.str "NotHeld", .str (toP x).shown]]) p = some (.lst [.tup [.str "NotHeld", .str (toP x).shown]]) := put_same
  generalize put S1 p (.lst [.tup [.str "NotHeld", .str (toP x).shown]]) = S2 at E hat2
  have kLo : PySem.W.kitAny c.K (.ref c.NotHeld) ([c.InvalidLetter, c.NoHouse, c.NoRequest, c.TooLarge].map Value.ref) = some false := c.kHo
  refine seq_k fun q5 n5 r5 _ _ x5 => ?_
  simp only [wIf, wOr, wNot, wTest, wIsET, wIsEB, wVar, getV, some!, kLo, c.kHV, c.isH, and_self, true_and, Bool.false_eq_true, if_false, Bool.not_true, wNext]
  refine n5 _ _ ?_
  refine seq_k fun q9 n9 r9 _ _ x9 => ?_
  have ol : ∀ Q, oLen S2 [.ref p] Q = Q (.int 1) S2 := fun Q => by rw [oLen_at (seqA_at hat2)]; rfl
  have i0 : ∀ Q, oIx S2 (.ref p) (.int 0) Q = Q (.tup [.str "NotHeld", .str (toP x).shown]) S2 := oIx_eq (seqA_at hat2) rfl
  simp only [wIf, wTest, wBin, wCB, wCons, wNil, wVar, wC, getV, some!, ol, oEq, shD_int, eqD_int, true_and, decide_true, if_true, wRet, i0]
  rw [r9]
  exact h S2 E
theorem kinds_A (c : Cl) {a dd : Addr} {x : D} {S : Sto} {Q : Qd} {X1 : XQ} (hx : Fine x) (h : ∀ S', Ext S S' → Q (.tup [.str "NotAlone", .str (shw x)]) S') : w__law_kinds c a dd c.NotAlone [some (.exc a dd c.NotAlone "block" x), none] S (endQ Q X1) := by
  have hres := fine_res hx
  have hlay := fun S => (hx.2.1 S).1
  have hsw : (toP x).showable = true := by have := (hx.2.1 S).2.1; rw [hres] at this; exact this
  have hsl : (toP x).shown.length ≤ sizeLine := by have := (hx.2.1 S).2.2; unfold shownD at this; rw [hres] at this; exact this
  unfold w__law_kinds
  refine seq_k fun q0 n0 r0 _ _ x0 => ?_
  simp only [wSet, wLstM, wNil, setV]
  refine ⟨Nat.zero_le _, fun p hp => n0 _ _ ?_⟩
  have E := ext_put (m := .lst []) (ext_refl S) hp
  have hat : put S p (.lst []) p = some (.lst []) := put_same
  generalize put S p (.lst []) = S1 at E hat
  refine seq_k fun q1 n1 r1 _ _ x1 => ?_
  simp only [wIf, wTest, wIsE, wVar, getV, some!, c.kAI, c.isA, and_self, true_and, Bool.false_eq_true, if_false, wNext]
  refine n1 _ _ ?_
  refine seq_k fun q2 n2 r2 _ _ x2 => ?_
  simp only [wIf, wTest, wIsE, wVar, getV, some!, c.kAR, c.isA, and_self, true_and, Bool.false_eq_true, if_false, wNext]
  refine n2 _ _ ?_
  refine seq_k fun q3 n3 r3 _ _ x3 => ?_
  simp only [wIf, wTest, wIsE, wVar, getV, some!, c.kAA, c.isA, and_self, true_and, if_true, wDrop, wMt, wCons, wNil, wCB, wTup, wC, wExF, mutL, hat, c.xfA, oRepr, one, hres]
  refine ⟨hlay S1, hsw, hsl, show 2 ≤ sizeLine by decide, ?_⟩
  simp only [oAppend, mutL, hat, one, List.nil_append]
  refine ⟨Nat.lt_of_lt_of_le Nat.zero_lt_one z1, n3 _ _ ?_⟩
  have E := ext_chg (m := .lst [.tup [.str "NotAlone", .str (toP x).shown]]) E hp
  have hat2 : put S1 p (.lst [.tup [.str "NotAlone", .str (toP x).shown]]) p = some (.lst [.tup [.str "NotAlone", .str (toP x).shown]]) := put_same
  generalize put S1 p (.lst [.tup [.str "NotAlone", .str (toP x).shown]]) = S2 at E hat2
  refine seq_k fun q4 n4 r4 _ _ x4 => ?_
  simp only [wIf, wTest, wIsE, wVar, getV, some!, c.kAH, c.isA, and_self, true_and, Bool.false_eq_true, if_false, wNext]
  refine n4 _ _ ?_
  have kLo : PySem.W.kitAny c.K (.ref c.NotAlone) ([c.InvalidLetter, c.NoHouse, c.NoRequest, c.TooLarge].map Value.ref) = some false := c.kAo
  refine seq_k fun q5 n5 r5 _ _ x5 => ?_
  simp only [wIf, wOr, wNot, wTest, wIsET, wIsEB, wVar, getV, some!, kLo, c.kAV, c.isA, and_self, true_and, Bool.false_eq_true, if_false, Bool.not_true, wNext]
  refine n5 _ _ ?_
  refine seq_k fun q9 n9 r9 _ _ x9 => ?_
  have ol : ∀ Q, oLen S2 [.ref p] Q = Q (.int 1) S2 := fun Q => by rw [oLen_at (seqA_at hat2)]; rfl
  have i0 : ∀ Q, oIx S2 (.ref p) (.int 0) Q = Q (.tup [.str "NotAlone", .str (toP x).shown]) S2 := oIx_eq (seqA_at hat2) rfl
  simp only [wIf, wTest, wBin, wCB, wCons, wNil, wVar, wC, getV, some!, ol, oEq, shD_int, eqD_int, true_and, decide_true, if_true, wRet, i0]
  rw [r9]
  exact h S2 E
theorem kinds_R (c : Cl) {a dd : Addr} {x : D} {S : Sto} {Q : Qd} {X1 : XQ} (hx : Fine x) (h : ∀ S', Ext S S' → Q (.tup [.str "NoRoom", .str (shw x)]) S') : w__law_kinds c a dd c.NoRoom [some (.exc a dd c.NoRoom "many" x), none] S (endQ Q X1) := by
  have hres := fine_res hx
  have hlay := fun S => (hx.2.1 S).1
  have hsw : (toP x).showable = true := by have := (hx.2.1 S).2.1; rw [hres] at this; exact this
  have hsl : (toP x).shown.length ≤ sizeLine := by have := (hx.2.1 S).2.2; unfold shownD at this; rw [hres] at this; exact this
  unfold w__law_kinds
  refine seq_k fun q0 n0 r0 _ _ x0 => ?_
  simp only [wSet, wLstM, wNil, setV]
  refine ⟨Nat.zero_le _, fun p hp => n0 _ _ ?_⟩
  have E := ext_put (m := .lst []) (ext_refl S) hp
  have hat : put S p (.lst []) p = some (.lst []) := put_same
  generalize put S p (.lst []) = S1 at E hat
  refine seq_k fun q1 n1 r1 _ _ x1 => ?_
  simp only [wIf, wTest, wIsE, wVar, getV, some!, c.kRI, c.isR, and_self, true_and, Bool.false_eq_true, if_false, wNext]
  refine n1 _ _ ?_
  refine seq_k fun q2 n2 r2 _ _ x2 => ?_
  simp only [wIf, wTest, wIsE, wVar, getV, some!, c.kRR, c.isR, and_self, true_and, if_true, wDrop, wMt, wCons, wNil, wCB, wTup, wC, wExF, mutL, hat, c.xfR, oRepr, one, hres]
  refine ⟨hlay S1, hsw, hsl, show 2 ≤ sizeLine by decide, ?_⟩
  simp only [oAppend, mutL, hat, one, List.nil_append]
  refine ⟨Nat.lt_of_lt_of_le Nat.zero_lt_one z1, n2 _ _ ?_⟩
  have E := ext_chg (m := .lst [.tup [.str "NoRoom", .str (toP x).shown]]) E hp
  have hat2 : put S1 p (.lst [.tup [.str "NoRoom", .str (toP x).shown]]) p = some (.lst [.tup [.str "NoRoom", .str (toP x).shown]]) := put_same
  generalize put S1 p (.lst [.tup [.str "NoRoom", .str (toP x).shown]]) = S2 at E hat2
  refine seq_k fun q3 n3 r3 _ _ x3 => ?_
  simp only [wIf, wTest, wIsE, wVar, getV, some!, c.kRA, c.isR, and_self, true_and, Bool.false_eq_true, if_false, wNext]
  refine n3 _ _ ?_
  refine seq_k fun q4 n4 r4 _ _ x4 => ?_
  simp only [wIf, wTest, wIsE, wVar, getV, some!, c.kRH, c.isR, and_self, true_and, Bool.false_eq_true, if_false, wNext]
  refine n4 _ _ ?_
  have kLo : PySem.W.kitAny c.K (.ref c.NoRoom) ([c.InvalidLetter, c.NoHouse, c.NoRequest, c.TooLarge].map Value.ref) = some false := c.kRo
  refine seq_k fun q5 n5 r5 _ _ x5 => ?_
  simp only [wIf, wOr, wNot, wTest, wIsET, wIsEB, wVar, getV, some!, kLo, c.kRV, c.isR, and_self, true_and, Bool.false_eq_true, if_false, Bool.not_true, wNext]
  refine n5 _ _ ?_
  refine seq_k fun q9 n9 r9 _ _ x9 => ?_
  have ol : ∀ Q, oLen S2 [.ref p] Q = Q (.int 1) S2 := fun Q => by rw [oLen_at (seqA_at hat2)]; rfl
  have i0 : ∀ Q, oIx S2 (.ref p) (.int 0) Q = Q (.tup [.str "NoRoom", .str (toP x).shown]) S2 := oIx_eq (seqA_at hat2) rfl
  simp only [wIf, wTest, wBin, wCB, wCons, wNil, wVar, wC, getV, some!, ol, oEq, shD_int, eqD_int, true_and, decide_true, if_true, wRet, i0]
  rw [r9]
  exact h S2 E
theorem kinds_I (c : Cl) {a dd : Addr} {x : D} {S : Sto} {Q : Qd} {X1 : XQ} (hx : Fine x) (h : ∀ S', Ext S S' → Q (.tup [.str "InvalidNumber", .str (shw x)]) S') : w__law_kinds c a dd c.InvalidNumber [some (.exc a dd c.InvalidNumber "number" x), none] S (endQ Q X1) := by
  have hres := fine_res hx
  have hlay := fun S => (hx.2.1 S).1
  have hsw : (toP x).showable = true := by have := (hx.2.1 S).2.1; rw [hres] at this; exact this
  have hsl : (toP x).shown.length ≤ sizeLine := by have := (hx.2.1 S).2.2; unfold shownD at this; rw [hres] at this; exact this
  unfold w__law_kinds
  refine seq_k fun q0 n0 r0 _ _ x0 => ?_
  simp only [wSet, wLstM, wNil, setV]
  refine ⟨Nat.zero_le _, fun p hp => n0 _ _ ?_⟩
  have E := ext_put (m := .lst []) (ext_refl S) hp
  have hat : put S p (.lst []) p = some (.lst []) := put_same
  generalize put S p (.lst []) = S1 at E hat
  refine seq_k fun q1 n1 r1 _ _ x1 => ?_
  simp only [wIf, wTest, wIsE, wVar, getV, some!, c.kII, c.isI, and_self, true_and, if_true, wDrop, wMt, wCons, wNil, wCB, wTup, wC, wExF, mutL, hat, c.xfI, oRepr, one, hres]
  refine ⟨hlay S1, hsw, hsl, show 2 ≤ sizeLine by decide, ?_⟩
  simp only [oAppend, mutL, hat, one, List.nil_append]
  refine ⟨Nat.lt_of_lt_of_le Nat.zero_lt_one z1, n1 _ _ ?_⟩
  have E := ext_chg (m := .lst [.tup [.str "InvalidNumber", .str (toP x).shown]]) E hp
  have hat2 : put S1 p (.lst [.tup [.str "InvalidNumber", .str (toP x).shown]]) p = some (.lst [.tup [.str "InvalidNumber", .str (toP x).shown]]) := put_same
  generalize put S1 p (.lst [.tup [.str "InvalidNumber", .str (toP x).shown]]) = S2 at E hat2
  refine seq_k fun q2 n2 r2 _ _ x2 => ?_
  simp only [wIf, wTest, wIsE, wVar, getV, some!, c.kIR, c.isI, and_self, true_and, Bool.false_eq_true, if_false, wNext]
  refine n2 _ _ ?_
  refine seq_k fun q3 n3 r3 _ _ x3 => ?_
  simp only [wIf, wTest, wIsE, wVar, getV, some!, c.kIA, c.isI, and_self, true_and, Bool.false_eq_true, if_false, wNext]
  refine n3 _ _ ?_
  refine seq_k fun q4 n4 r4 _ _ x4 => ?_
  simp only [wIf, wTest, wIsE, wVar, getV, some!, c.kIH, c.isI, and_self, true_and, Bool.false_eq_true, if_false, wNext]
  refine n4 _ _ ?_
  have kLo : PySem.W.kitAny c.K (.ref c.InvalidNumber) ([c.InvalidLetter, c.NoHouse, c.NoRequest, c.TooLarge].map Value.ref) = some false := c.kIo
  refine seq_k fun q5 n5 r5 _ _ x5 => ?_
  simp only [wIf, wOr, wNot, wTest, wIsET, wIsEB, wVar, getV, some!, kLo, c.kIV, c.isI, and_self, true_and, Bool.false_eq_true, if_false, Bool.not_true, wNext]
  refine n5 _ _ ?_
  refine seq_k fun q9 n9 r9 _ _ x9 => ?_
  have ol : ∀ Q, oLen S2 [.ref p] Q = Q (.int 1) S2 := fun Q => by rw [oLen_at (seqA_at hat2)]; rfl
  have i0 : ∀ Q, oIx S2 (.ref p) (.int 0) Q = Q (.tup [.str "InvalidNumber", .str (toP x).shown]) S2 := oIx_eq (seqA_at hat2) rfl
  simp only [wIf, wTest, wBin, wCB, wCons, wNil, wVar, wC, getV, some!, ol, oEq, shD_int, eqD_int, true_and, decide_true, if_true, wRet, i0]
  rw [r9]
  exact h S2 E

end K12

set_option Elab.async false
set_option linter.all false
set_option maxRecDepth 100000
set_option maxHeartbeats 1000000

namespace K12
open PySem PySem.Spec PyProof.Rows L2 DL
theorem len__law_kinds (c : Cl) : ∀ a dd C ds S Q E, sp__law_kinds c a dd C ds S Q E → ds.length = 1 := by
  rintro a dd C ds S Q E ⟨_, _, rfl, _⟩; rfl
theorem rd__law_kinds (c : Cl) : ∀ a dd C ds S Q X1, sp__law_kinds c a dd C ds S Q X1 → w__law_kinds c a dd C (startD N__law_kinds_ ds) S (endQ Q X1) := by
  rintro a dd C ds S Q X1 ⟨k, x, rfl, rfl, hk, hx, h⟩
  rcases (show k = 0 ∨ k = 1 ∨ k = 2 ∨ k = 3 by omega) with rfl | rfl | rfl | rfl
  · exact kinds_H c hx h
  · exact kinds_A c hx h
  · exact kinds_R c hx h
  · exact kinds_I c hx h
theorem exO {c : Cl} {k : Nat} : PySem.W.exmOne c.K (.ref (clsOf c k)) (.ref c.ServeError) = some true := by
  match k with
  | 0 => exact c.exH
  | 1 => exact c.exA
  | 2 => exact c.exR
  | _ + 3 => exact c.exI
/-! ### words -/
theorem shW {S : Sto} {w : Word} : shD S (.str (wS w)) = true := sh_str (by cases w <;> decide +kernel)
theorem eqvW (w w' : Word) : PyData.eqv (.str (wS w)) (.str (wS w')) = decide (w = w') := by
  cases w <;> cases w' <;> decide +kernel
theorem eq_take {S : Sto} {w : Word} : eqD S (.str (wS w)) (.str "take") = decide (w = .take) := eqvW w .take
theorem sh_take {S : Sto} : shD S (.str "take") = true := shW (w := .take)
theorem eq_put {S : Sto} {w : Word} : eqD S (.str (wS w)) (.str "put") = decide (w = .put) := eqvW w .put
theorem sh_put {S : Sto} : shD S (.str "put") = true := shW (w := .put)
theorem eq_hold {S : Sto} {w : Word} : eqD S (.str (wS w)) (.str "hold") = decide (w = .hold) := eqvW w .hold
theorem sh_hold {S : Sto} : shD S (.str "hold") = true := shW (w := .hold)
theorem eq_release {S : Sto} {w : Word} : eqD S (.str (wS w)) (.str "release") = decide (w = .release) := eqvW w .release
theorem sh_release {S : Sto} : shD S (.str "release") = true := shW (w := .release)
theorem eq_shorten {S : Sto} {w : Word} : eqD S (.str (wS w)) (.str "shorten") = decide (w = .shorten) := eqvW w .shorten
theorem sh_shorten {S : Sto} : shD S (.str "shorten") = true := shW (w := .shorten)
theorem eq_rows {S : Sto} {w : Word} : eqD S (.str (wS w)) (.str "rows") = decide (w = .rows) := eqvW w .rows
theorem sh_rows {S : Sto} : shD S (.str "rows") = true := shW (w := .rows)
theorem eq_holders {S : Sto} {w : Word} : eqD S (.str (wS w)) (.str "holders") = decide (w = .holders) := eqvW w .holders
theorem sh_holders {S : Sto} : shD S (.str "holders") = true := shW (w := .holders)
theorem pk2 {x y z : D} : pickK 1 2 [0, 2, 1] [x] [y, z] = [x, z, y] := rfl
theorem pk1 {x y : D} : pickK 1 1 [0, 1] [x] [y] = [x, y] := rfl
theorem len__law_call (c : Cl) : ∀ ds S Q E, sp__law_call c ds S Q E → ds.length = 5 := by
  rintro ds S Q E ⟨_, _, _, _, _, _, _, _, _, _, rfl, _⟩; rfl
theorem rd__law_call (c : Cl) : ∀ ds S Q X1, sp__law_call c ds S Q X1 → w__law_call c (startD N__law_call_ ds) S (endQ Q X1) := by
  rintro ds S Q X1 ⟨a, pC, pK, z, st, w, d, v, vd, nb, rfl, hA, hk, hv, h⟩
  show w__law_call c [some (.ref a), some (.str (wS w)), some d, some vd, some (.bl nb)] S (endQ Q X1)
  unfold w__law_call
  have iS := isSt hA.ob
  cases w with
  | take =>
    simp only [wSeq, wIf, wAnd, wTest, wBin, wVar, wC, getV, some!, oEq, shW, eq_take, sh_take, eq_put, sh_put, eq_hold, sh_hold, eq_release, sh_release, eq_shorten, sh_shorten, eq_rows, sh_rows, eq_holders, sh_holders, true_and, reduceCtorEq, decide_false, decide_true, Bool.false_eq_true, if_false, if_true, wNext, wRet, wMeth, wMethK, wCons, wNil, pk1, pk2]
    exact ⟨iS, a, pC, pK, z, st, rfl, hA, h⟩
  | put =>
    obtain ⟨r, rfl, hrow⟩ := hv
    cases nb with
    | true =>
      simp only [wSeq, wIf, wAnd, wTest, wBin, wVar, wC, getV, some!, oEq, shW, eq_take, sh_take, eq_put, sh_put, eq_hold, sh_hold, eq_release, sh_release, eq_shorten, sh_shorten, eq_rows, sh_rows, eq_holders, sh_holders, true_and, reduceCtorEq, decide_false, decide_true, Bool.false_eq_true, if_false, if_true, wNext, wRet, wMeth, wMethK, wCons, wNil, pk1, pk2]
      exact ⟨iS, a, pC, pK, z, st, d, vd, r, rfl, hA, hk, hrow, h⟩
    | false =>
      simp only [wSeq, wIf, wAnd, wTest, wBin, wVar, wC, getV, some!, oEq, shW, eq_take, sh_take, eq_put, sh_put, eq_hold, sh_hold, eq_release, sh_release, eq_shorten, sh_shorten, eq_rows, sh_rows, eq_holders, sh_holders, true_and, reduceCtorEq, decide_false, decide_true, Bool.false_eq_true, if_false, if_true, wNext, wRet, wMeth, wMethK, wCons, wNil, pk1, pk2]
      exact ⟨iS, a, pC, pK, z, st, d, vd, r, rfl, hA, hk, hrow, h⟩
  | hold =>
    cases nb with
    | true =>
      simp only [wSeq, wIf, wAnd, wTest, wBin, wVar, wC, getV, some!, oEq, shW, eq_take, sh_take, eq_put, sh_put, eq_hold, sh_hold, eq_release, sh_release, eq_shorten, sh_shorten, eq_rows, sh_rows, eq_holders, sh_holders, true_and, reduceCtorEq, decide_false, decide_true, Bool.false_eq_true, if_false, if_true, wNext, wRet, wMeth, wMethK, wCons, wNil, pk1, pk2]
      exact ⟨iS, a, pC, pK, z, st, d, v, rfl, hA, hk, h⟩
    | false =>
      simp only [wSeq, wIf, wAnd, wTest, wBin, wVar, wC, getV, some!, oEq, shW, eq_take, sh_take, eq_put, sh_put, eq_hold, sh_hold, eq_release, sh_release, eq_shorten, sh_shorten, eq_rows, sh_rows, eq_holders, sh_holders, true_and, reduceCtorEq, decide_false, decide_true, Bool.false_eq_true, if_false, if_true, wNext, wRet, wMeth, wMethK, wCons, wNil, pk1, pk2]
      exact ⟨iS, a, pC, pK, z, st, d, v, rfl, hA, hk, h⟩
  | release =>
    cases nb with
    | true =>
      simp only [wSeq, wIf, wAnd, wTest, wBin, wVar, wC, getV, some!, oEq, shW, eq_take, sh_take, eq_put, sh_put, eq_hold, sh_hold, eq_release, sh_release, eq_shorten, sh_shorten, eq_rows, sh_rows, eq_holders, sh_holders, true_and, reduceCtorEq, decide_false, decide_true, Bool.false_eq_true, if_false, if_true, wNext, wRet, wMeth, wMethK, wCons, wNil, pk1, pk2]
      exact ⟨iS, a, pC, pK, z, st, d, v, rfl, hA, hk, h⟩
    | false =>
      simp only [wSeq, wIf, wAnd, wTest, wBin, wVar, wC, getV, some!, oEq, shW, eq_take, sh_take, eq_put, sh_put, eq_hold, sh_hold, eq_release, sh_release, eq_shorten, sh_shorten, eq_rows, sh_rows, eq_holders, sh_holders, true_and, reduceCtorEq, decide_false, decide_true, Bool.false_eq_true, if_false, if_true, wNext, wRet, wMeth, wMethK, wCons, wNil, pk1, pk2]
      exact ⟨iS, a, pC, pK, z, st, d, v, rfl, hA, hk, h⟩
  | shorten =>
    obtain ⟨rfl, hkv⟩ := hv
    cases nb with
    | true =>
      simp only [wSeq, wIf, wAnd, wTest, wBin, wVar, wC, getV, some!, oEq, shW, eq_take, sh_take, eq_put, sh_put, eq_hold, sh_hold, eq_release, sh_release, eq_shorten, sh_shorten, eq_rows, sh_rows, eq_holders, sh_holders, true_and, reduceCtorEq, decide_false, decide_true, Bool.false_eq_true, if_false, if_true, wNext, wRet, wMeth, wMethK, wCons, wNil, pk1, pk2]
      exact ⟨iS, a, pC, pK, z, st, d, vd, rfl, hA, hk, hkv, h⟩
    | false =>
      simp only [wSeq, wIf, wAnd, wTest, wBin, wVar, wC, getV, some!, oEq, shW, eq_take, sh_take, eq_put, sh_put, eq_hold, sh_hold, eq_release, sh_release, eq_shorten, sh_shorten, eq_rows, sh_rows, eq_holders, sh_holders, true_and, reduceCtorEq, decide_false, decide_true, Bool.false_eq_true, if_false, if_true, wNext, wRet, wMeth, wMethK, wCons, wNil, pk1, pk2]
      exact ⟨iS, a, pC, pK, z, st, d, vd, rfl, hA, hk, hkv, h⟩
  | rows =>
    cases nb with
    | true =>
      simp only [wSeq, wIf, wAnd, wTest, wBin, wVar, wC, getV, some!, oEq, shW, eq_take, sh_take, eq_put, sh_put, eq_hold, sh_hold, eq_release, sh_release, eq_shorten, sh_shorten, eq_rows, sh_rows, eq_holders, sh_holders, true_and, reduceCtorEq, decide_false, decide_true, Bool.false_eq_true, if_false, if_true, wNext, wRet, wMeth, wMethK, wCons, wNil, pk1, pk2]
      exact ⟨iS, a, pC, pK, z, st, d, v, rfl, hA, hk, h⟩
    | false =>
      simp only [wSeq, wIf, wAnd, wTest, wBin, wVar, wC, getV, some!, oEq, shW, eq_take, sh_take, eq_put, sh_put, eq_hold, sh_hold, eq_release, sh_release, eq_shorten, sh_shorten, eq_rows, sh_rows, eq_holders, sh_holders, true_and, reduceCtorEq, decide_false, decide_true, Bool.false_eq_true, if_false, if_true, wNext, wRet, wMeth, wMethK, wCons, wNil, pk1, pk2]
      exact ⟨iS, a, pC, pK, z, st, d, v, rfl, hA, hk, h⟩
  | holders =>
    cases nb with
    | true =>
      simp only [wSeq, wIf, wAnd, wTest, wBin, wVar, wC, getV, some!, oEq, shW, eq_take, sh_take, eq_put, sh_put, eq_hold, sh_hold, eq_release, sh_release, eq_shorten, sh_shorten, eq_rows, sh_rows, eq_holders, sh_holders, true_and, reduceCtorEq, decide_false, decide_true, Bool.false_eq_true, if_false, if_true, wNext, wRet, wMeth, wMethK, wCons, wNil, pk1, pk2]
      exact ⟨iS, a, pC, pK, z, st, d, v, rfl, hA, hk, h⟩
    | false =>
      simp only [wSeq, wIf, wAnd, wTest, wBin, wVar, wC, getV, some!, oEq, shW, eq_take, sh_take, eq_put, sh_put, eq_hold, sh_hold, eq_release, sh_release, eq_shorten, sh_shorten, eq_rows, sh_rows, eq_holders, sh_holders, true_and, reduceCtorEq, decide_false, decide_true, Bool.false_eq_true, if_false, if_true, wNext, wRet, wMeth, wMethK, wCons, wNil, pk1, pk2]
      exact ⟨iS, a, pC, pK, z, st, d, v, rfl, hA, hk, h⟩
theorem step_err {z k : Nat} {st : StV} {w : Word} {d x : D} {v : Vl} (hd : Fine d) (hv : FineV w v) (h : (stepF z st w d v).2 = .err k x) : k ≤ 3 ∧ Fine x ∧ (stepF z st w d v).1 = st := by
  have f1 : Fine (.int 1) := fine_small (by decide)
  unfold stepF at h ⊢
  by_cases ht : w = .take
  · rw [if_pos ht] at h ⊢
    unfold takeF at h ⊢
    cases e : st.cs.findIdx? (· == 0) with
    | none => rw [e] at h; cases h; exact ⟨by decide, f1, rfl⟩
    | some i => rw [e] at h; cases h
  rw [if_neg ht] at h ⊢
  cases e : blk st.cs.length d with
  | none => rw [e] at h; cases h; exact ⟨by decide, hd, rfl⟩
  | some b =>
    rw [e] at h
    dsimp only at h ⊢
    by_cases hh : w = .holders
    · rw [if_pos hh] at h; cases h
    rw [if_neg hh] at h ⊢
    by_cases h0 : st.cs.getD b 0 = 0
    · rw [if_pos h0] at h ⊢; cases h; exact ⟨by decide, hd, rfl⟩
    rw [if_neg h0] at h ⊢
    unfold stepB at h ⊢
    cases w with
    | take => exact absurd rfl ht
    | holders => exact absurd rfl hh
    | rows => cases h
    | hold => cases h
    | release => cases h
    | put =>
      cases v with
      | num y => cases h
      | row r =>
        dsimp only at h ⊢
        by_cases h1 : 1 < st.cs.getD b 0
        · rw [if_pos h1] at h ⊢; cases h; exact ⟨by decide, hd, rfl⟩
        rw [if_neg h1] at h ⊢
        by_cases h2 : (st.ks.getD b []).length = z
        · rw [if_pos h2] at h ⊢; cases h; exact ⟨by decide, f1, rfl⟩
        · rw [if_neg h2] at h; cases h
    | shorten =>
      cases v with
      | row r => cases h
      | num y =>
        dsimp only at h ⊢
        by_cases h1 : 1 < st.cs.getD b 0
        · rw [if_pos h1] at h ⊢; cases h; exact ⟨by decide, hd, rfl⟩
        rw [if_neg h1] at h ⊢
        cases e2 : blk ((st.ks.getD b []).length + 1) y with
        | none => rw [e2] at h; cases h; exact ⟨by decide, hv, rfl⟩
        | some k => rw [e2] at h; cases h
theorem len__law_ask (c : Cl) : ∀ ds S Q E, sp__law_ask c ds S Q E → ds.length = 5 := by
  rintro ds S Q E ⟨_, _, _, _, _, _, _, _, _, _, rfl, _⟩; rfl
theorem rd__law_ask (c : Cl) : ∀ ds S Q X1, sp__law_ask c ds S Q X1 → w__law_ask c (startD N__law_ask_ ds) S (endQ Q X1) := by
  rintro ds S Q X1 ⟨a, pC, pK, z, st, w, d, v, vd, nb, rfl, hA, hd, hfv, hv, h⟩
  show w__law_ask c [some (.ref a), some (.str (wS w)), some d, some vd, some (.bl nb), none] S (endQ Q X1)
  unfold w__law_ask
  simp only [wTry]
  simp only [wRet, wTup, wCall, wCons, wNil, wC, wVar, getV, some!]
  refine ⟨a, pC, pK, z, st, w, d, v, vd, nb, rfl, hA, hd.1 S, hv, ?_⟩
  unfold Out
  cases hr : (stepF z st w d v).2 with
  | told t =>
    dsimp only
    intro S' hA' fr
    have := h S' hA' fr
    rw [hr] at this
    exact ⟨show 2 ≤ sizeLine by decide, this⟩
  | err k x =>
    obtain ⟨hk, hx, hst⟩ := step_err hd hfv hr
    dsimp only
    refine ⟨true, exO, fun _ => ⟨fldOf k, x, rfl, fun a0 dd => ?_⟩, fun z => (by cases z)⟩
    refine ⟨k, x, rfl, rfl, hk, hx, fun S' E => ?_⟩
    have := h S' (by
      rw [hst]
      exact ⟨hA.ok, E _ _ hA.ob, E _ _ hA.hc, E _ _ hA.hk, hA.ne⟩) fun x m _ _ z => E x m z
    rw [hr] at this
    exact this
theorem shw1 : shw (.int 1) = "1" := by unfold shw; decide +kernel
theorem len__law_due (c : Cl) : ∀ ds S Q E, sp__law_due c ds S Q E → ds.length = 5 := by
  rintro ds S Q E ⟨_, _, _, _, _, _, _, _, _, _, rfl, _⟩; rfl
theorem repr_go {S : Sto} {d : D} {Q : Qd} (hx : Fine d) (q : Q (.str (shw d)) S) : oRepr S [d] Q := by
  have hres := fine_res hx
  simp only [oRepr, one, hres]
  have h1 := (hx.2.1 S).1
  have h2 := (hx.2.1 S).2.1
  have h3 := (hx.2.1 S).2.2
  unfold shownD at h3
  rw [hres] at h2 h3
  exact ⟨h1, h2, h3, q⟩

end K12
set_option Elab.async false
set_option linter.all false
set_option maxRecDepth 100000
set_option maxHeartbeats 1000000
namespace K12
open PySem PySem.Spec PyProof.Rows L2 DL
theorem nd_inj {α : Type} {l : List α} {i j : Nat} {r : α} (h : l.Nodup) (h1 : l[i]? = some r) (h2 : l[j]? = some r) : i = j := by
  have hi := lt_of_some h1
  have hj := lt_of_some h2
  rw [List.getElem?_eq_getElem hi] at h1
  rw [List.getElem?_eq_getElem hj] at h2
  have e := (Option.some.inj h1).trans (Option.some.inj h2).symm
  rcases Nat.lt_trichotomy i j with q | q | q
  · exact absurd e (List.pairwise_iff_getElem.mp h i j hi hj q)
  · exact q
  · exact absurd e.symm (List.pairwise_iff_getElem.mp h j i hj hi q)
theorem la_ext {S S' : Sto} {sC sK : Addr} {rs : List Addr} {st : StV} (h : LaAt S sC sK rs st) (E : Ext S S') : LaAt S' sC sK rs st := ⟨E _ _ h.hc, E _ _ h.hk, h.len, fun i r k h1 h2 => E _ _ (h.el i r k h1 h2), h.nd⟩
theorem la_el {S : Sto} {sC sK : Addr} {rs : List Addr} {st : StV} (h : LaAt S sC sK rs st) {b : Nat} (hb : b < st.ks.length) : ∃ r, rs[b]? = some r ∧ S r = some (.lst ((st.ks.getD b []).map dRw)) ∧ ∀ Q, oIx S (.ref sK) (.int (b : Nat)) Q = Q (.ref r) S := by
  obtain ⟨r, hr⟩ : ∃ r, rs[b]? = some r := ⟨_, List.getElem?_eq_getElem (by rw [h.len]; exact hb)⟩
  refine ⟨r, hr, h.el b r _ hr (by rw [List.getD_eq_getElem?_getD, List.getElem?_eq_getElem hb]; rfl), oIx_eq (seqA_at h.hk) (at_k (by rw [List.getElem?_map, hr]; rfl))⟩
/-- a block's rows change within their list -/
theorem la_putK {S : Sto} {sC sK r : Addr} {rs : List Addr} {st : StV} {b : Nat} {k' : List Rw} (h : LaAt S sC sK rs st) (hr : rs[b]? = some r) : LaAt (put S r (.lst (k'.map dRw))) sC sK rs ⟨st.cs, st.ks.set b k'⟩ := by
  obtain ⟨n1, n2, n3, n4⟩ := la_nd h
  have hm := List.mem_of_getElem? hr
  have nc : sC ≠ r := fun z => n2 (z ▸ hm)
  have nk : sK ≠ r := fun z => n3 (z ▸ hm)
  refine ⟨(put_ne nc).trans h.hc, (put_ne nk).trans h.hk, by rw [List.length_set]; exact h.len, fun i r2 k hi hk => ?_, h.nd⟩
  rw [List.getElem?_set] at hk
  by_cases z : b = i
  · subst z
    rw [hr] at hi
    obtain rfl := Option.some.inj hi
    rw [if_pos rfl, if_pos (by rw [← h.len]; exact lt_of_some hr)] at hk
    obtain rfl := Option.some.inj hk
    exact put_same
  · rw [if_neg z] at hk
    have ne : r2 ≠ r := fun y => by
      subst y
      exact z (nd_inj n4 hr hi)
    exact (put_ne ne).trans (h.el i r2 k hi hk)
theorem rd__law_due (c : Cl) : ∀ ds S Q X1, sp__law_due c ds S Q X1 → w__law_due c (startD N__law_due_ ds) S (endQ Q X1) := by
  rintro ds S Q X1 ⟨sC, sK, rs, st, z, z', w, d, v, vd, rfl, hA, hok, hzz, hd, hfv, hvd, h⟩
  have hl := hok.l1
  have hlk := hok.lk
  show w__law_due c [some (dSt sC sK), some (.int (z' : Nat)), some (.str (wS w)), some d, some vd] S (endQ Q X1)
  unfold w__law_due
  obtain ⟨i0, i1⟩ := la_ix (S := S) (sC := sC) (sK := sK)
  have same : ∀ res, stepF z st w d v = (st, res) → Q (resT res) S := fun res hr => by
    have := h rs S (by rw [hr]; exact hA) (fun x m _ _ _ zz => zz) (fun x hx => .inl hx) fun _ => ⟨rfl, rfl⟩
    rw [hr] at this; exact this
  refine seq_k fun q1 n1 r1 _ _ x1 => ?_
  simp only [wIf, wTest, wBin, wVar, wC, getV, some!, oEq, shW, sh_take, eq_take, true_and, decide_eq_true_eq]
  by_cases ht : w = .take
  · rw [if_pos ht]
    subst ht
    have hs : stepF z st .take d v = takeF st := if_pos rfl
    refine seq_k fun q2 n2 r2 _ _ x2 => ?_
    simp only [wSet, wCall, wCons, wNil, wVar, getV, setV, some!]
    refine ⟨sC, sK, rs, st, rfl, hA, hl.2, fun S1 hA1 fr1 => n2 _ _ ?_⟩
    have hh := h rs S1 (by rw [hs]; exact hA1) (fun x m h1 _ _ zz => fr1 x m h1 zz) (fun x hx => .inl hx) fun y => by rcases y with y | y <;> cases y
    rw [hs] at hh
    refine seq_k fun q3 n3 r3 _ _ x3 => ?_
    cases e : st.cs.findIdx? (· == 0) with
    | none =>
      unfold takeF at hh
      rw [e] at hh
      dsimp only [resT, nmOf] at hh
      rw [shw1] at hh
      simp only [wIf, wTest, wBin, wVar, wC, getV, some!, oIsN, DL.isNon, if_true, wRet, wTup, wCons, wNil]
      refine ⟨show 2 ≤ sizeLine by decide, ?_⟩
      rw [r3, r1]
      exact hh
    | some i =>
      unfold takeF at hh
      rw [e] at hh
      dsimp only [resT] at hh
      simp only [wIf, wTest, wBin, wVar, wC, getV, some!, oIsN, DL.isNon, Bool.false_eq_true, if_false, wNext]
      refine n3 _ _ ?_
      simp only [wRet, wTup, wCons, wNil, wVar, wC, getV, some!]
      refine ⟨show 2 ≤ sizeLine by decide, ?_⟩
      rw [r1]
      exact hh
  rw [if_neg ht]
  simp only [wNext]
  refine n1 _ _ ?_
  have hsF : stepF z st w d v = match blk st.cs.length d with
    | none => (st, .err 0 d)
    | some b => if w = .holders then (st, .told (.int (st.cs.getD b 0 : Nat))) else if st.cs.getD b 0 = 0 then (st, .err 0 d) else stepB z st b d w v := if_neg ht
  refine seq_k fun q2 n2 r2 _ _ x2 => ?_
  simp only [wIf, wOr, wNot, wTest, wCall, wCB, wBin, wCons, wNil, wVar, wC, getV, some!, i0, la_len hA, oSub, oI0]
  refine ⟨d, 0, ((st.cs.length : Nat) : Int) - 1, rfl, hd.1 S, ?_⟩
  rw [blk_in]
  have out0 : stepF z st w d v = (st, .err 0 d) → (wRet (wTup (wCons (wC (.str "NotHeld")) (wCons (wCB oRepr (wCons (wVar 3) wNil)) wNil)))) [some (dSt sC sK), some (.int (z' : Nat)), some (.str (wS w)), some d, some vd] S q2 := fun hr => by
    simp only [wRet, wTup, wCB, wCons, wNil, wVar, wC, getV, some!]
    refine repr_go hd ⟨show 2 ≤ sizeLine by decide, ?_⟩
    rw [r2]
    exact same _ hr
  cases e : blk st.cs.length d with
  | none =>
    rw [e] at hsF
    simp only [Option.isSome_none, Bool.not_false, if_true]
    exact out0 hsF
  | some b =>
    obtain ⟨rfl, hb⟩ := blk_some e
    rw [e] at hsF
    dsimp only at hsF
    have hbk : b < st.ks.length := by rw [hlk]; exact hb
    have iC := fun Q => la_C hA hb Q
    simp only [Option.isSome_some, Bool.not_true, Bool.false_eq_true, if_false, wAnd, wTest, wBin, wVar, wC, getV, some!, oNe, shW, sh_holders, eq_holders, true_and]
    by_cases hh : w = .holders
    · rw [if_pos hh] at hsF
      rw [decide_eq_true hh]
      simp only [Bool.not_true, Bool.false_eq_true, if_false, wNext]
      refine n2 _ _ ?_
      refine seq_k fun q3 n3 r3 _ _ x3 => ?_
      simp only [wIf, wTest, wBin, wVar, wC, getV, some!, oEq, shW, sh_holders, eq_holders, true_and, decide_eq_true hh, if_true, wRet, wTup, wCons, wNil, i0, iC]
      refine ⟨show 2 ≤ sizeLine by decide, ?_⟩
      rw [r3]
      exact same _ hsF
    rw [if_neg hh] at hsF
    rw [decide_eq_false hh]
    simp only [Bool.not_false, if_true, i0, iC, oEq, shD_int, eqD_int, true_and, decide_eq_true_eq]
    by_cases h0 : st.cs.getD b 0 = 0
    · rw [if_pos h0] at hsF
      rw [if_pos (by omega)]
      exact out0 hsF
    rw [if_neg h0] at hsF
    rw [if_neg (by omega)]
    simp only [wNext]
    refine n2 _ _ ?_
    refine seq_k fun q3 n3 r3 _ _ x3 => ?_
    simp only [wIf, wTest, wBin, wVar, wC, getV, some!, oEq, shW, sh_holders, eq_holders, true_and, decide_eq_false hh, Bool.false_eq_true, if_false, wNext]
    refine n3 _ _ ?_
    obtain ⟨r, hr, hrS, iK⟩ := la_el hA hbk
    refine seq_k fun q4 n4 r4 _ _ x4 => ?_
    simp only [wIf, wTest, wBin, wVar, wC, getV, some!, oEq, shW, sh_rows, eq_rows, true_and, decide_eq_true_eq]
    by_cases hw : w = .rows
    · subst hw
      have ot : ∀ Q, oTuple S [.ref r] Q = Q (.tup ((st.ks.getD b []).map dRw)) S := fun Q => oTuple_at (seqA_at hrS) Q
      simp only [if_true, wRet, wTup, wCB, wBin, wCons, wNil, wVar, wC, getV, some!, i1, iK, ot]
      refine ⟨show 2 ≤ sizeLine by decide, ?_⟩
      rw [r4]
      exact same _ hsF
    rw [if_neg hw]
    simp only [wNext]
    refine n4 _ _ ?_
    have hz : z' = z := by
      rcases hzz with y | y | y
      · exact y
      · exact absurd y hw
      · exact absurd y hh
    subst hz
    refine seq_k fun q5 n5 r5 _ _ x5 => ?_
    have fin : ∀ rs' S' st', stepF z' st w (.int (b : Nat)) v = (st', .told .non) → LaAt S' sC sK rs' st' → (∀ x m, x ≠ sC → x ≠ sK → x ∉ rs → S x = some m → S' x = some m) → (∀ x, x ∈ rs' → x ∈ rs ∨ S x = none) → q5.nx [some (dSt sC sK), some (.int (z' : Nat)), some (.str (wS w)), some (.int (b : Nat)), some vd] S' := by
      intro rs' S' st' hs hA' fr fs
      refine n5 _ _ ?_
      simp only [wRet, wTup, wCons, wNil, wC]
      refine ⟨show 2 ≤ sizeLine by decide, ?_⟩
      have := h rs' S' (by rw [hs]; exact hA') fr fs fun y => (y.elim hw hh).elim
      rw [hs] at this
      exact this
    simp only [wIf, wTest, wBin, wVar, wC, getV, some!, oEq, shW, sh_hold, eq_hold, true_and, decide_eq_true_eq]
    by_cases hw1 : w = .hold
    · subst hw1
      simp only [if_true, wSetI, wBin, wVar, wC, getV, some!, i0, iC, oAdd]
      refine setIx_at hA.hc (by rw [List.length_map]; exact ixN_in (by omega) (by omega)) ?_
      rw [Int.toNat_natCast, show ((st.cs.getD b 0 : Nat) : Int) + 1 = ((st.cs.getD b 0 + 1 : Nat) : Int) by omega, cs_set]
      exact fin rs _ _ hsF (la_setC hA) (fun x m h1 _ _ zz => (put_ne h1).trans zz) fun x hx => .inl hx
    rw [if_neg hw1]
    simp only [wIf, wTest, wBin, wVar, wC, getV, some!, oEq, shW, sh_release, eq_release, true_and, decide_eq_true_eq]
    by_cases hw2 : w = .release
    · subst hw2
      simp only [if_true, wDrop, wCall, wCons, wNil, wVar, getV, some!]
      exact ⟨sC, sK, rs, st, b, rfl, hA, hb, hlk, by omega, fun rs' S' hA' fr fs => fin rs' S' _ hsF hA' (fun x m h1 h2 _ zz => fr x m h1 h2 zz) fs⟩
    rw [if_neg hw2]
    simp only [wIf, wTest, wBin, wVar, wC, getV, some!, i0, iC, oGt, oI0, decide_eq_true_eq]
    by_cases h1 : 1 < st.cs.getD b 0
    · rw [if_pos (by omega)]
      have hs : stepF z' st w (.int (b : Nat)) v = (st, .err 1 (.int (b : Nat))) := by
        rw [hsF]
        cases w with
        | take => exact absurd rfl ht
        | rows => exact absurd rfl hw
        | holders => exact absurd rfl hh
        | hold => exact absurd rfl hw1
        | release => exact absurd rfl hw2
        | put =>
          obtain ⟨rr, rfl, _⟩ := hvd
          unfold stepB; dsimp only; rw [if_pos h1]
        | shorten =>
          obtain rfl := (show v = .num vd from hvd)
          unfold stepB; dsimp only; rw [if_pos h1]
      simp only [wRet, wTup, wCB, wCons, wNil, wVar, wC, getV, some!]
      refine repr_go hd ⟨show 2 ≤ sizeLine by decide, ?_⟩
      rw [r5]
      exact same _ hs
    rw [if_neg (by omega)]
    have olr : ∀ Q, oLen S [.ref r] Q = Q (.int ((st.ks.getD b []).length : Nat)) S := fun Q => by rw [oLen_at (seqA_at hrS), List.length_map]
    have hk8 : (st.ks.getD b []).length ≤ z' := hok.k8 _ (by rw [List.getD_eq_getElem?_getD, List.getElem?_eq_getElem hbk]; exact List.getElem_mem _)
    have hz8 := hok.z8
    have hrm := List.mem_of_getElem? hr
    simp only [wIf, wTest, wBin, wVar, wC, getV, some!, oEq, shW, sh_put, eq_put, true_and, decide_eq_true_eq]
    by_cases hw3 : w = .put
    · subst hw3
      obtain ⟨rr, rfl, rfl⟩ := hvd
      unfold stepB at hsF
      dsimp only at hsF
      rw [if_neg h1] at hsF
      simp only [if_true]
      refine seq_k fun q6 n6 r6 _ _ x6 => ?_
      simp only [wIf, wTest, wBin, wCB, wCons, wNil, wVar, wC, getV, some!, i1, iK, olr, oEq, shD_int, eqD_int, true_and, decide_eq_true_eq]
      by_cases h2 : (st.ks.getD b []).length = z'
      · rw [if_pos h2] at hsF
        rw [if_pos (by omega)]
        simp only [wRet, wTup, wCons, wNil, wC]
        refine ⟨show 2 ≤ sizeLine by decide, ?_⟩
        rw [r6, r5]
        have := same _ hsF
        dsimp only [resT, nmOf] at this
        rw [shw1] at this
        exact this
      · rw [if_neg h2] at hsF
        rw [if_neg (by omega)]
        simp only [wNext]
        refine n6 _ _ ?_
        simp only [wDrop, wMt, wBin, wCons, wNil, wVar, wC, getV, some!, i1, iK, mutL, hrS, oAppend, one, List.length_map]
        refine ⟨by unfold sizeLine; omega, ?_⟩
        rw [show (st.ks.getD b []).map dRw ++ [dRw rr] = (st.ks.getD b [] ++ [rr]).map dRw by rw [List.map_append]; rfl]
        exact fin rs _ _ hsF (la_putK hA hr) (fun x m _ _ h3 zz => (put_ne (show x ≠ r from fun y => h3 (y ▸ hrm))).trans zz) fun x hx => .inl hx
    rw [if_neg hw3]
    have hw4 : w = .shorten := by
      cases w with
      | take => exact absurd rfl ht
      | rows => exact absurd rfl hw
      | holders => exact absurd rfl hh
      | hold => exact absurd rfl hw1
      | release => exact absurd rfl hw2
      | put => exact absurd rfl hw3
      | shorten => rfl
    subst hw4
    obtain rfl := (show v = .num vd from hvd)
    have hfv : Fine vd := hfv
    unfold stepB at hsF
    dsimp only at hsF
    rw [if_neg h1] at hsF
    refine seq_k fun q6 n6 r6 _ _ x6 => ?_
    simp only [wIf, wNot, wTest, wCall, wBin, wCB, wCons, wNil, wVar, wC, getV, some!, i1, iK, olr]
    refine ⟨vd, 0, _, rfl, hfv.1 S, ?_⟩
    have hin : inR 0 (((st.ks.getD b []).length : Nat) : Int) vd = (blk ((st.ks.getD b []).length + 1) vd).isSome := by
      rw [← blk_in]; congr 1; omega
    rw [hin]
    cases ev : blk ((st.ks.getD b []).length + 1) vd with
    | none =>
      rw [ev] at hsF
      simp only [Option.isSome_none, Bool.not_false, if_true, wRet, wTup, wCB, wCons, wNil, wVar, wC, getV, some!]
      refine repr_go hfv ⟨show 2 ≤ sizeLine by decide, ?_⟩
      rw [r6, r5]
      exact same _ hsF
    | some k =>
      rw [ev] at hsF
      obtain ⟨rfl, hkl⟩ := blk_some ev
      simp only [Option.isSome_some, Bool.not_true, Bool.false_eq_true, if_false, wNext]
      refine n6 _ _ ?_
      simp only [wSetI, wSlM, wNoP, wP, wBin, wVar, wC, getV, some!, i1, iK, asI, seqL_at hrS]
      intro r' hr'
      have hfr := la_some hA hr'
      have ecut : DL.cutD ((st.ks.getD b []).map dRw) none (some ((k : Nat) : Int)) = ((st.ks.getD b []).take k).map dRw := by
        unfold DL.cutD
        rw [List.length_map, sIx_none, sIx_k (by omega), List.drop_zero, Nat.sub_zero, List.map_take]
      rw [ecut]
      have E2 := ext_put (m := .lst (((st.ks.getD b []).take k).map dRw)) (ext_refl S) hr'
      have hr2 : put S r' (.lst (((st.ks.getD b []).take k).map dRw)) r' = some (.lst (((st.ks.getD b []).take k).map dRw)) := put_same
      have hA2 := la_ext hA E2
      generalize put S r' (.lst (((st.ks.getD b []).take k).map dRw)) = S2 at E2 hr2 hA2
      obtain ⟨j0, j1⟩ := la_ix (S := S2) (sC := sC) (sK := sK)
      simp only [j1]
      refine setIx_at hA2.hk (by rw [List.length_map, hA2.len]; exact ixN_in (by omega) (by omega)) ?_
      rw [Int.toNat_natCast, show (rs.map D.ref).set b (.ref r') = (rs.set b r').map D.ref from (List.map_set ..).symm]
      refine fin (rs.set b r') _ _ hsF (la_setK hA2 hr2 hfr) (fun x m _ h2 _ zz => (put_ne h2).trans (E2 _ _ zz)) fun x hx => ?_
      rcases List.mem_or_eq_of_mem_set hx with q | rfl
      · exact .inl q
      · exact .inr hr'
end K12
set_option Elab.async false
set_option linter.all false
set_option maxRecDepth 100000
set_option maxHeartbeats 1000000
namespace K12
open PySem PySem.Spec PyProof.Rows L2 DL
theorem st_ext {c : Cl} {S S' : Sto} {a pC pK : Addr} {z : Nat} {st : StV} (h : StAt c S a pC pK z st) (E : Ext S S') : StAt c S' a pC pK z st := ⟨h.ok, E _ _ h.ob, E _ _ h.hc, E _ _ h.hk, h.ne⟩
theorem pr_ext {c : Cl} {S S' : Sto} {p : Pr} (h : PrAt c S p) (E : Ext S S') : PrAt c S' p := ⟨st_ext h.s E, la_ext h.l E, h.d1⟩
theorem two_ext {c : Cl} {S S' : Sto} {A : Bool → Pr} (h : TwoAt c S A) (E : Ext S S') : TwoAt c S' A := ⟨fun b => pr_ext (h.at_ b) E, h.dj, h.rg⟩
/-- a call that leaves the store as it is -/
theorem keep_ext {c : Cl} {S S' : Sto} {a pC pK : Addr} {z : Nat} {st : StV} (h : StAt c S a pC pK z st) (h' : StAt c S' a pC pK z st) (fr : ∀ x m, x ≠ pC → x ≠ pK → S x = some m → S' x = some m) : Ext S S' := fun x m hx => by
  by_cases h1 : x = pC
  · rw [h1] at hx ⊢
    rw [h.hc] at hx; rw [← hx]; exact h'.hc
  by_cases h2 : x = pK
  · rw [h2] at hx ⊢
    rw [h.hk] at hx; rw [← hx]; exact h'.hk
  exact fr x m h1 h2 hx
theorem blk_k {n k : Nat} (h : k < n) : blk n (.int (k : Nat)) = some k := by
  show (if 0 ≤ ((k : Nat) : Int) ∧ ((k : Nat) : Int) < (n : Int) then some ((k : Nat) : Int).toNat else none) = _
  rw [if_pos (by omega), Int.toNat_natCast]
theorem step_rows1 {z : Nat} {st : StV} {d : D} {v : Vl} : (stepF z st .rows d v).1 = st := by
  unfold stepF
  rw [if_neg (by decide)]
  cases blk st.cs.length d with
  | none => rfl
  | some b =>
    dsimp only
    rw [if_neg (by decide)]
    by_cases h : st.cs.getD b 0 = 0
    · rw [if_pos h]
    · rw [if_neg h]; cases v <;> rfl
theorem step_hold1 {z : Nat} {st : StV} {d : D} {v : Vl} : (stepF z st .holders d v).1 = st := by
  unfold stepF
  rw [if_neg (by decide)]
  cases blk st.cs.length d with
  | none => rfl
  | some b =>
    dsimp only
    rw [if_pos rfl]
theorem step_told {z : Nat} {st : StV} {w : Word} {d t : D} {v : Vl} (h : (stepF z st w d v).2 = .told t) : t = .non ∨ (∃ i : Nat, t = .int (i : Nat)) ∨ ∃ b, t = .tup ((st.ks.getD b []).map dRw) := by
  unfold stepF at h
  by_cases ht : w = .take
  · rw [if_pos ht] at h
    unfold takeF at h
    cases e : st.cs.findIdx? (· == 0) with
    | none => rw [e] at h; cases h
    | some i => rw [e] at h; cases h; exact .inr (.inl ⟨i, rfl⟩)
  rw [if_neg ht] at h
  cases e : blk st.cs.length d with
  | none => rw [e] at h; cases h
  | some b =>
    rw [e] at h
    dsimp only at h
    by_cases hh : w = .holders
    · rw [if_pos hh] at h; cases h; exact .inr (.inl ⟨_, rfl⟩)
    rw [if_neg hh] at h
    by_cases h0 : st.cs.getD b 0 = 0
    · rw [if_pos h0] at h; cases h
    rw [if_neg h0] at h
    unfold stepB at h
    cases w with
    | take => exact absurd rfl ht
    | holders => exact absurd rfl hh
    | rows => cases v <;> (cases h; exact .inr (.inr ⟨_, rfl⟩))
    | hold => cases v <;> (cases h; exact .inl rfl)
    | release => cases v <;> (cases h; exact .inl rfl)
    | put =>
      cases v with
      | num y => cases h; exact .inl rfl
      | row r =>
        dsimp only at h
        by_cases h1 : 1 < st.cs.getD b 0
        · rw [if_pos h1] at h; cases h
        rw [if_neg h1] at h
        by_cases h2 : (st.ks.getD b []).length = z
        · rw [if_pos h2] at h; cases h
        · rw [if_neg h2] at h; cases h; exact .inl rfl
    | shorten =>
      cases v with
      | row r => cases h; exact .inl rfl
      | num y =>
        dsimp only at h
        by_cases h1 : 1 < st.cs.getD b 0
        · rw [if_pos h1] at h; cases h
        rw [if_neg h1] at h
        cases e2 : blk ((st.ks.getD b []).length + 1) y with
        | none => rw [e2] at h; cases h
        | some k => rw [e2] at h; cases h; exact .inl rfl
theorem getK {st : StV} {b : Nat} : st.ks.getD b [] = [] ∨ st.ks.getD b [] ∈ st.ks := by
  by_cases h : b < st.ks.length
  · right
    rw [List.getD_eq_getElem?_getD, List.getElem?_eq_getElem h]
    exact List.getElem_mem _
  · left
    rw [List.getD_eq_getElem?_getD, List.getElem?_eq_none (by omega)]
    rfl
theorem plain_ks {z : Nat} {st : StV} {b n : Nat} (hok : StoOk z st) (hg : GoodK st) : plain (n + 5) (.tup ((st.ks.getD b []).map dRw)) := by
  have h8 := hok.z8
  rcases getK (st := st) (b := b) with e | e
  · rw [e]; exact ⟨Nat.zero_le _, fun x hx => by cases hx⟩
  · have := hok.k8 _ e
    refine ⟨by rw [List.length_map]; omega, fun x hx => ?_⟩
    obtain ⟨r, hr, rfl⟩ := List.mem_map.mp hx
    exact plR (hg _ e r hr) n
theorem strOk_nm {k : Nat} : PyData.strOk (nmOf k) = true := by
  match k with
  | 0 => decide +kernel
  | 1 => decide +kernel
  | 2 => decide +kernel
  | _ + 3 => exact (by decide +kernel : PyData.strOk ("InvalidNumber" : Str) = true)
theorem strOk_shw {d : D} (h : Fine d) : PyData.strOk (shw d) = true := by
  have := h.2.2 (fun _ => none)
  unfold shownD at this
  rw [fine_res h] at this
  exact this
theorem plain2 {n : Nat} {x y : D} (hx : plain n x) (hy : plain n y) : plain (n + 1) (.tup [x, y]) := ⟨show 2 ≤ 1000 by decide, fun q hq => by
  rcases List.mem_cons.mp hq with rfl | hq
  · exact hx
  · rw [List.mem_singleton] at hq; subst hq; exact hy⟩
theorem res_plain {z : Nat} {st : StV} {w : Word} {d : D} {v : Vl} (hok : StoOk z st) (hg : GoodK st) (hd : Fine d) (hv : FineV w v) : plain 7 (resT (stepF z st w d v).2) := by
  cases e : (stepF z st w d v).2 with
  | told t =>
    refine plain2 (show PyData.strOk _ = true by decide +kernel) ?_
    rcases step_told e with rfl | ⟨i, rfl⟩ | ⟨b, rfl⟩
    · exact trivial
    · exact trivial
    · exact plain_ks hok hg
  | err k x =>
    obtain ⟨hk, hx, _⟩ := step_err hd hv e
    exact plain2 (show PyData.strOk _ = true from strOk_nm) (show PyData.strOk _ = true from strOk_shw hx)
theorem len__law_stands (c : Cl) : ∀ ds S Q E, sp__law_stands c ds S Q E → ds.length = 2 := by
  rintro ds S Q E ⟨_, rfl, _⟩; rfl
theorem rd__law_stands (c : Cl) : ∀ ds S Q X1, sp__law_stands c ds S Q X1 → w__law_stands c (startD N__law_stands_ ds) S (endQ Q X1) := by
  rintro ds S Q X1 ⟨p, rfl, hA, hg, h⟩
  show w__law_stands c [some (.ref p.a), some (dSt p.sC p.sK), none, none] S (endQ Q X1)
  unfold w__law_stands
  have hok := hA.s.ok
  have hl := hok.l1
  have hlk := hok.lk
  obtain ⟨i0, i1⟩ := la_ix (S := S) (sC := p.sC) (sK := p.sK)
  refine seq_k fun q1 n1 r1 _ _ x1 => ?_
  simp only [wIf, wNot, wTest, wCall, wProp, wCons, wNil, wVar, getV, some!]
  refine ⟨isSt hA.s.ob, p.a, p.pC, p.pK, p.z, p.st, rfl, hA.s, ?_⟩
  simp only [wCB, wLc, wIt, wBin, wC, wVar, wCons, wNil, getV, some!, i0, seqA_at hA.l.hc, delVs, delV, List.length_map]
  refine ⟨by unfold sizeLine; omega, free_comp (st := p.st) (seqA_at hA.l.hc) (fun d => rfl) fun ds hds => ?_⟩
  have ol : ∀ Q, oLen S [.lst ds] Q = Q (.int (ds.length : Nat)) S := fun Q => oLen_at (S := S) (d := .lst ds) rfl Q
  rw [ol, hds]
  refine same_go trivial ?_
  simp only [Bool.not_true, Bool.false_eq_true, if_false, wNext]
  refine n1 _ _ ?_
  refine seq_k fun q2 n2 r2 _ _ x2 => ?_
  simp only [wFor, wRg1, wCB, wBin, wCons, wNil, wC, wVar, getV, some!, i0, la_len hA.l, asI, Int.toNat_natCast]
  refine ⟨by omega, ?_⟩
  refine forI_invq (fun k e' S' => Ext S S' ∧ ∃ x1, e' = [some (.ref p.a), some (dSt p.sC p.sK), x1, none]) ⟨ext_refl S, _, rfl⟩ (fun _ _ _ _ => trivial) ?_ ?_
  · rintro k d e' S' hi ⟨E, y1, rfl⟩ q hq hrt _ _ _
    obtain ⟨hkl, rfl⟩ := rngD_get hi
    rw [Int.zero_add]
    have hA2 := pr_ext hA E
    simp only [gN, setV]
    refine seq_k fun q3 n3 r3 _ _ x3 => ?_
    simp only [wIf, wNot, wTest, wCall, wMeth, wCons, wNil, wVar, getV, some!]
    refine ⟨isSt hA2.s.ob, p.a, p.pC, p.pK, p.z, p.st, _, .num .non, rfl, hA2.s, kn_int _, ?_⟩
    unfold Out
    have hs1 : (stepF p.z p.st .holders (.int (k : Nat)) (.num .non)) = (p.st, .told (.int (p.st.cs.getD k 0 : Nat))) := by
      unfold stepF
      rw [if_neg (by decide), blk_k hkl]
      exact if_pos rfl
    rw [hs1]
    dsimp only
    intro S2 hA3 fr
    have E2 := ext_trans E (keep_ext hA2.s hA3 fr)
    have hA4 := pr_ext hA E2
    obtain ⟨j0, j1⟩ := la_ix (S := S2) (sC := p.sC) (sK := p.sK)
    simp only [wBin, wVar, wC, getV, some!, j0, la_C hA4.l hkl]
    refine same_go trivial ?_
    simp only [Bool.not_true, Bool.false_eq_true, if_false, wNext]
    refine n3 _ _ ?_
    simp only [wIf, wAnd, wTest, wBin, wVar, wC, getV, some!, j0, la_C hA4.l hkl, oGt, oI0, decide_eq_true_eq]
    by_cases h0 : p.st.cs.getD k 0 = 0
    · rw [if_neg (by omega)]
      simp only [Bool.false_eq_true, if_false, wNext]
      exact hq _ _ ⟨E2, _, rfl⟩
    rw [if_pos (by omega)]
    simp only [wNot, wTest, wCall, wMeth, wCons, wNil, wVar, getV, some!]
    refine ⟨isSt hA4.s.ob, p.a, p.pC, p.pK, p.z, p.st, _, .num .non, rfl, hA4.s, kn_int _, ?_⟩
    unfold Out
    have hs2 : (stepF p.z p.st .rows (.int (k : Nat)) (.num .non)) = (p.st, .told (.tup ((p.st.ks.getD k []).map dRw))) := by
      unfold stepF
      rw [if_neg (by decide), blk_k hkl]
      dsimp only
      rw [if_neg (by decide), if_neg h0]
      rfl
    rw [hs2]
    dsimp only
    intro S3 hA5 fr3
    have E3 := ext_trans E2 (keep_ext hA4.s hA5 fr3)
    have hA6 := pr_ext hA E3
    obtain ⟨k0, k1⟩ := la_ix (S := S3) (sC := p.sC) (sK := p.sK)
    obtain ⟨r, hr, hrS, iK⟩ := la_el hA6.l (b := k) (by omega)
    have ot : ∀ Q, oTuple S3 [.ref r] Q = Q (.tup ((p.st.ks.getD k []).map dRw)) S3 := fun Q => oTuple_at (seqA_at hrS) Q
    simp only [wCB, wCons, wNil, wBin, wVar, wC, getV, some!, k1, iK, ot]
    refine same_go (plain_ks hok hg) ?_
    simp only [Bool.not_true, Bool.false_eq_true, if_false, wNext]
    exact hq _ _ ⟨E3, _, rfl⟩
  · rintro e' S' ⟨E, y1, rfl⟩
    refine n2 _ _ ?_
    simp only [wRet, wC]
    exact h S' E
end K12
set_option Elab.async false
set_option linter.all false
set_option maxRecDepth 100000
set_option maxHeartbeats 1000000
namespace K12
open PySem PySem.Spec PyProof.Rows L2 DL
theorem compI_all {t : WPg} {te : WPe} {g : Sto → Prop} {env : DE} {items : List D} {S : Sto} {Q : List D → Sto → Prop} (P : Nat → List D → Sto → Prop) (h0 : P 0 [] S) (hg : ∀ i acc S, P i acc S → g S)
    (hs : ∀ i d acc S, items[i]? = some d → P i acc S → t d env fun e => te e S (fun y S2 => P (i + 1) (acc ++ [y]) S2) X0) (hd : ∀ acc S, P items.length acc S → Q acc S) : compI t wYes te g env items S Q :=
  compI_inv P h0 hg (fun i d acc S hi h => hs i d acc S hi h) hd
/-! ### a row, as lists -/
abbrev PT := Addr × Addr × Addr × (Vec × Vec)
structure LP (S S' : Sto) (ps : List (Vec × Vec)) (T : List PT) : Prop where
  e : Ext S S'
  ps : T.map (fun t => t.2.2.2) = ps
  at_ : ∀ t, t ∈ T → S' t.1 = some (.lst [.ref t.2.1, .ref t.2.2.1]) ∧ S' t.2.1 = some (.lst (t.2.2.2.1.map D.int)) ∧ S' t.2.2.1 = some (.lst (t.2.2.2.2.map D.int)) ∧ S t.1 = none ∧ S t.2.1 = none
theorem LP.ext {S S' S2 : Sto} {ps : List (Vec × Vec)} {T : List PT} (h : LP S S' ps T) (E : Ext S' S2) : LP S S2 ps T := ⟨ext_trans h.e E, h.ps, fun t ht => by
  obtain ⟨a, b, d, e, f⟩ := h.at_ t ht
  exact ⟨E _ _ a, E _ _ b, E _ _ d, e, f⟩⟩
theorem LP.nk {S S' : Sto} {ps : List (Vec × Vec)} {T : List PT} (h : LP S S' ps T) {t u : PT} (ht : t ∈ T) (hu : u ∈ T) : t.2.1 ≠ u.1 := fun e => by
  have a := (h.at_ t ht).2.1
  have b := (h.at_ u hu).1
  rw [e, b] at a
  have := MO.lst.inj (Option.some.inj a)
  cases h2 : t.2.2.2.1 with
  | nil => rw [h2] at this; cases this
  | cons x y => rw [h2] at this; cases this
theorem len__law_listed (c : Cl) : ∀ ds S Q E, sp__law_listed c ds S Q E → ds.length = 1 := by
  rintro ds S Q E ⟨_, rfl, _⟩; rfl
theorem rw1 {S : Sto} {r : Rw} {Q : Qd} : oIx S (dRw r) (.int 1) Q = Q (dT r.wts) S := oIx_eq (xs := [.tup (r.pairs.map dP), dT r.wts]) rfl rfl Q
theorem rd__law_listed (c : Cl) : ∀ ds S Q X1, sp__law_listed c ds S Q X1 → w__law_listed c (startD N__law_listed_ ds) S (endQ Q X1) := by
  rintro ds S Q X1 ⟨r, rfl, hg, h⟩
  show w__law_listed c [some (dRw r), none, none] S (endQ Q X1)
  unfold w__law_listed
  obtain ⟨w, L, m, hok, hw4, hL12, hm3⟩ := hg
  have hpl : r.pairs.length ≤ 3 := by have := hok.pa.1; omega
  have hwl : r.wts.length ≤ 12 := by have := hok.wt.1; omega
  have hT : ∀ S, seqA S (.tup (r.pairs.map dP)) = some (r.pairs.map dP) := fun _ => rfl
  have hV : ∀ S v, seqA S (dT v) = some (v.map D.int) := fun _ _ => rfl
  refine seq_k fun q1 n1 r1 _ _ x1 => ?_
  simp only [wSet, wLcM, wIt, wBin, wVar, wC, getV, some!, rw0, hT, delVs, delV, List.length_map]
  refine ⟨by unfold sizeLine; omega, compI_all (fun k acc S' => ∃ T, acc = T.map (fun t => D.ref t.1) ∧ LP S S' (r.pairs.take k) T) ⟨[], rfl, ext_refl S, rfl, fun t ht => by cases ht⟩ (fun _ _ _ _ => trivial) ?_ ?_⟩
  · rintro i d acc S1 hi ⟨T, rfl, hL⟩
    obtain ⟨p, hp, rfl⟩ : ∃ p, r.pairs[i]? = some p ∧ dP p = d := by
      rw [List.getElem?_map] at hi
      cases e : r.pairs[i]? with
      | none => rw [e] at hi; cases hi
      | some p => rw [e] at hi; exact ⟨p, rfl, Option.some.inj hi⟩
    simp only [gN, setV, wLstM, wCons, wNil, wCB, wBin, wVar, wC, getV, some!, pr0, pr1, oListM, one, hV]
    intro k hk v hv
    refine ⟨show 2 ≤ sizeLine by decide, fun q hq => ?_⟩
    have hk0 := ext_none hL.e hk
    have E2 : Ext S1 (put S1 k (.lst (p.1.map D.int))) := ext_put (ext_refl _) hk
    have hk2 : put S1 k (.lst (p.1.map D.int)) k = some (.lst (p.1.map D.int)) := put_same
    generalize put S1 k (.lst (p.1.map D.int)) = S2 at E2 hk2 hv hq ⊢
    have E3 : Ext S2 (put S2 v (.lst (p.2.map D.int))) := ext_put (ext_refl _) hv
    have hv2 : put S2 v (.lst (p.2.map D.int)) v = some (.lst (p.2.map D.int)) := put_same
    generalize put S2 v (.lst (p.2.map D.int)) = S3 at E3 hv2 hq ⊢
    have hq0 := ext_none (ext_trans hL.e (ext_trans E2 E3)) hq
    have E4 : Ext S3 (put S3 q (.lst [.ref k, .ref v])) := ext_put (ext_refl _) hq
    have hq2 : put S3 q (.lst [.ref k, .ref v]) q = some (.lst [.ref k, .ref v]) := put_same
    generalize put S3 q (.lst [.ref k, .ref v]) = S4 at E4 hq2 ⊢
    have hL4 := hL.ext (ext_trans E2 (ext_trans E3 E4))
    refine ⟨T ++ [(q, k, v, p)], by rw [List.map_append]; rfl, hL4.e, ?_, fun t ht => ?_⟩
    · rw [List.map_append, hL.ps, List.take_add_one, hp]; rfl
    · rcases List.mem_append.mp ht with y | y
      · exact hL4.at_ t y
      · rw [List.mem_singleton] at y; subst y
        exact ⟨hq2, E4 _ _ (E3 _ _ hk2), E4 _ _ hv2, hq0, hk0⟩
  rintro acc S2 ⟨T, rfl, hL⟩ hp hhp
  rw [List.length_map, List.take_length] at hL
  have hp0 := ext_none hL.e hhp
  have E3 := ext_put (m := .lst (T.map fun t => D.ref t.1)) (ext_refl S2) hhp
  have hp3 : put S2 hp (.lst (T.map fun t => D.ref t.1)) hp = some (.lst (T.map fun t => D.ref t.1)) := put_same
  generalize put S2 hp (.lst (T.map fun t => D.ref t.1)) = S3 at E3 hp3 ⊢
  refine n1 _ _ ?_
  simp only [setV, wRet, wLstM, wCons, wNil, wCB, wBin, wVar, wC, getV, some!, rw1, oListM, one, hV]
  intro hw hhw
  refine ⟨show 2 ≤ sizeLine by decide, fun hh hhh => ?_⟩
  have hw0 := ext_none (ext_trans hL.e E3) hhw
  have nwp := ne_fresh hp3 hhw
  have E4 := ext_put (m := .lst (r.wts.map D.int)) (ext_refl S3) hhw
  have hw4' : put S3 hw (.lst (r.wts.map D.int)) hw = some (.lst (r.wts.map D.int)) := put_same
  generalize put S3 hw (.lst (r.wts.map D.int)) = S4 at E4 hw4' hhh ⊢
  have h0 := ext_none (ext_trans hL.e (ext_trans E3 E4)) hhh
  have nhp := ne_fresh (E4 _ _ hp3) hhh
  have nhw := ne_fresh hw4' hhh
  have E5 := ext_put (m := .lst [.ref hp, .ref hw]) (ext_refl S4) hhh
  have hh5 : put S4 hh (.lst [.ref hp, .ref hw]) hh = some (.lst [.ref hp, .ref hw]) := put_same
  generalize put S4 hh (.lst [.ref hp, .ref hw]) = S5 at E5 hh5 ⊢
  have hp5 := E5 _ _ (E4 _ _ hp3)
  have hw5 := E5 _ _ hw4'
  have hL5 := hL.ext (ext_trans E3 (ext_trans E4 E5))
  have ne2 : ∀ x m, S2 x = some m → x ≠ hh ∧ x ≠ hp ∧ x ≠ hw := fun x m hx => ⟨ne_fresh (E4 _ _ (E3 _ _ hx)) hhh, ne_fresh hx hhp, ne_fresh (E3 _ _ hx) hhw⟩
  have hTl : T.length ≤ 3 := by
    have := congrArg List.length hL.ps
    rw [List.length_map] at this; omega
  have mq : T.map (fun t => D.ref t.1) = (T.map fun t => t.1).map D.ref := by rw [List.map_map]; rfl
  have wl : ∀ p, p ∈ r.pairs → p.1.length ≤ 20 := fun p hp => by have := (hok.pa.2 p hp).1.1; omega
  have mp : ∀ t, t ∈ T → t.2.2.2 ∈ r.pairs := fun t ht => by rw [← hL.ps]; exact List.mem_map.mpr ⟨t, ht, rfl⟩
  refine h hh hp hw (T.map fun t => t.1) (T.map fun t => t.2.1) S5 hL5.e ⟨hh5, by rw [← mq]; exact hp5, ⟨_, hw5, by rw [List.length_map]; omega⟩, ?_, ?_, by rw [List.length_map]; omega, ⟨Ne.symm nhp, Ne.symm nhw, nwp⟩, ?_, ?_⟩ ?_ ?_
  · intro q hq
    obtain ⟨t, ht, rfl⟩ := List.mem_map.mp hq
    exact ⟨t.2.1, [.ref t.2.2.1], List.mem_map.mpr ⟨t, ht, rfl⟩, (hL5.at_ t ht).1, show 1 ≤ 20 by decide⟩
  · intro k hk
    obtain ⟨t, ht, rfl⟩ := List.mem_map.mp hk
    exact ⟨_, (hL5.at_ t ht).2.1, by rw [List.length_map]; exact wl _ (mp t ht)⟩
  · intro q hq
    obtain ⟨t, ht, rfl⟩ := List.mem_map.mp hq
    exact ne2 _ _ (hL.at_ t ht).1
  · intro k hk
    obtain ⟨t, ht, rfl⟩ := List.mem_map.mp hk
    obtain ⟨x1, x2, x3⟩ := ne2 _ _ (hL.at_ t ht).2.1
    refine ⟨x1, x2, x3, fun y => ?_⟩
    obtain ⟨u, hu, e⟩ := List.mem_map.mp y
    exact hL.nk ht hu e.symm
  · refine ⟨.ref hp, .ref hw, T.map (fun t => D.ref t.1), seqA_at hh5, seqA_at hp5, ?_, seqA_at hw5, by omega, ?_⟩
    · rw [← hL.ps, List.length_map, List.length_map]
    · intro i p q hi hq
      rw [List.getElem?_map] at hi
      rw [← hL.ps, List.getElem?_map] at hq
      cases e : T[i]? with
      | none => rw [e] at hi; cases hi
      | some t =>
        rw [e] at hi hq
        obtain rfl := Option.some.inj hi
        obtain rfl := Option.some.inj hq
        obtain ⟨x1, x2, x3, _⟩ := hL5.at_ t (List.mem_of_getElem? e)
        exact ⟨_, _, seqA_at x1, seqA_at x2, seqA_at x3⟩
  · intro x hx
    simp only [handL, List.mem_cons, List.mem_append] at hx
    rcases hx with rfl | rfl | rfl | hx | hx
    · exact h0
    · exact hp0
    · exact hw0
    · obtain ⟨t, ht, rfl⟩ := List.mem_map.mp hx
      exact (hL.at_ t ht).2.2.2.1
    · obtain ⟨t, ht, rfl⟩ := List.mem_map.mp hx
      exact (hL.at_ t ht).2.2.2.2
/-! ### spoiling it -/
theorem hand_k {S : Sto} {n : Nat} {h hp hw k : Addr} {qs ks : List Addr} {xs : List D} {d : D} (H : HandAt S n h hp hw qs ks) (hk : k ∈ ks) (hS : S k = some (.lst xs)) (hl : xs.length ≤ n) : HandAt (put S k (.lst (xs ++ [d]))) (n + 1) h hp hw qs ks := by
  obtain ⟨k1, k2, k3, k4⟩ := H.nk k hk
  refine ⟨(put_ne (Ne.symm k1)).trans H.e1, (put_ne (Ne.symm k2)).trans H.e2, ?_, fun q hq => ?_, fun k' hk' => ?_, H.l, H.nh, H.nq, H.nk⟩
  · obtain ⟨ys, y1, y2⟩ := H.e3
    exact ⟨ys, (put_ne (Ne.symm k3)).trans y1, by omega⟩
  · obtain ⟨k', rest, y0, y1, y2⟩ := H.e4 q hq
    exact ⟨k', rest, y0, (put_ne (show q ≠ k from fun z => k4 (z ▸ hq))).trans y1, by omega⟩
  · by_cases z : k' = k
    · subst z
      exact ⟨_, put_same, by rw [List.length_append]; simp only [List.length_singleton]; omega⟩
    · obtain ⟨ys, y1, y2⟩ := H.e5 k' hk'
      exact ⟨ys, (put_ne z).trans y1, by omega⟩
theorem hand_q {S : Sto} {n : Nat} {h hp hw k q : Addr} {qs ks : List Addr} {rest : List D} {d : D} (H : HandAt S n h hp hw qs ks) (hq : q ∈ qs) (hk : k ∈ ks) (hS : S q = some (.lst (.ref k :: rest))) (hl : rest.length ≤ n) : HandAt (put S q (.lst (.ref k :: rest ++ [d]))) (n + 1) h hp hw qs ks := by
  obtain ⟨k1, k2, k3⟩ := H.nq q hq
  refine ⟨(put_ne (Ne.symm k1)).trans H.e1, (put_ne (Ne.symm k2)).trans H.e2, ?_, fun q' hq' => ?_, fun k' hk' => ?_, H.l, H.nh, H.nq, H.nk⟩
  · obtain ⟨ys, y1, y2⟩ := H.e3
    exact ⟨ys, (put_ne (Ne.symm k3)).trans y1, by omega⟩
  · by_cases z : q' = q
    · subst z
      exact ⟨k, rest ++ [d], hk, put_same, by rw [List.length_append]; simp only [List.length_singleton]; omega⟩
    · obtain ⟨k', rest, y0, y1, y2⟩ := H.e4 q' hq'
      exact ⟨k', rest, y0, (put_ne z).trans y1, by omega⟩
  · obtain ⟨ys, y1, y2⟩ := H.e5 k' hk'
    exact ⟨ys, (put_ne (show k' ≠ q from fun z => (H.nk k' hk').2.2.2 (z ▸ hq))).trans y1, by omega⟩
theorem kl1 : kitB "tuple" "list" = some false := by decide +kernel
theorem kl2 : kitB "list" "list" = some true := by decide +kernel
theorem len__law_spoilt (c : Cl) : ∀ ds S Q E, sp__law_spoilt c ds S Q E → ds.length = 1 := by
  rintro ds S Q E (⟨_, rfl, _⟩ | ⟨_, _, _, _, _, rfl, _⟩) <;> rfl
theorem rd__law_spoilt (c : Cl) : ∀ ds S Q X1, sp__law_spoilt c ds S Q X1 → w__law_spoilt c (startD N__law_spoilt_ ds) S (endQ Q X1) := by
  rintro ds S Q X1 (⟨xs, rfl, h⟩ | ⟨hh, hp, hw, qs, ks, rfl, H, h⟩)
  · show w__law_spoilt c [some (.tup xs), none] S (endQ Q X1)
    unfold w__law_spoilt
    simp only [wIf, wTest, wIsi, wVar, getV, some!, tyN, kl1, Bool.false_eq_true, if_false, wNext]
    exact h
  · show w__law_spoilt c [some (.ref hh), none] S (endQ Q X1)
    unfold w__law_spoilt
    have hty : tyN S (.ref hh) = some "list" := by
      show (seqL S (.ref hh)).map (fun _ => "list") = _
      rw [seqL_at H.e1]; rfl
    have i0 : ∀ S', S' hh = some (.lst [.ref hp, .ref hw]) → ∀ Q, oIx S' (.ref hh) (.int 0) Q = Q (.ref hp) S' := fun S' z => oIx_eq (seqA_at z) rfl
    have i1 : ∀ S', S' hh = some (.lst [.ref hp, .ref hw]) → ∀ Q, oIx S' (.ref hh) (.int 1) Q = Q (.ref hw) S' := fun S' z => oIx_eq (seqA_at z) rfl
    have hql := H.l
    have hmh : hh ∈ handL hh hp hw qs ks := List.mem_cons_self
    have hmw : hw ∈ handL hh hp hw qs ks := List.mem_cons_of_mem _ (List.mem_cons_of_mem _ List.mem_cons_self)
    have hmq : ∀ q, q ∈ qs → q ∈ handL hh hp hw qs ks := fun q hq => List.mem_cons_of_mem _ (List.mem_cons_of_mem _ (List.mem_cons_of_mem _ (List.mem_append.mpr (.inl hq))))
    have hmk : ∀ q, q ∈ ks → q ∈ handL hh hp hw qs ks := fun q hq => List.mem_cons_of_mem _ (List.mem_cons_of_mem _ (List.mem_cons_of_mem _ (List.mem_append.mpr (.inr hq))))
    simp only [wIf, wTest, wIsi, wVar, getV, some!, hty, kl2, if_true]
    refine seq_k fun q1 n1 r1 _ _ x1 => ?_
    simp only [wFor, wIt, wBin, wVar, wC, getV, some!, i0 S H.e1, seqA_at H.e2]
    refine forI_invq (fun i e' S' => (∀ x, x ∉ handL hh hp hw qs ks → S' x = S x) ∧ HandAt S' (20 + 2 * i) hh hp hw qs ks ∧ ∃ y, e' = [some (.ref hh), y]) ⟨fun _ _ => rfl, H, _, rfl⟩ (fun i e' S' z => seqA_at z.2.1.e2) ?_ ?_
    · rintro i d e' S1 hi ⟨fr, H1, y, rfl⟩ q hq hrt _ _ _
      obtain ⟨qa, hqa, rfl⟩ : ∃ p, qs[i]? = some p ∧ D.ref p = d := by
        rw [List.getElem?_map] at hi
        cases e : qs[i]? with
        | none => rw [e] at hi; cases hi
        | some p => rw [e] at hi; exact ⟨p, rfl, Option.some.inj hi⟩
      have hil := lt_of_some hqa
      have hqm := List.mem_of_getElem? hqa
      obtain ⟨k, rest, hk, hqS, hrl⟩ := H1.e4 qa hqm
      obtain ⟨xs, hxs, hxl⟩ := H1.e5 k hk
      have iq : ∀ Q, oIx S1 (.ref qa) (.int 0) Q = Q (.ref k) S1 := oIx_eq (seqA_at hqS) (at_z (by decide) rfl)
      simp only [gN, setV]
      refine seq_k fun q2 n2 r2 _ _ x2 => ?_
      simp only [wDrop, wMt, wBin, wCons, wNil, wVar, wC, getV, some!, iq, mutL, hxs, oAppend, one]
      refine ⟨by unfold sizeLine; omega, ?_⟩
      refine n2 _ _ ?_
      have H2 := hand_k (d := .int 0) H1 hk hxs hxl
      have hqS2 : put S1 k (.lst (xs ++ [.int 0])) qa = some (.lst (.ref k :: rest)) := (put_ne (show qa ≠ k from fun z => (H1.nk k hk).2.2.2 (z ▸ hqm))).trans hqS
      have fr2 : ∀ x, x ∉ handL hh hp hw qs ks → put S1 k (.lst (xs ++ [.int 0])) x = S x := fun x hx => (put_ne (show x ≠ k from fun z => hx (z ▸ hmk k hk))).trans (fr x hx)
      generalize put S1 k (.lst (xs ++ [.int 0])) = S2 at H2 hqS2 fr2 ⊢
      simp only [wDrop, wMt, wLst, wCons, wNil, wVar, getV, some!, mutL, hqS2, oAppend, one]
      refine ⟨show 0 ≤ sizeLine by decide, by unfold sizeLine; simp only [List.length_cons]; omega, ?_⟩
      refine hq _ _ ⟨fun x hx => (put_ne (show x ≠ qa from fun z => hx (z ▸ hmq qa hqm))).trans (fr2 x hx), ?_, _, rfl⟩
      rw [show 20 + 2 * (i + 1) = 20 + 2 * i + 1 + 1 by omega]
      exact hand_q H2 hqm hk hqS2 (by omega)
    · rintro e' S1 ⟨fr, H1, y, rfl⟩
      refine n1 _ _ ?_
      rw [List.length_map] at H1
      obtain ⟨xs, hxs, hxl⟩ := H1.e3
      refine seq_k fun q2 n2 r2 _ _ x2 => ?_
      simp only [wDrop, wMt, wBin, wCons, wNil, wVar, wC, getV, some!, i1 S1 H1.e1, mutL, hxs, oAppend, one]
      refine ⟨by unfold sizeLine; omega, ?_⟩
      refine n2 _ _ ?_
      have hhS : put S1 hw (.lst (xs ++ [.int 0])) hh = some (.lst [.ref hp, .ref hw]) := (put_ne H.nh.2.1).trans H1.e1
      have fr2 : ∀ x, x ∉ handL hh hp hw qs ks → put S1 hw (.lst (xs ++ [.int 0])) x = S x := fun x hx => (put_ne (show x ≠ hw from fun z => hx (z ▸ hmw))).trans (fr x hx)
      generalize put S1 hw (.lst (xs ++ [.int 0])) = S2 at hhS fr2 ⊢
      simp only [wDrop, wMt, wLst, wCons, wNil, wVar, getV, some!, mutL, hhS, oAppend, one]
      refine ⟨show 0 ≤ sizeLine by decide, show 3 ≤ sizeLine by decide, ?_⟩
      exact h _ fun x hx => (put_ne (show x ≠ hh from fun z => hx (z ▸ hmh))).trans (fr2 x hx)
theorem len__law_hands (c : Cl) : ∀ ds S Q E, sp__law_hands c ds S Q E → ds.length = 3 := by
  rintro ds S Q E (⟨_, _, rfl, _⟩ | ⟨_, _, _, rfl, _⟩) <;> rfl
theorem rd__law_hands (c : Cl) : ∀ ds S Q X1, sp__law_hands c ds S Q X1 → w__law_hands c (startD N__law_hands_ ds) S (endQ Q X1) := by
  rintro ds S Q X1 (⟨r, b, rfl, hg, h1, h2⟩ | ⟨w, v, b, rfl, hw, h⟩)
  · show w__law_hands c [some (.str (wS .put)), some (dRw r), some (.bl b)] S (endQ Q X1)
    unfold w__law_hands
    refine seq_k fun q1 n1 r1 _ _ x1 => ?_
    simp only [wIf, wAnd, wTest, wBin, wVar, wC, getV, some!, oEq, shW, sh_put, eq_put, true_and, decide_true, if_true]
    cases b with
    | true =>
      simp only [if_true, wRet, wCall, wCons, wNil, wVar, getV, some!]
      refine ⟨r, rfl, hg, fun h hp hw qs ks S' E H R f => ?_⟩
      rw [r1]
      exact h2 h hp hw qs ks S' E H R f
    | false =>
      simp only [Bool.false_eq_true, if_false, wNext]
      refine n1 _ _ ?_
      simp only [wRet, wVar, getV, some!]
      exact h1
  · show w__law_hands c [some (.str (wS w)), some v, some (.bl b)] S (endQ Q X1)
    unfold w__law_hands
    refine seq_k fun q1 n1 r1 _ _ x1 => ?_
    simp only [wIf, wAnd, wTest, wBin, wVar, wC, getV, some!, oEq, shW, sh_put, eq_put, true_and, decide_eq_false hw, Bool.false_eq_true, if_false, wNext]
    refine n1 _ _ ?_
    simp only [wRet, wVar, getV, some!]
    exact h
/-! ### looking at both -/
theorem two_ix {k : Nat} (h : k < 2) : ∃ b : Bool, ∀ (f : Bool → D) (S : Sto) (Q : Qd), oIx S (.lst [f false, f true]) (.int (k : Nat)) Q = Q (f b) S := by
  rcases (show k = 0 ∨ k = 1 by omega) with rfl | rfl
  · exact ⟨false, fun f S Q => oIx_eq (xs := [f false, f true]) rfl rfl Q⟩
  · exact ⟨true, fun f S Q => oIx_eq (xs := [f false, f true]) rfl rfl Q⟩
theorem len__law_looks (c : Cl) : ∀ ds S Q E, sp__law_looks c ds S Q E → ds.length = 4 := by
  rintro ds S Q E ⟨_, _, _, rfl, _⟩; rfl
theorem rd__law_looks (c : Cl) : ∀ ds S Q X1, sp__law_looks c ds S Q X1 → w__law_looks c (startD N__law_looks_ ds) S (endQ Q X1) := by
  rintro ds S Q X1 ⟨A, d, nb, rfl, hT, hd, h⟩
  show w__law_looks c [some (.lst [.ref (A false).a, .ref (A true).a]), some (.lst [dSt (A false).sC (A false).sK, dSt (A true).sC (A true).sK]), some d, some (.bl nb), none, none, none] S (endQ Q X1)
  unfold w__law_looks
  refine seq_k fun q1 n1 r1 _ _ x1 => ?_
  simp only [wFor, wRg1, wC, asI]
  refine ⟨by decide, ?_⟩
  refine forI_invq (fun k e' S' => Ext S S' ∧ ∃ x4 x5 x6, e' = [some (.lst [.ref (A false).a, .ref (A true).a]), some (.lst [dSt (A false).sC (A false).sK, dSt (A true).sC (A true).sK]), some d, some (.bl nb), x4, x5, x6]) ⟨ext_refl S, _, _, _, rfl⟩ (fun _ _ _ _ => trivial) ?_ ?_
  · rintro k d1 e' S' hi ⟨E, y4, y5, y6, rfl⟩ q hq hrt _ _ _
    obtain ⟨hkl, rfl⟩ := rngD_get (n := 2) hi
    rw [Int.zero_add]
    obtain ⟨b, hb⟩ := two_ix hkl
    have s0 : ∀ S Q, oIx S (.lst [.ref (A false).a, .ref (A true).a]) (.int (k : Nat)) Q = Q (.ref (A b).a) S := hb fun b => .ref (A b).a
    have s1 : ∀ S Q, oIx S (.lst [dSt (A false).sC (A false).sK, dSt (A true).sC (A true).sK]) (.int (k : Nat)) Q = Q (dSt (A b).sC (A b).sK) S := hb fun b => dSt (A b).sC (A b).sK
    have hg := hT.rg b
    have hA := pr_ext (hT.at_ b) E
    have hok := hA.s.ok
    have hl := hok.l1
    simp only [gN, setV]
    refine seq_k fun q3 n3 r3 _ _ x3 => ?_
    simp only [wIf, wNot, wTest, wCall, wProp, wBin, wCons, wNil, wVar, getV, some!, s0, s1]
    refine ⟨isSt hA.s.ob, _, _, _, _, _, rfl, hA.s, _, _, _, _, rfl, hA.l, hl.2, ?_⟩
    refine same_go trivial ?_
    simp only [Bool.not_true, Bool.false_eq_true, if_false, wNext]
    refine n3 _ _ ?_
    have hws : ∀ S, seqA S (.lst [.str "rows", .str "holders"]) = some [.str "rows", .str "holders"] := fun _ => rfl
    simp only [wFor, wIt, wLst, wCons, wNil, wC, some!, hws]
    refine ⟨show 2 ≤ sizeLine by decide, forI_invq (fun i e' S' => Ext S S' ∧ ∃ x5 x6, e' = [some (.lst [.ref (A false).a, .ref (A true).a]), some (.lst [dSt (A false).sC (A false).sK, dSt (A true).sC (A true).sK]), some d, some (.bl nb), some (.int (k : Nat)), x5, x6]) ⟨E, _, _, rfl⟩ (fun _ _ _ _ => trivial) ?_ ?_⟩
    · rintro i d2 e' S2 hi2 ⟨E2, z5, z6, rfl⟩ qa hqa hrta _ _ _
      obtain ⟨w, hw, rfl⟩ : ∃ w, (w = .rows ∨ w = .holders) ∧ D.str (wS w) = d2 := by
        match i, hi2 with
        | 0, hi2 => exact ⟨.rows, .inl rfl, Option.some.inj hi2⟩
        | 1, hi2 => exact ⟨.holders, .inr rfl, Option.some.inj hi2⟩
      have hA2 := pr_ext (hT.at_ b) E2
      have hfv : FineV w (.num .non) := by rcases hw with rfl | rfl <;> exact trivial
      simp only [gN, setV]
      refine seq_k fun q4 n4 r4 _ _ x4 => ?_
      simp only [wSet, wCall, wBin, wCons, wNil, wVar, wC, getV, setV, some!, s1]
      refine ⟨_, _, _, _, (A b).z, 0, w, d, .num .non, .non, rfl, hA2.l, hA2.s.ok, .inr hw, hd, hfv, by rcases hw with rfl | rfl <;> exact trivial, fun rs' S3 hA3 _ _ hk => n4 _ _ ?_⟩
      obtain ⟨rfl, rfl⟩ := hk hw
      simp only [wIf, wNot, wTest, wCall, wBin, wCons, wNil, wVar, wC, getV, some!, s0]
      refine ⟨_, _, _, _, _, w, d, .num .non, .non, nb, rfl, hA2.s, hd, hfv, by rcases hw with rfl | rfl <;> exact trivial, fun S4 hA4 fr => ?_⟩
      have hst : (stepF (A b).z (A b).st w d (.num .non)).1 = (A b).st := by
        rcases hw with rfl | rfl
        · exact step_rows1
        · exact step_hold1
      rw [hst] at hA4
      refine same_go (res_plain hok hg hd hfv) ?_
      simp only [Bool.not_true, Bool.false_eq_true, if_false, wNext]
      exact hqa _ _ ⟨ext_trans E2 (keep_ext hA2.s hA4 fr), _, _, rfl⟩
    · rintro e' S2 ⟨E2, z5, z6, rfl⟩
      exact hq _ _ ⟨E2, _, _, _, rfl⟩
  · rintro e' S' ⟨E, y4, y5, y6, rfl⟩
    refine n1 _ _ ?_
    simp only [wRet, wC]
    exact h S' E
end K12
set_option Elab.async false
set_option linter.all false
set_option maxRecDepth 100000
set_option maxHeartbeats 1000000
namespace K12
open PySem PySem.Spec PyProof.Rows L2 DL
/-! ### what a step changes -/
theorem step_cases {z : Nat} {st : StV} {w : Word} {d : D} {v : Vl} : (stepF z st w d v).1 = st ∨ (∃ b n, (stepF z st w d v).1 = ⟨st.cs.set b n, st.ks⟩) ∨ (∃ b n, (stepF z st w d v).1 = ⟨st.cs.set b n, st.ks.set b []⟩) ∨ (∃ b r, v = .row r ∧ (stepF z st w d v).1 = ⟨st.cs, st.ks.set b (st.ks.getD b [] ++ [r])⟩) ∨ (∃ b k, (stepF z st w d v).1 = ⟨st.cs, st.ks.set b ((st.ks.getD b []).take k)⟩) := by
  unfold stepF
  by_cases ht : w = .take
  · rw [if_pos ht]
    unfold takeF
    cases e : st.cs.findIdx? (· == 0) with
    | none => exact .inl rfl
    | some i => exact .inr (.inl ⟨i, 1, rfl⟩)
  rw [if_neg ht]
  cases e : blk st.cs.length d with
  | none => exact .inl rfl
  | some b =>
    dsimp only
    by_cases hh : w = .holders
    · rw [if_pos hh]; exact .inl rfl
    rw [if_neg hh]
    by_cases h0 : st.cs.getD b 0 = 0
    · rw [if_pos h0]; exact .inl rfl
    rw [if_neg h0]
    unfold stepB
    cases w with
    | take => exact absurd rfl ht
    | holders => exact absurd rfl hh
    | rows => cases v <;> exact .inl rfl
    | hold => cases v <;> exact .inr (.inl ⟨b, _, rfl⟩)
    | release =>
      by_cases h1 : st.cs.getD b 0 = 1
      · cases v <;> exact .inr (.inr (.inl ⟨b, _, by dsimp only; rw [if_pos h1]⟩))
      · cases v <;> exact .inr (.inl ⟨b, _, by dsimp only; rw [if_neg h1]⟩)
    | put =>
      cases v with
      | num y => exact .inl rfl
      | row r =>
        dsimp only
        by_cases h1 : 1 < st.cs.getD b 0
        · rw [if_pos h1]; exact .inl rfl
        rw [if_neg h1]
        by_cases h2 : (st.ks.getD b []).length = z
        · rw [if_pos h2]; exact .inl rfl
        · rw [if_neg h2]; exact .inr (.inr (.inr (.inl ⟨b, r, rfl, rfl⟩)))
    | shorten =>
      cases v with
      | row r => exact .inl rfl
      | num y =>
        dsimp only
        by_cases h1 : 1 < st.cs.getD b 0
        · rw [if_pos h1]; exact .inl rfl
        rw [if_neg h1]
        cases e2 : blk ((st.ks.getD b []).length + 1) y with
        | none => exact .inl rfl
        | some k => exact .inr (.inr (.inr (.inr ⟨b, k, rfl⟩)))
theorem step_len {z : Nat} {st : StV} {w : Word} {d : D} {v : Vl} : (stepF z st w d v).1.cs.length = st.cs.length := by
  rcases step_cases (z := z) (st := st) (w := w) (d := d) (v := v) with e | ⟨b, n, e⟩ | ⟨b, n, e⟩ | ⟨b, r, _, e⟩ | ⟨b, k, e⟩ <;> rw [e]
  · exact List.length_set
  · exact List.length_set
theorem good_set {ks : List (List Rw)} {b : Nat} {k' : List Rw} (h : ∀ k, k ∈ ks → ∀ r, r ∈ k → RowGood r) (h2 : ∀ r, r ∈ k' → RowGood r) : ∀ k, k ∈ ks.set b k' → ∀ r, r ∈ k → RowGood r := fun k hk => by
  rcases List.mem_or_eq_of_mem_set hk with y | rfl
  · exact h k y
  · exact h2
theorem getK_good {st : StV} {b : Nat} (h : GoodK st) : ∀ r, r ∈ st.ks.getD b [] → RowGood r := fun r hr => by
  rcases getK (st := st) (b := b) with e | e
  · rw [e] at hr; cases hr
  · exact h _ e r hr
theorem step_good {z : Nat} {st : StV} {w : Word} {d : D} {v : Vl} (h : GoodK st) (hv : ∀ r, v = .row r → RowGood r) : GoodK (stepF z st w d v).1 := by
  rcases step_cases (z := z) (st := st) (w := w) (d := d) (v := v) with e | ⟨b, n, e⟩ | ⟨b, n, e⟩ | ⟨b, r, hr, e⟩ | ⟨b, k, e⟩ <;> rw [e]
  · exact h
  · exact h
  · exact good_set h fun r hr => by cases hr
  · exact good_set h fun r2 hr2 => by
      rcases List.mem_append.mp hr2 with y | y
      · exact getK_good h r2 y
      · rw [List.mem_singleton] at y; subst y; exact hv _ hr
  · exact good_set h fun r2 hr2 => getK_good h r2 (List.mem_of_mem_take hr2)
/-! ### two stores and the law's own beside them -/
structure Fx where
  t : Addr
  sa : Bool → Addr
  sc : Bool → Addr
  sk : Bool → Addr
  mm : Bool → Nat
  zz : Bool → Nat
def dSh (F : Fx) (b : Bool) : D := .tup [.int (F.mm b : Nat), .int (F.zz b : Nat)]
def dS (F : Fx) : D := .lst [.ref (F.sa false), .ref (F.sa true)]
def dQ (F : Fx) : D := .lst [dSt (F.sc false) (F.sk false), dSt (F.sc true) (F.sk true)]
structure WS (c : Cl) (S : Sto) (F : Fx) (A : Bool → Pr) : Prop where
  two : TwoAt c S A
  sh : S F.t = some (.lst [dSh F false, dSh F true])
  mz : ∀ b, (A b).st.cs.length = F.mm b ∧ (A b).z = F.zz b
  ad : ∀ b, (A b).a = F.sa b ∧ (A b).sC = F.sc b ∧ (A b).sK = F.sk b
  nt : ∀ b, F.t ∉ own (A b)
theorem own_some {c : Cl} {S : Sto} {p : Pr} (h : PrAt c S p) {x : Addr} (hx : x ∈ own p) : ∃ m, S x = some m := by
  simp only [own, List.mem_cons] at hx
  rcases hx with rfl | rfl | rfl | rfl | rfl | hx
  · exact ⟨_, h.s.ob⟩
  · exact ⟨_, h.s.hc⟩
  · exact ⟨_, h.s.hk⟩
  · exact ⟨_, h.l.hc⟩
  · exact ⟨_, h.l.hk⟩
  · obtain ⟨i, hi, e⟩ := List.mem_iff_getElem.mp hx
    have hi2 : i < p.st.ks.length := by rw [← h.l.len]; exact hi
    exact ⟨_, h.l.el i x p.st.ks[i] (by rw [List.getElem?_eq_getElem hi, e]) (List.getElem?_eq_getElem hi2)⟩
theorem pr_keep {c : Cl} {S S' : Sto} {p : Pr} (h : PrAt c S p) (f : ∀ x m, x ∈ own p → S x = some m → S' x = some m) : PrAt c S' p := by
  have ma : p.a ∈ own p := List.mem_cons_self
  have m1 : p.pC ∈ own p := List.mem_cons_of_mem _ List.mem_cons_self
  have m2 : p.pK ∈ own p := List.mem_cons_of_mem _ (List.mem_cons_of_mem _ List.mem_cons_self)
  have m3 : p.sC ∈ own p := List.mem_cons_of_mem _ (List.mem_cons_of_mem _ (List.mem_cons_of_mem _ List.mem_cons_self))
  have m4 : p.sK ∈ own p := List.mem_cons_of_mem _ (List.mem_cons_of_mem _ (List.mem_cons_of_mem _ (List.mem_cons_of_mem _ List.mem_cons_self)))
  have m5 : ∀ r, r ∈ p.rs → r ∈ own p := fun r hr => List.mem_cons_of_mem _ (List.mem_cons_of_mem _ (List.mem_cons_of_mem _ (List.mem_cons_of_mem _ (List.mem_cons_of_mem _ hr))))
  exact ⟨⟨h.s.ok, f _ _ ma h.s.ob, f _ _ m1 h.s.hc, f _ _ m2 h.s.hk, h.s.ne⟩, ⟨f _ _ m3 h.l.hc, f _ _ m4 h.l.hk, h.l.len, fun i r k hr hk => f _ _ (m5 r (List.mem_of_getElem? hr)) (h.l.el i r k hr hk), h.l.nd⟩, h.d1⟩
theorem ws_keep {c : Cl} {S S' : Sto} {F : Fx} {A : Bool → Pr} (H : WS c S F A) (f : ∀ x m, (x = F.t ∨ ∃ b, x ∈ own (A b)) → S x = some m → S' x = some m) : WS c S' F A :=
  ⟨⟨fun b => pr_keep (H.two.at_ b) fun x m hx z => f x m (.inr ⟨b, hx⟩) z, H.two.dj, H.two.rg⟩, f _ _ (.inl rfl) H.sh, H.mz, H.ad, H.nt⟩
theorem ws_ext {c : Cl} {S S' : Sto} {F : Fx} {A : Bool → Pr} (H : WS c S F A) (E : Ext S S') : WS c S' F A := ws_keep H fun x m _ z => E x m z
def upd (A : Bool → Pr) (b : Bool) (p : Pr) : Bool → Pr := fun x => if x = b then p else A x
theorem upd_same {A : Bool → Pr} {b : Bool} {p : Pr} : upd A b p b = p := if_pos rfl
theorem upd_ne {A : Bool → Pr} {b x : Bool} {p : Pr} (h : x ≠ b) : upd A b p x = A x := if_neg h
theorem ws_step {c : Cl} {S S2 S3 : Sto} {F : Fx} {A : Bool → Pr} {b : Bool} {rs' : List Addr} {st' : StV} (H : WS c S F A) (h2 : StAt c S2 (A b).a (A b).pC (A b).pK (A b).z st') (f2 : ∀ x m, x ≠ (A b).pC → x ≠ (A b).pK → S x = some m → S2 x = some m)
    (h3 : LaAt S3 (A b).sC (A b).sK rs' st') (f3 : ∀ x m, x ≠ (A b).sC → x ≠ (A b).sK → x ∉ (A b).rs → S2 x = some m → S3 x = some m) (fs : ∀ x, x ∈ rs' → x ∈ (A b).rs ∨ S2 x = none) (hg : GoodK st') (hlen : st'.cs.length = (A b).st.cs.length) :
    WS c S3 F (upd A b { A b with rs := rs', st := st' }) := by
  have hp := H.two.at_ b
  obtain ⟨d1, d2, d3⟩ := hp.d1
  simp only [List.mem_cons, not_or] at d1 d2 d3
  -- what lies outside the acted store's own
  have out : ∀ x m, x ∉ own (A b) → S x = some m → S2 x = some m ∧ S3 x = some m := fun x m hx hS => by
    simp only [own, List.mem_cons, not_or] at hx
    have := f2 x m hx.2.1 hx.2.2.1 hS
    exact ⟨this, f3 x m hx.2.2.2.1 hx.2.2.2.2.1 hx.2.2.2.2.2 this⟩
  have ho : ∀ x, x ∈ own (A (!b)) → x ∉ own (A b) := fun x hx y => H.two.dj b x y hx
  have hq : PrAt c S3 { A b with rs := rs', st := st' } := by
    refine ⟨⟨h2.ok, f3 _ _ d3.1 d3.2.1 d3.2.2 h2.ob, f3 _ _ d1.1 d1.2.1 d1.2.2 h2.hc, f3 _ _ d2.1 d2.2.1 d2.2.2 h2.hk, h2.ne⟩, h3, ?_, ?_, ?_⟩
    · simp only [List.mem_cons, not_or]
      exact ⟨d1.1, d1.2.1, fun y => by
        rcases fs _ y with z | z
        · exact d1.2.2 z
        · rw [h2.hc] at z; cases z⟩
    · simp only [List.mem_cons, not_or]
      exact ⟨d2.1, d2.2.1, fun y => by
        rcases fs _ y with z | z
        · exact d2.2.2 z
        · rw [h2.hk] at z; cases z⟩
    · simp only [List.mem_cons, not_or]
      exact ⟨d3.1, d3.2.1, fun y => by
        rcases fs _ y with z | z
        · exact d3.2.2 z
        · rw [h2.ob] at z; cases z⟩
  have mem' : ∀ x, x ∈ own { A b with rs := rs', st := st' } → x ∈ own (A b) ∨ S2 x = none := fun x hx => by
    simp only [own, List.mem_cons] at hx ⊢
    rcases hx with e | e | e | e | e | e
    · exact .inl (.inl e)
    · exact .inl (.inr (.inl e))
    · exact .inl (.inr (.inr (.inl e)))
    · exact .inl (.inr (.inr (.inr (.inl e))))
    · exact .inl (.inr (.inr (.inr (.inr (.inl e)))))
    · rcases fs x e with y | y
      · exact .inl (.inr (.inr (.inr (.inr (.inr y)))))
      · exact .inr y
  have dis : ∀ x, x ∈ own { A b with rs := rs', st := st' } → x ∉ own (A (!b)) := fun x hx y => by
    rcases mem' x hx with z | z
    · exact H.two.dj b x z y
    · obtain ⟨m, hm⟩ := own_some (H.two.at_ (!b)) y
      rw [(out x m (ho x y) hm).1] at z; cases z
  have nb : (!b) ≠ b := by cases b <;> decide
  have cs : ∀ x : Bool, x = b ∨ x = !b := fun x => by cases x <;> cases b <;> decide
  refine ⟨⟨fun x => ?_, fun x y hy hy2 => ?_, fun x => ?_⟩, (out _ _ (H.nt b) H.sh).2, fun x => ?_, fun x => ?_, fun x => ?_⟩
  · rcases cs x with rfl | rfl
    · rw [upd_same]; exact hq
    · rw [upd_ne nb]
      exact pr_keep (H.two.at_ (!b)) fun y m hy z => (out y m (ho y hy) z).2
  · rcases cs x with rfl | rfl
    · rw [upd_same] at hy
      rw [upd_ne nb] at hy2
      exact dis y hy hy2
    · rw [upd_ne nb] at hy
      rw [Bool.not_not, upd_same] at hy2
      exact dis y hy2 hy
  · rcases cs x with rfl | rfl
    · rw [upd_same]; exact hg
    · rw [upd_ne nb]; exact H.two.rg _
  · rcases cs x with rfl | rfl
    · rw [upd_same]; exact ⟨hlen.trans (H.mz _).1, (H.mz _).2⟩
    · rw [upd_ne nb]; exact H.mz _
  · rcases cs x with rfl | rfl
    · rw [upd_same]; exact H.ad _
    · rw [upd_ne nb]; exact H.ad _
  · rcases cs x with rfl | rfl
    · rw [upd_same]
      intro y
      rcases mem' _ y with z | z
      · exact H.nt _ z
      · rw [(out _ _ (H.nt _) H.sh).1] at z; cases z
    · rw [upd_ne nb]; exact H.nt _
theorem hand_keep {S S' : Sto} {n : Nat} {h hp hw : Addr} {qs ks : List Addr} (H : HandAt S n h hp hw qs ks) (f : ∀ x m, x ∈ handL h hp hw qs ks → S x = some m → S' x = some m) : HandAt S' n h hp hw qs ks := by
  have mq : ∀ q, q ∈ qs → q ∈ handL h hp hw qs ks := fun q hq => List.mem_cons_of_mem _ (List.mem_cons_of_mem _ (List.mem_cons_of_mem _ (List.mem_append.mpr (.inl hq))))
  have mk : ∀ q, q ∈ ks → q ∈ handL h hp hw qs ks := fun q hq => List.mem_cons_of_mem _ (List.mem_cons_of_mem _ (List.mem_cons_of_mem _ (List.mem_append.mpr (.inr hq))))
  refine ⟨f _ _ List.mem_cons_self H.e1, f _ _ (List.mem_cons_of_mem _ List.mem_cons_self) H.e2, ?_, fun q hq => ?_, fun k hk => ?_, H.l, H.nh, H.nq, H.nk⟩
  · obtain ⟨xs, a, b⟩ := H.e3
    exact ⟨xs, f _ _ (List.mem_cons_of_mem _ (List.mem_cons_of_mem _ List.mem_cons_self)) a, b⟩
  · obtain ⟨k, rest, a, b, d⟩ := H.e4 q hq
    exact ⟨k, rest, a, f _ _ (mq q hq) b, d⟩
  · obtain ⟨xs, a, b⟩ := H.e5 k hk
    exact ⟨xs, f _ _ (mk k hk) a, b⟩
theorem hand_some {S : Sto} {n : Nat} {h hp hw : Addr} {qs ks : List Addr} (H : HandAt S n h hp hw qs ks) {x : Addr} (hx : x ∈ handL h hp hw qs ks) : ∃ m, S x = some m := by
  simp only [handL, List.mem_cons, List.mem_append] at hx
  rcases hx with rfl | rfl | rfl | hx | hx
  · exact ⟨_, H.e1⟩
  · exact ⟨_, H.e2⟩
  · obtain ⟨xs, a, b⟩ := H.e3
    exact ⟨_, a⟩
  · obtain ⟨k, rest, a, b, d⟩ := H.e4 x hx
    exact ⟨_, b⟩
  · obtain ⟨xs, a, b⟩ := H.e5 x hx
    exact ⟨_, a⟩
theorem rowAt_d {S : Sto} {r : Rw} (h : RowGood r) : RowAt S (dRw r) r := by
  obtain ⟨w, L, m, hok, hw4, hL12, hm3⟩ := h
  refine ⟨.tup (r.pairs.map dP), dT r.wts, r.pairs.map dP, rfl, rfl, List.length_map .., rfl, by have := hok.pa.1; omega, fun i p q hi hq => ?_⟩
  rw [List.getElem?_map, hq] at hi
  obtain rfl := Option.some.inj hi
  exact ⟨dT q.1, dT q.2, rfl, rfl, rfl⟩
end K12
set_option Elab.async false
set_option linter.all false
set_option maxRecDepth 100000
set_option maxHeartbeats 1000000
namespace K12
open PySem PySem.Spec PyProof.Rows L2 DL
def wTurn (c : Cl) : WPs := (wSeq (wSet 17 (wCall (sp__law_hands c) (wCons (wVar 12) (wCons (wVar 15) (wCons (wBin oEq (wBin oMod (wCB oInt (wCons (wBin oIx (wVar 9) (wC (.int 11))) wNil)) (wC (.int 2))) (wC (.int 0))) wNil)))))
  (wSeq (wSet 18 (wCall (sp__law_ask c) (wCons (wBin oIx (wVar 6) (wVar 10)) (wCons (wVar 12) (wCons (wVar 14) (wCons (wVar 17) (wCons (wBin oEq (wBin oMod (wCB oInt (wCons (wBin oIx (wVar 9) (wC (.int 9))) wNil)) (wC (.int 2))) (wC (.int 0))) wNil)))))))
  (wSeq (wSet 19 (wCall (sp__law_due c) (wCons (wBin oIx (wVar 7) (wVar 10)) (wCons (wBin oIx (wBin oIx (wVar 3) (wVar 10)) (wC (.int 1))) (wCons (wVar 12) (wCons (wVar 14) (wCons (wVar 15) wNil)))))))
  (wSeq (wIf (wNot (wTest (wCall (sp__law_same c) (wCons (wVar 18) (wCons (wVar 19) wNil))))) (wRet (wC (.bl false))) wNext)
  (wSeq (wIf (wTest (wBin oEq (wVar 12) (wC (.str "put")))) (wDrop (wCall (sp__law_spoilt c) (wCons (wVar 17) wNil))) wNext)
  (wSeq (wSet 20 (wVar 14))
  (wSeq (wIf (wAnd (wTest (wBin oEq (wVar 12) (wC (.str "take")))) (wTest (wBin oEq (wBin oIx (wVar 19) (wC (.int 0))) (wC (.str ""))))) (wSet 20 (wBin oIx (wVar 19) (wC (.int 1)))) wNext)
  (wIf (wNot (wTest (wCall (sp__law_looks c) (wCons (wVar 6) (wCons (wVar 7) (wCons (wVar 20) (wCons (wBin oEq (wBin oMod (wCB oInt (wCons (wBin oDiv (wBin oIx (wVar 9) (wC (.int 9))) (wC (.int 2))) wNil)) (wC (.int 2))) (wC (.int 0))) wNil))))))) (wRet (wC (.bl false))) wNext))))))))
def wCell (c : Cl) : WPs := (wSeq (wSet 9 (wCall (sp__law_numbers c) (wCons (wBin oIx (wVar 0) (wVar 8)) (wCons (wVar 8) (wCons (wC (.int 12)) wNil)))))
  (wSeq (wSet 10 (wBin oMod (wCB oInt (wCons (wBin oIx (wVar 9) (wC (.int 0))) wNil)) (wC (.int 2))))
  (wSeq (wSet 5 (wBin oIx (wBin oIx (wVar 3) (wVar 10)) (wC (.int 0))))
  (wSeq (wSet 11 (wLst (wCons (wC (.str "take")) (wCons (wC (.str "take")) (wCons (wC (.str "take")) (wCons (wC (.str "put")) (wCons (wC (.str "put")) (wCons (wC (.str "put")) (wCons (wC (.str "hold")) (wCons (wC (.str "release")) (wCons (wC (.str "shorten")) (wCons (wC (.str "rows")) (wCons (wC (.str "holders")) wNil)))))))))))))
  (wSeq (wSet 12 (wBin oIx (wVar 11) (wBin oMod (wCB oInt (wCons (wBin oIx (wVar 9) (wC (.int 1))) wNil)) (wC (.int 11)))))
  (wSeq (wSet 13 (wLc (wRg1 (wVar 5)) (gN 14) (wTest (wBin oGt (wBin oIx (wBin oIx (wBin oIx (wVar 7) (wVar 10)) (wC (.int 0))) (wVar 14)) (wC (.int 0)))) (wVar 14) [14]))
  (wSeq (wSet 14 (wBin oMod (wCB oInt (wCons (wBin oIx (wVar 9) (wC (.int 2))) wNil)) (wVar 5)))
  (wSeq (wIf (wAnd (wTest (wBin oGt (wCB oLen (wCons (wVar 13) wNil)) (wC (.int 0)))) (wTest (wBin oGt (wBin oMod (wCB oInt (wCons (wBin oIx (wVar 9) (wC (.int 3))) wNil)) (wC (.int 4))) (wC (.int 0))))) (wSet 14 (wBin oIx (wVar 13) (wBin oMod (wCB oInt (wCons (wBin oIx (wVar 9) (wC (.int 2))) wNil)) (wCB oLen (wCons (wVar 13) wNil))))) wNext)
  (wSeq (wIf (wTest (wBin oEq (wBin oMod (wCB oInt (wCons (wBin oIx (wVar 9) (wC (.int 3))) wNil)) (wC (.int 16))) (wC (.int 0)))) (wSet 14 (wCall (sp__law_odd c) (wCons (wVar 9) (wCons (wC (.int 4)) (wCons (wVar 5) wNil))))) wNext)
  (wSeq (wSet 15 (wC .non))
  (wSeq (wIf (wTest (wBin oEq (wVar 12) (wC (.str "put")))) (wSet 15 (wBin oIx (wVar 2) (wBin oMod (wCB oInt (wCons (wBin oIx (wVar 9) (wC (.int 6))) wNil)) (wC (.int 20))))) wNext)
  (wSeq (wIf (wTest (wBin oEq (wVar 12) (wC (.str "shorten")))) (wSet 15 (wBin oIx (wLst (wCons (wBin oMod (wCB oInt (wCons (wBin oIx (wVar 9) (wC (.int 7))) wNil)) (wC (.int 9))) (wCons (wCall (sp__law_odd c) (wCons (wVar 9) (wCons (wC (.int 8)) (wCons (wC (.int 9)) wNil)))) wNil))) (wCB oInt (wCons (wBin oEq (wBin oMod (wCB oInt (wCons (wBin oIx (wVar 9) (wC (.int 6))) wNil)) (wC (.int 4))) (wC (.int 0))) wNil)))) wNext)
  (wFor (wRg1 (wBin oIx (wLst (wCons (wC (.int 1)) (wCons (wC (.int 1)) (wCons (wC (.int 1)) (wCons (wC (.int 2)) wNil))))) (wBin oMod (wCB oInt (wCons (wBin oIx (wVar 9) (wC (.int 10))) wNil)) (wC (.int 4))))) (gN 16) (wTurn c))))))))))))))
/-! ### a turn -/
structure HandD (S S1 : Sto) (w : Word) (v : Vl) (hd : D) : Prop where
  e : Ext S S1
  at_ : VlAt S1 w v hd
  sp : w = .put → (∃ xs, hd = .tup xs) ∨ ∃ h hp hw qs ks, hd = .ref h ∧ HandAt S1 20 h hp hw qs ks ∧ ∀ x, x ∈ handL h hp hw qs ks → S x = none
theorem two_b (b : Bool) (f : Bool → D) (S : Sto) (Q : Qd) : oIx S (.lst [f false, f true]) (.int (b.toNat : Nat)) Q = Q (f b) S := by
  cases b
  · exact oIx_eq (xs := [f false, f true]) rfl rfl Q
  · exact oIx_eq (xs := [f false, f true]) rfl rfl Q
theorem take_res {z : Nat} {st : StV} {d : D} {v : Vl} : (∃ i : Nat, i < st.cs.length ∧ (stepF z st .take d v).2 = .told (.int (i : Nat))) ∨ (stepF z st .take d v).2 = .err 2 (.int 1) := by
  have e : stepF z st .take d v = takeF st := if_pos rfl
  rw [e]
  unfold takeF
  cases h : st.cs.findIdx? (· == 0) with
  | none => exact .inr rfl
  | some i => exact .inl ⟨i, find_lt h, rfl⟩
theorem rd_turn (c : Cl) {S : Sto} {F : Fx} {A : Bool → Pr} {b : Bool} {w : Word} {d vd : D} {v : Vl} {ns : Vec} {x0 x1 x2 x4 x5 x8 x11 x13 x16 x17 x18 x19 x20 x21 : Option D} (H : WS c S F A) (hns : NumsOk 12 ns) (hd : Fine d) (hfv : FineV w v) (hvd : VlD w v vd) (hr : ∀ r, v = .row r → RowGood r) {q : QS}
    (hn : ∀ S' A' y17 y18 y19 y20, WS c S' F A' → q.nx [x0, x1, x2, some (.ref F.t), x4, x5, some (dS F), some (dQ F), x8, some (dL ns), some (.int (b.toNat : Nat)), x11, some (.str (wS w)), x13, some d, some vd, x16, y17, y18, y19, y20, x21] S') :
    wTurn c [x0, x1, x2, some (.ref F.t), x4, x5, some (dS F), some (dQ F), x8, some (dL ns), some (.int (b.toNat : Nat)), x11, some (.str (wS w)), x13, some d, some vd, x16, x17, x18, x19, x20, x21] S q := by
  unfold wTurn
  have tS : ∀ S Q, oIx S (dS F) (.int (b.toNat : Nat)) Q = Q (.ref (F.sa b)) S := two_b b fun b => .ref (F.sa b)
  have tQ : ∀ S Q, oIx S (dQ F) (.int (b.toNat : Nat)) Q = Q (dSt (F.sc b) (F.sk b)) S := two_b b fun b => dSt (F.sc b) (F.sk b)
  have tH : ∀ S, S F.t = some (.lst [dSh F false, dSh F true]) → ∀ Q, oIx S (.ref F.t) (.int (b.toNat : Nat)) Q = Q (dSh F b) S := fun S hS Q => by
    rw [← two_b b (dSh F) S Q]
    rw [oIx_eq (S := S) (x := .ref F.t) (i := ((b.toNat : Nat) : Int)) (d := dSh F b) (seqA_at hS) (by cases b <;> rfl) Q, two_b b (dSh F) S Q]
  have sh1 : ∀ S Q, oIx S (dSh F b) (.int 1) Q = Q (.int (F.zz b : Nat)) S := fun S => oIx_eq (xs := [.int (F.mm b : Nat), .int (F.zz b : Nat)]) rfl rfl
  obtain ⟨a11, b11, i11⟩ := numA hns (k := 11) (by decide)
  obtain ⟨a9, b9, i9⟩ := numA hns (k := 9) (by decide)
  have i11 : ∀ S Q, oIx S (dL ns) (.int 11) Q = Q (.int a11) S := i11
  have i9 : ∀ S Q, oIx S (dL ns) (.int 9) Q = Q (.int a9) S := i9
  refine seq_k fun q1 n1 r1 _ _ z1 => ?_
  have hnd : ∀ S1 y, HandD S S1 w v y → q1.nx [x0, x1, x2, some (.ref F.t), x4, x5, some (dS F), some (dQ F), x8, some (dL ns), some (.int (b.toNat : Nat)), x11, some (.str (wS w)), x13, some d, some vd, x16, some y, x18, x19, x20, x21] S1 := by
    intro S1 hv hH
    refine n1 _ _ ?_
    have W1 := ws_ext H hH.e
    have hp1 := W1.two.at_ b
    obtain ⟨ea, ec, ek⟩ := H.ad b
    obtain ⟨em, ez⟩ := H.mz b
    have hok := hp1.s.ok
    refine seq_k fun q2 n2 r2 _ _ z2 => ?_
    simp only [wSet, wCall, wBin, wCB, wCons, wNil, wVar, wC, getV, setV, some!, tS, i9, oInt, one, oMod, oI, oEq, shD_int, eqD_int, true_and]
    refine ⟨by decide, (A b).a, (A b).pC, (A b).pK, (A b).z, (A b).st, w, d, v, hv, _, by rw [ea], hp1.s, hd, hfv, hH.at_, fun S2 hA2 f2 => n2 _ _ ?_⟩
    refine seq_k fun q3 n3 r3 _ _ z3 => ?_
    obtain ⟨d1, d2, d3⟩ := hp1.d1
    have ne12 : ∀ x, x ∈ (A b).sC :: (A b).sK :: (A b).rs → x ≠ (A b).pC ∧ x ≠ (A b).pK := fun x hx => ⟨fun z => d1 (z ▸ hx), fun z => d2 (z ▸ hx)⟩
    have mC : (A b).sC ∈ (A b).sC :: (A b).sK :: (A b).rs := List.mem_cons_self
    have mK : (A b).sK ∈ (A b).sC :: (A b).sK :: (A b).rs := List.mem_cons_of_mem _ List.mem_cons_self
    have mR : ∀ r, r ∈ (A b).rs → r ∈ (A b).sC :: (A b).sK :: (A b).rs := fun r hr => List.mem_cons_of_mem _ (List.mem_cons_of_mem _ hr)
    have hL2 : LaAt S2 (A b).sC (A b).sK (A b).rs (A b).st := ⟨f2 _ _ (ne12 _ mC).1 (ne12 _ mC).2 hp1.l.hc, f2 _ _ (ne12 _ mK).1 (ne12 _ mK).2 hp1.l.hk, hp1.l.len, fun i r k hi hk => f2 _ _ (ne12 _ (mR r (List.mem_of_getElem? hi))).1 (ne12 _ (mR r (List.mem_of_getElem? hi))).2 (hp1.l.el i r k hi hk), hp1.l.nd⟩
    have hpC : (A b).pC ∈ own (A b) := List.mem_cons_of_mem _ List.mem_cons_self
    have hpK : (A b).pK ∈ own (A b) := List.mem_cons_of_mem _ (List.mem_cons_of_mem _ List.mem_cons_self)
    have hsh2 := f2 _ _ (fun z => W1.nt b (by rw [z]; exact hpC)) (fun z => W1.nt b (by rw [z]; exact hpK)) W1.sh
    simp only [wSet, wCall, wBin, wCons, wNil, wVar, wC, getV, setV, some!, tQ, tH S2 hsh2, sh1]
    refine ⟨(A b).sC, (A b).sK, (A b).rs, (A b).st, (A b).z, F.zz b, w, d, v, vd, by rw [ec, ek], hL2, hok, .inl ez.symm, hd, hfv, hvd, fun rs' S3 hA3 f3 fs _ => n3 _ _ ?_⟩
    have hgd : GoodK (stepF (A b).z (A b).st w d v).1 := step_good (H.two.rg b) hr
    have W3 := ws_step W1 hA2 f2 hA3 f3 fs hgd step_len
    -- what was handed stands yet
    have hsp : w = .put → (∃ xs, hv = .tup xs) ∨ ∃ h hp hw qs ks, hv = .ref h ∧ HandAt S3 20 h hp hw qs ks ∧ ∀ x, x ∈ handL h hp hw qs ks → S x = none ∧ S2 x ≠ none := fun hw => by
      rcases hH.sp hw with y | ⟨h, hp, hw', qs, ks, e, HA, fr⟩
      · exact .inl y
      · have k2 : ∀ x m, x ∈ handL h hp hw' qs ks → S1 x = some m → S2 x = some m := fun x m hx hm => by
          refine f2 x m (fun z => ?_) (fun z => ?_) hm
          · obtain ⟨m', hm'⟩ := own_some (H.two.at_ b) hpC
            rw [← z, fr x hx] at hm'; cases hm'
          · obtain ⟨m', hm'⟩ := own_some (H.two.at_ b) hpK
            rw [← z, fr x hx] at hm'; cases hm'
        have no : ∀ x, x ∈ handL h hp hw' qs ks → x ∉ own (A b) := fun x hx z => by
          obtain ⟨m', hm'⟩ := own_some (H.two.at_ b) z
          rw [fr x hx] at hm'; cases hm'
        refine .inr ⟨h, hp, hw', qs, ks, e, hand_keep HA fun x m hx hm => ?_, fun x hx => ⟨fr x hx, fun z => ?_⟩⟩
        · have nx := no x hx
          simp only [own, List.mem_cons, not_or] at nx
          exact f3 x m nx.2.2.2.1 nx.2.2.2.2.1 nx.2.2.2.2.2 (k2 x m hx hm)
        · obtain ⟨m, hm⟩ := hand_some HA hx
          rw [k2 x m hx hm] at z; cases z
    refine seq_k fun q4 n4 r4 _ _ z4 => ?_
    simp only [wIf, wNot, wTest, wCall, wCons, wNil, wVar, getV, some!]
    refine same_go (res_plain hok (H.two.rg b) hd hfv) ?_
    simp only [Bool.not_true, Bool.false_eq_true, if_false, wNext]
    refine n4 _ _ ?_
    refine seq_k fun q5 n5 r5 _ _ z5 => ?_
    have go : ∀ S4 A', WS c S4 F A' → q5.nx [x0, x1, x2, some (.ref F.t), x4, x5, some (dS F), some (dQ F), x8, some (dL ns), some (.int (b.toNat : Nat)), x11, some (.str (wS w)), x13, some d, some vd, x16, some hv, some (resT (stepF (A b).z (A b).st w d v).2), some (resT (stepF (A b).z (A b).st w d v).2), x20, x21] S4 := by
      intro S4 A' W4
      refine n5 _ _ ?_
      refine seq_k fun q6 n6 r6 _ _ z6 => ?_
      simp only [wSet, wVar, getV, setV, some!]
      refine n6 _ _ ?_
      refine seq_k fun q7 n7 r7 _ _ z7 => ?_
      have look : ∀ y, Fine y → q7.nx [x0, x1, x2, some (.ref F.t), x4, x5, some (dS F), some (dQ F), x8, some (dL ns), some (.int (b.toNat : Nat)), x11, some (.str (wS w)), x13, some d, some vd, x16, some hv, some (resT (stepF (A b).z (A b).st w d v).2), some (resT (stepF (A b).z (A b).st w d v).2), some y, x21] S4 := by
        intro y hy
        refine n7 _ _ ?_
        simp only [wIf, wNot, wTest, wCall, wBin, wCB, wCons, wNil, wVar, wC, getV, some!, i9, oDiv, oInt, one, oMod, oI, oEq, shD_int, eqD_int, true_and]
        refine ⟨divw (by decide), by decide, A', y, decide (a9 / 2 % 2 = 0), ?_, W4.two, hy, fun S5 E5 => ?_⟩
        · unfold dS dQ
          rw [(W4.ad false).1, (W4.ad false).2.1, (W4.ad false).2.2, (W4.ad true).1, (W4.ad true).2.1, (W4.ad true).2.2]
        · simp only [Bool.not_true, Bool.false_eq_true, if_false, wNext]
          exact hn S5 A' _ _ _ _ (ws_ext W4 E5)
      simp only [wIf, wAnd, wTest, wBin, wVar, wC, getV, some!, oEq, shW, sh_take, eq_take, true_and, decide_eq_true_eq]
      by_cases ht : w = .take
      · rw [if_pos ht]
        subst ht
        have shE : ∀ S, shD S (.str "") = true := fun S => sh_str (by decide +kernel)
        rcases take_res (z := (A b).z) (st := (A b).st) (d := d) (v := v) with ⟨i, hi, e⟩ | e
        · rw [e] at look ⊢
          have i0 : ∀ Q, oIx S4 (resT (.told (.int (i : Nat)))) (.int 0) Q = Q (.str "") S4 := oIx_eq (xs := [.str "", .int (i : Nat)]) rfl rfl
          have i1 : ∀ Q, oIx S4 (resT (.told (.int (i : Nat)))) (.int 1) Q = Q (.int (i : Nat)) S4 := oIx_eq (xs := [.str "", .int (i : Nat)]) rfl rfl
          have hl := hok.l1
          simp only [i0, shE, true_and, eqD_refl (shE S4), if_true, wSet, wBin, wVar, wC, getV, setV, some!, i1]
          exact look _ (fine_small (by omega))
        · rw [e] at look ⊢
          have i0 : ∀ Q, oIx S4 (resT (.err 2 (.int 1))) (.int 0) Q = Q (.str "NoRoom") S4 := oIx_eq (xs := [.str "NoRoom", .str (shw (.int 1))]) rfl rfl
          have shN : shD S4 (.str "NoRoom") = true := sh_str (by decide +kernel)
          have eN : eqD S4 (.str "NoRoom") (.str "") = false := by show PyData.eqv (.str "NoRoom") (.str "") = false; decide +kernel
          simp only [i0, shE, shN, eN, true_and, Bool.false_eq_true, if_false, wNext]
          exact look _ hd
      · rw [if_neg ht]
        simp only [wNext]
        exact look _ hd
    simp only [wIf, wTest, wBin, wVar, wC, getV, some!, oEq, shW, sh_put, eq_put, true_and, decide_eq_true_eq]
    by_cases hw : w = .put
    · rw [if_pos hw]
      simp only [wDrop, wCall, wCons, wNil, wVar, getV, some!]
      rcases hsp hw with ⟨xs, rfl⟩ | ⟨h, hp, hw', qs, ks, rfl, HA, fr⟩
      · exact .inl ⟨xs, rfl, go _ _ W3⟩
      · refine .inr ⟨h, hp, hw', qs, ks, rfl, HA, fun S4 f4 => go S4 _ (ws_keep W3 fun x m hx hm => ?_)⟩
        rw [f4 x fun z => ?_]
        · exact hm
        · rcases hx with rfl | ⟨b', hx⟩
          · have := H.sh
            rw [(fr _ z).1] at this; cases this
          · by_cases y : b' = b
            · subst y
              rw [upd_same] at hx
              simp only [own, List.mem_cons] at hx
              have no : x ∉ own (A b') := fun hx => by
                obtain ⟨m', hm'⟩ := own_some (H.two.at_ b') hx
                rw [(fr x z).1] at hm'; cases hm'
              simp only [own, List.mem_cons, not_or] at no
              rcases hx with e | e | e | e | e | e
              · exact no.1 e
              · exact no.2.1 e
              · exact no.2.2.1 e
              · exact no.2.2.2.1 e
              · exact no.2.2.2.2.1 e
              · rcases fs x e with u | u
                · exact no.2.2.2.2.2 u
                · exact (fr x z).2 u
            · rw [upd_ne y] at hx
              obtain ⟨m', hm'⟩ := own_some (H.two.at_ b') hx
              rw [(fr x z).1] at hm'; cases hm'
    · rw [if_neg hw]
      simp only [wNext]
      exact go _ _ W3
  simp only [wSet, wCall, wBin, wCB, wCons, wNil, wVar, wC, getV, setV, some!, i11, oInt, one, oMod, oI, oEq, shD_int, eqD_int, true_and]
  refine ⟨by decide, ?_⟩
  by_cases hw : w = .put
  · subst hw
    obtain ⟨r, rfl, rfl⟩ := hvd
    have hg := hr r rfl
    refine .inl ⟨r, _, rfl, hg, hnd S _ ⟨ext_refl S, ⟨r, rfl, rowAt_d hg⟩, fun _ => .inl ⟨_, rfl⟩⟩, fun h hp hw qs ks S' E HA R fr => hnd S' _ ⟨E, ⟨r, rfl, R⟩, fun _ => .inr ⟨h, hp, hw, qs, ks, rfl, HA, fr⟩⟩⟩
  · refine .inr ⟨w, vd, _, rfl, hw, hnd S _ ⟨ext_refl S, ?_, fun z => absurd z hw⟩⟩
    cases w with
    | put => exact absurd rfl hw
    | shorten =>
      obtain rfl := (show v = .num vd from hvd)
      exact ⟨rfl, (show Fine vd from hfv).1 S⟩
    | _ => exact trivial
end K12
set_option Elab.async false
set_option linter.all false
set_option maxRecDepth 100000
set_option maxHeartbeats 1000000
namespace K12
open PySem PySem.Spec PyProof.Rows L2 DL

def wordL : List D := [.str "take", .str "take", .str "take", .str "put", .str "put", .str "put", .str "hold", .str "release", .str "shorten", .str "rows", .str "holders"]
theorem word_at {q : Int} (h : 0 ≤ q ∧ q < 11) : ∃ w, atI wordL q = some (.str (wS w)) := by
  rcases (show q = 0 ∨ q = 1 ∨ q = 2 ∨ q = 3 ∨ q = 4 ∨ q = 5 ∨ q = 6 ∨ q = 7 ∨ q = 8 ∨ q = 9 ∨ q = 10 by omega) with rfl | rfl | rfl | rfl | rfl | rfl | rfl | rfl | rfl | rfl | rfl
  · exact ⟨.take, rfl⟩
  · exact ⟨.take, rfl⟩
  · exact ⟨.take, rfl⟩
  · exact ⟨.put, rfl⟩
  · exact ⟨.put, rfl⟩
  · exact ⟨.put, rfl⟩
  · exact ⟨.hold, rfl⟩
  · exact ⟨.release, rfl⟩
  · exact ⟨.shorten, rfl⟩
  · exact ⟨.rows, rfl⟩
  · exact ⟨.holders, rfl⟩
theorem pick4 {q : Int} (h : 0 ≤ q ∧ q < 4) : ∃ j : Int, (j = 1 ∨ j = 2) ∧ atI [D.int 1, .int 1, .int 1, .int 2] q = some (.int j) := by
  rcases (show q = 0 ∨ q = 1 ∨ q = 2 ∨ q = 3 by omega) with rfl | rfl | rfl | rfl
  · exact ⟨1, .inl rfl, rfl⟩
  · exact ⟨1, .inl rfl, rfl⟩
  · exact ⟨1, .inl rfl, rfl⟩
  · exact ⟨2, .inr rfl, rfl⟩
theorem bool_of {v : Int} : ∃ b : Bool, v % 2 = (b.toNat : Nat) := by
  rcases (show v % 2 = 0 ∨ v % 2 = 1 by omega) with h | h
  · exact ⟨false, h⟩
  · exact ⟨true, h⟩

theorem rd_cell (c : Cl) {S : Sto} {F : Fx} {A : Bool → Pr} {cells : List Int} {cell : Int} {at_ : Nat} {rs : List Rw} {x1 x4 x5 x9 x10 x11 x12 x13 x14 x15 x16 x17 x18 x19 x20 x21 : Option D} (H : WS c S F A) (hrl : rs.length = 20) (hrg : ∀ r, r ∈ rs → RowGood r) (hc : cells[at_]? = some cell) (hat : at_ ≤ 62) {q : QS}
    (hn : ∀ S' A' y5 y9 y10 y11 y12 y13 y14 y15 y16 y17 y18 y19 y20, WS c S' F A' → q.nx [some (.fro (cells.map D.int)), x1, some (.lst (rs.map dRw)), some (.ref F.t), x4, y5, some (dS F), some (dQ F), some (.int (at_ : Nat)), y9, y10, y11, y12, y13, y14, y15, y16, y17, y18, y19, y20, x21] S') :
    wCell c [some (.fro (cells.map D.int)), x1, some (.lst (rs.map dRw)), some (.ref F.t), x4, x5, some (dS F), some (dQ F), some (.int (at_ : Nat)), x9, x10, x11, x12, x13, x14, x15, x16, x17, x18, x19, x20, x21] S q := by
  unfold wCell
  refine seq_k fun q1 n1 r1 _ _ z1 => ?_
  have hcl : ∀ S Q, oIx S (.fro (cells.map D.int)) (.int (at_ : Nat)) Q = Q (.int cell) S := fun S => oIx_eq (xs := cells.map D.int) rfl (at_k (by rw [List.getElem?_map, hc]; rfl))
  simp only [wSet, wCall, wBin, wCons, wNil, wVar, wC, getV, setV, some!, hcl]
  refine ⟨cell, (at_ : Nat), 12, rfl, by omega, by decide, fun ns hns S1 E1 => n1 _ _ ?_⟩
  have H1 := ws_ext H E1
  clear hc hcl n1
  generalize S1 = S at *
  obtain ⟨a0, b0, j0⟩ := numA hns (k := 0) (by decide)
  have i0 : ∀ S Q, oIx S (dL ns) (.int 0) Q = Q (.int a0) S := j0
  obtain ⟨a1, b1, j1⟩ := numA hns (k := 1) (by decide)
  have i1 : ∀ S Q, oIx S (dL ns) (.int 1) Q = Q (.int a1) S := j1
  obtain ⟨a2, b2, j2⟩ := numA hns (k := 2) (by decide)
  have i2 : ∀ S Q, oIx S (dL ns) (.int 2) Q = Q (.int a2) S := j2
  obtain ⟨a3, b3, j3⟩ := numA hns (k := 3) (by decide)
  have i3 : ∀ S Q, oIx S (dL ns) (.int 3) Q = Q (.int a3) S := j3
  obtain ⟨a6, b6, j6⟩ := numA hns (k := 6) (by decide)
  have i6 : ∀ S Q, oIx S (dL ns) (.int 6) Q = Q (.int a6) S := j6
  obtain ⟨a7, b7, j7⟩ := numA hns (k := 7) (by decide)
  have i7 : ∀ S Q, oIx S (dL ns) (.int 7) Q = Q (.int a7) S := j7
  obtain ⟨a10, b10, j10⟩ := numA hns (k := 10) (by decide)
  have i10 : ∀ S Q, oIx S (dL ns) (.int 10) Q = Q (.int a10) S := j10
  refine seq_k fun q2 n2 r2 _ _ z2 => ?_
  obtain ⟨b, hb⟩ := bool_of (v := a0)
  simp only [wSet, wBin, wCB, wCons, wNil, wVar, wC, getV, setV, some!, i0, oInt, one, oMod, oI]
  rw [hb]
  refine ⟨by decide, n2 _ _ ?_⟩
  have tQ : ∀ S Q, oIx S (dQ F) (.int (b.toNat : Nat)) Q = Q (dSt (F.sc b) (F.sk b)) S := two_b b fun b => dSt (F.sc b) (F.sk b)
  have tH : ∀ S, S F.t = some (.lst [dSh F false, dSh F true]) → ∀ Q, oIx S (.ref F.t) (.int (b.toNat : Nat)) Q = Q (dSh F b) S := fun S hS Q => by
    rw [oIx_eq (S := S) (x := .ref F.t) (i := ((b.toNat : Nat) : Int)) (d := dSh F b) (seqA_at hS) (by cases b <;> rfl) Q]
  have sh0 : ∀ S Q, oIx S (dSh F b) (.int 0) Q = Q (.int (F.mm b : Nat)) S := fun S => oIx_eq (xs := [.int (F.mm b : Nat), .int (F.zz b : Nat)]) rfl rfl
  have hp1 := H1.two.at_ b
  obtain ⟨ea, ec, ek⟩ := H1.ad b
  obtain ⟨em, ez⟩ := H1.mz b
  have hm := hp1.s.ok.l1
  rw [em] at hm
  have hL : LaAt S (F.sc b) (F.sk b) (A b).rs (A b).st := by rw [← ec, ← ek]; exact hp1.l
  refine seq_k fun q3 n3 r3 _ _ z3 => ?_
  simp only [wSet, wBin, wVar, wC, getV, setV, some!, tH S H1.sh, sh0]
  refine n3 _ _ ?_
  refine seq_k fun q4 n4 r4 _ _ z4 => ?_
  simp only [wSet, wLst, wCons, wNil, wC, setV]
  refine ⟨show 11 ≤ sizeLine by decide, n4 _ _ ?_⟩
  show wSeq _ _ [some (.fro (cells.map D.int)), x1, some (.lst (rs.map dRw)), some (.ref F.t), x4, some (.int (F.mm b : Nat)), some (dS F), some (dQ F), some (.int (at_ : Nat)), some (dL ns), some (.int (b.toNat : Nat)), some (.lst wordL), x12, x13, x14, x15, x16, x17, x18, x19, x20, x21] S q
  obtain ⟨w, hw⟩ := word_at (modN (v := a1) (m := 11) (by decide))
  have iw : ∀ Q, oIx S (.lst wordL) (.int (a1 % 11)) Q = Q (.str (wS w)) S := oIx_eq rfl hw
  refine seq_k fun q5 n5 r5 _ _ z5 => ?_
  simp only [wSet, wBin, wCB, wCons, wNil, wVar, wC, getV, setV, some!, i1, oInt, one, oMod, oI, iw]
  refine ⟨by decide, n5 _ _ ?_⟩
  clear n2 n3 n4 n5 hw iw
  refine seq_k fun q6 n6 r6 _ _ z6 => ?_
  obtain ⟨i70, i71⟩ := la_ix (S := S) (sC := F.sc b) (sK := F.sk b)
  have held : ∀ hl : List Nat, (∀ i, i ∈ hl → i < F.mm b) → q6.nx [some (.fro (cells.map D.int)), x1, some (.lst (rs.map dRw)), some (.ref F.t), x4, some (.int (F.mm b : Nat)), some (dS F), some (dQ F), some (.int (at_ : Nat)), some (dL ns), some (.int (b.toNat : Nat)), some (.lst wordL), some (.str (wS w)), some (.lst (hl.map fun (i : Nat) => D.int (i : Nat))), x14, x15, x16, x17, x18, x19, x20, x21] S := by
    intro hl hhl
    refine n6 _ _ ?_
    refine seq_k fun q7 n7 r7 _ _ z7 => ?_
    simp only [wSet, wBin, wCB, wCons, wNil, wVar, wC, getV, setV, some!, i2, oInt, one, oMod, oI]
    refine ⟨by omega, n7 _ _ ?_⟩
    have f0 : Fine (.int (a2 % (F.mm b : Nat))) := by
      have := modN (v := a2) (m := ((F.mm b : Nat) : Int)) (by omega)
      exact fine_small (by omega)
    refine seq_k fun q8 n8 r8 _ _ z8 => ?_
    have go8 : ∀ d, Fine d → q8.nx [some (.fro (cells.map D.int)), x1, some (.lst (rs.map dRw)), some (.ref F.t), x4, some (.int (F.mm b : Nat)), some (dS F), some (dQ F), some (.int (at_ : Nat)), some (dL ns), some (.int (b.toNat : Nat)), some (.lst wordL), some (.str (wS w)), some (.lst (hl.map fun (i : Nat) => D.int (i : Nat))), some d, x15, x16, x17, x18, x19, x20, x21] S := by
      intro d hd
      refine n8 _ _ ?_
      refine seq_k fun q9 n9 r9 _ _ z9 => ?_
      have go9 : ∀ d S2, Fine d → Ext S S2 → q9.nx [some (.fro (cells.map D.int)), x1, some (.lst (rs.map dRw)), some (.ref F.t), x4, some (.int (F.mm b : Nat)), some (dS F), some (dQ F), some (.int (at_ : Nat)), some (dL ns), some (.int (b.toNat : Nat)), some (.lst wordL), some (.str (wS w)), some (.lst (hl.map fun (i : Nat) => D.int (i : Nat))), some d, x15, x16, x17, x18, x19, x20, x21] S2 := by
        intro d S2 hd E2
        refine n9 _ _ ?_
        have H2 := ws_ext H1 E2
        refine seq_k fun q10 n10 r10 _ _ z10 => ?_
        simp only [wSet, wC, setV]
        refine n10 _ _ ?_
        refine seq_k fun q11 n11 r11 _ _ z11 => ?_
        have go11 : ∀ vd, (w = .put → ∃ r, RowGood r ∧ vd = dRw r) → (w ≠ .put → vd = .non) → q11.nx [some (.fro (cells.map D.int)), x1, some (.lst (rs.map dRw)), some (.ref F.t), x4, some (.int (F.mm b : Nat)), some (dS F), some (dQ F), some (.int (at_ : Nat)), some (dL ns), some (.int (b.toNat : Nat)), some (.lst wordL), some (.str (wS w)), some (.lst (hl.map fun (i : Nat) => D.int (i : Nat))), some d, some vd, x16, x17, x18, x19, x20, x21] S2 := by
          intro vd h1 h2
          refine n11 _ _ ?_
          refine seq_k fun q12 n12 r12 _ _ z12 => ?_
          have go12 : ∀ v vd S3, FineV w v → VlD w v vd → (∀ r, v = .row r → RowGood r) → Ext S2 S3 → q12.nx [some (.fro (cells.map D.int)), x1, some (.lst (rs.map dRw)), some (.ref F.t), x4, some (.int (F.mm b : Nat)), some (dS F), some (dQ F), some (.int (at_ : Nat)), some (dL ns), some (.int (b.toNat : Nat)), some (.lst wordL), some (.str (wS w)), some (.lst (hl.map fun (i : Nat) => D.int (i : Nat))), some d, some vd, x16, x17, x18, x19, x20, x21] S3 := by
            intro v vd S3 g1 g2 g3 E3
            refine n12 _ _ ?_
            have H3 := ws_ext H2 E3
            obtain ⟨j, hj, ja⟩ := pick4 (modN (v := a10) (m := 4) (by decide))
            have ij : ∀ Q, oIx S3 (.lst [.int 1, .int 1, .int 1, .int 2]) (.int (a10 % 4)) Q = Q (.int j) S3 := oIx_eq rfl ja
            simp only [wFor, wRg1, wLst, wBin, wCB, wCons, wNil, wVar, wC, getV, some!, i10, oInt, one, oMod, oI, ij, asI]
            refine ⟨show 4 ≤ sizeLine by decide, by decide, by omega, ?_⟩
            refine forI_invq (fun k e' S' => ∃ A' y16 y17 y18 y19 y20, WS c S' F A' ∧ e' = [some (.fro (cells.map D.int)), x1, some (.lst (rs.map dRw)), some (.ref F.t), x4, some (.int (F.mm b : Nat)), some (dS F), some (dQ F), some (.int (at_ : Nat)), some (dL ns), some (.int (b.toNat : Nat)), some (.lst wordL), some (.str (wS w)), some (.lst (hl.map fun (i : Nat) => D.int (i : Nat))), some d, some vd, y16, y17, y18, y19, y20, x21]) ⟨A, _, _, _, _, _, H3, rfl⟩ (fun _ _ _ _ => trivial) ?_ ?_
            · rintro k d2 e' S4 hi ⟨A', y16, y17, y18, y19, y20, W, rfl⟩ qa hqa hrta _ _ _
              simp only [gN, setV]
              exact rd_turn c W hns hd g1 g2 g3 fun S' A2 u17 u18 u19 u20 W2 => hqa _ _ ⟨A2, _, _, _, _, _, W2, rfl⟩
            · rintro e' S4 ⟨A', y16, y17, y18, y19, y20, W, rfl⟩
              exact hn _ _ _ _ _ _ _ _ _ _ _ _ _ _ _ W
          simp only [wIf, wTest, wBin, wVar, wC, getV, setV, some!, oEq, shW, sh_shorten, eq_shorten, true_and, decide_eq_true_eq]
          by_cases hs : w = .shorten
          · rw [if_pos hs]
            subst hs
            simp only [wSet, wLst, wBin, wCB, wCall, wCons, wNil, wVar, wC, getV, setV, some!, i7, i6, oInt, one, oMod, oI]
            refine ⟨by decide, ns, 12, 8, 9, rfl, hns, by decide, by decide, by decide, fun d3 S3 hd3 E3 => ?_⟩
            refine ⟨show 2 ≤ sizeLine by decide, by decide, ?_⟩
            simp only [oEq, shD_int, eqD_int, true_and]
            have f7 : Fine (.int (a7 % 9)) := by
              have := modN (v := a7) (m := 9) (by decide)
              exact fine_small (by omega)
            by_cases y : a6 % 4 = 0
            · have e1 : ∀ Q, oIx S3 (.lst [.int (a7 % 9), d3]) (.int 1) Q = Q d3 S3 := oIx_eq (xs := [.int (a7 % 9), d3]) rfl rfl
              simp only [decide_eq_true y, if_true, e1]
              exact go12 (.num d3) d3 S3 hd3 rfl (fun r e => by cases e) E3
            · have e1 : ∀ Q, oIx S3 (.lst [.int (a7 % 9), d3]) (.int 0) Q = Q (.int (a7 % 9)) S3 := oIx_eq (xs := [.int (a7 % 9), d3]) rfl rfl
              simp only [decide_eq_false y, Bool.false_eq_true, if_false, e1]
              exact go12 (.num (.int (a7 % 9))) _ S3 f7 rfl (fun r e => by cases e) E3
          · rw [if_neg hs]
            simp only [wNext]
            by_cases hp : w = .put
            · obtain ⟨r, hg, rfl⟩ := h1 hp
              subst hp
              exact go12 (.row r) _ S2 trivial ⟨r, rfl, rfl⟩ (fun r2 e => by cases e; exact hg) (ext_refl _)
            · obtain rfl := h2 hp
              refine go12 (.num .non) _ S2 ?_ ?_ (fun r e => by cases e) (ext_refl _)
              · cases w with
                | shorten => exact absurd rfl hs
                | _ => exact trivial
              · cases w with
                | shorten => exact absurd rfl hs
                | put => exact absurd rfl hp
                | _ => exact trivial
        simp only [wIf, wTest, wBin, wVar, wC, getV, setV, some!, oEq, shW, sh_put, eq_put, true_and, decide_eq_true_eq]
        by_cases hp : w = .put
        · rw [if_pos hp]
          have hq6 := modN (v := a6) (m := 20) (by decide)
          obtain ⟨r, hr⟩ : ∃ r, rs[(a6 % 20).toNat]? = some r := ⟨_, List.getElem?_eq_getElem (by omega)⟩
          have ir : ∀ Q, oIx S2 (.lst (rs.map dRw)) (.int (a6 % 20)) Q = Q (dRw r) S2 := oIx_eq (xs := rs.map dRw) rfl (at_z hq6.1 (by rw [List.getElem?_map, hr]; rfl))
          simp only [wSet, wBin, wCB, wCons, wNil, wVar, wC, getV, setV, some!, i6, oInt, one, oMod, oI, ir]
          exact ⟨by decide, go11 _ (fun _ => ⟨r, hrg r (List.mem_of_getElem? hr), rfl⟩) fun z => absurd hp z⟩
        · rw [if_neg hp]
          simp only [wNext]
          exact go11 _ (fun z => absurd z hp) fun _ => rfl
      simp only [wIf, wTest, wBin, wCB, wCons, wNil, wVar, wC, getV, setV, some!, i3, oInt, one, oMod, oI, oEq, shD_int, eqD_int, true_and, decide_eq_true_eq]
      refine ⟨by decide, ?_⟩
      by_cases y : a3 % 16 = 0
      · rw [if_pos y]
        simp only [wSet, wCall, wCons, wNil, wVar, wC, getV, setV, some!]
        exact ⟨ns, 12, 4, F.mm b, rfl, hns, by decide, by decide, hm, fun d2 S2 hd2 E2 => go9 d2 S2 hd2 E2⟩
      · rw [if_neg y]
        simp only [wNext]
        exact go9 d S hd (ext_refl S)
    have ol : ∀ Q, oLen S [.lst (hl.map fun (i : Nat) => D.int (i : Nat))] Q = Q (.int (hl.length : Nat)) S := fun Q => by rw [oLen_at (S := S) (d := .lst (hl.map fun (i : Nat) => D.int (i : Nat))) rfl, List.length_map]
    simp only [wIf, wAnd, wTest, wBin, wCB, wCons, wNil, wVar, wC, getV, setV, some!, ol, i3, oInt, one, oMod, oI, oGt, oI0, decide_eq_true_eq]
    by_cases y : 0 < hl.length
    · rw [if_pos (by omega)]
      refine ⟨by decide, ?_⟩
      by_cases y3 : 0 < a3 % 4
      · rw [if_pos y3]
        have hq2 := modN (v := a2) (m := ((hl.length : Nat) : Int)) (by omega)
        obtain ⟨i, hi⟩ : ∃ i, hl[(a2 % (hl.length : Nat)).toNat]? = some i := ⟨_, List.getElem?_eq_getElem (by omega)⟩
        have ih : ∀ Q, oIx S (.lst (hl.map fun (i : Nat) => D.int (i : Nat))) (.int (a2 % (hl.length : Nat))) Q = Q (.int (i : Nat)) S := oIx_eq (xs := hl.map fun (i : Nat) => D.int (i : Nat)) rfl (at_z hq2.1 (by rw [List.getElem?_map, hi]; rfl))
        simp only [wSet, wBin, wCB, wCons, wNil, wVar, wC, getV, setV, some!, i2, ol, oInt, one, oMod, oI, ih]
        have := hhl i (List.mem_of_getElem? hi)
        exact ⟨by omega, go8 _ (fine_small (by omega))⟩
      · rw [if_neg y3]
        simp only [wNext]
        exact go8 _ f0
    · rw [if_neg (by omega)]
      simp only [wNext]
      exact go8 _ f0
  simp only [wSet, wLc, wRg1, wVar, getV, some!, asI, delVs, delV, Int.toNat_natCast, rngD_length]
  rw [rng_eq]
  refine ⟨⟨by omega, by omega⟩, by unfold sizeLine; omega, compI_filt (List.range (F.mm b)) (fun (i : Nat) => D.int (i : Nat)) (fun (i : Nat) => D.int (i : Nat)) (fun i => decide (0 < (A b).st.cs.getD i 0)) trivial (fun i hi R hR => ?_) ?_⟩
  · have hib : i < (A b).st.cs.length := by rw [em]; exact List.mem_range.mp hi
    simp only [gN, setV, wTest, wBin, wVar, wC, getV, setV, some!, tQ, i70, la_C hL hib, oGt, oI0, decide_eq_true_eq]
    simp only [decide_eq_true_eq] at hR
    by_cases y : 0 < (A b).st.cs.getD i 0
    · rw [if_pos y] at hR
      rw [if_pos (by omega)]
      exact hR
    · rw [if_neg y] at hR
      rw [if_neg (by omega)]
      exact hR
  · exact held _ fun i hi => List.mem_range.mp (List.mem_filter.mp hi).1
end K12
set_option Elab.async false
set_option linter.all false
set_option maxRecDepth 100000
set_option maxHeartbeats 1000000
namespace K12
open PySem PySem.Spec PyProof.Rows L2 DL

theorem many_at {v q : Int} (hq : 0 ≤ q ∧ q < 6) : ∃ m : Nat, (1 ≤ m ∧ m ≤ 60) ∧ atI [D.int 1, .int 2, .int 3, .int 4, .int 60, .int (1 + v % 60)] q = some (.int (m : Nat)) := by
  rcases (show q = 0 ∨ q = 1 ∨ q = 2 ∨ q = 3 ∨ q = 4 ∨ q = 5 by omega) with rfl | rfl | rfl | rfl | rfl | rfl
  · exact ⟨1, by decide, rfl⟩
  · exact ⟨2, by decide, rfl⟩
  · exact ⟨3, by decide, rfl⟩
  · exact ⟨4, by decide, rfl⟩
  · exact ⟨60, by decide, rfl⟩
  · have := modN (v := v) (m := 60) (by decide)
    exact ⟨(1 + v % 60).toNat, by omega, by rw [Int.toNat_of_nonneg (by omega)]; rfl⟩
theorem size_at {v q : Int} (hq : 0 ≤ q ∧ q < 4) : ∃ m : Nat, (1 ≤ m ∧ m ≤ 8) ∧ atI [D.int 1, .int 2, .int 8, .int (1 + v % 8)] q = some (.int (m : Nat)) := by
  rcases (show q = 0 ∨ q = 1 ∨ q = 2 ∨ q = 3 by omega) with rfl | rfl | rfl | rfl
  · exact ⟨1, by decide, rfl⟩
  · exact ⟨2, by decide, rfl⟩
  · exact ⟨8, by decide, rfl⟩
  · have := modN (v := v) (m := 8) (by decide)
    exact ⟨(1 + v % 8).toNat, by omega, by rw [Int.toNat_of_nonneg (by omega)]; rfl⟩
def wShape : WPs := (wSeq (wSet 5 (wBin oIx (wLst (wCons (wC (.int 1)) (wCons (wC (.int 2)) (wCons (wC (.int 3)) (wCons (wC (.int 4)) (wCons (wC (.int 60)) (wCons (wBin oAdd (wC (.int 1)) (wBin oMod (wCB oInt (wCons (wBin oIx (wVar 1) (wBin oAdd (wC (.int 30)) (wVar 4))) wNil)) (wC (.int 60)))) wNil))))))) (wBin oMod (wCB oInt (wCons (wBin oIx (wVar 1) (wBin oAdd (wC (.int 32)) (wVar 4))) wNil)) (wC (.int 6)))))
  (wDrop (wMt oAppend (wVar 3) (wCons (wTup (wCons (wVar 5) (wCons (wBin oIx (wLst (wCons (wC (.int 1)) (wCons (wC (.int 2)) (wCons (wC (.int 8)) (wCons (wBin oAdd (wC (.int 1)) (wBin oMod (wCB oInt (wCons (wBin oIx (wVar 1) (wBin oAdd (wC (.int 34)) (wVar 4))) wNil)) (wC (.int 8)))) wNil))))) (wBin oMod (wCB oInt (wCons (wBin oIx (wVar 1) (wBin oAdd (wC (.int 36)) (wVar 4))) wNil)) (wC (.int 4)))) wNil))) wNil))))
def shD2 (p : Nat × Nat) : D := .tup [.int (p.1 : Nat), .int (p.2 : Nat)]
theorem rd_shape {S : Sto} {ns : Vec} {k : Nat} {t : Addr} {L : List (Nat × Nat)} {x0 x2 x5 x6 x7 x8 x9 x10 x11 x12 x13 x14 x15 x16 x17 x18 x19 x20 x21 : Option D} (hns : NumsOk 60 ns) (hk : k < 2) (ht : S t = some (.lst (L.map shD2))) (hl : L.length = k) {q : QS}
    (hn : ∀ m z y5, (1 ≤ m ∧ m ≤ 60) → (1 ≤ z ∧ z ≤ 8) → q.nx [x0, some (dL ns), x2, some (.ref t), some (.int (k : Nat)), y5, x6, x7, x8, x9, x10, x11, x12, x13, x14, x15, x16, x17, x18, x19, x20, x21] (put S t (.lst ((L ++ [(m, z)]).map shD2)))) :
    wShape [x0, some (dL ns), x2, some (.ref t), some (.int (k : Nat)), x5, x6, x7, x8, x9, x10, x11, x12, x13, x14, x15, x16, x17, x18, x19, x20, x21] S q := by
  unfold wShape
  have num : ∀ j : Nat, j + k < 60 → ∃ v, ∀ S Q, oIx S (dL ns) (.int ((j : Int) + (k : Nat))) Q = Q (.int v) S := fun j hj => by
    obtain ⟨v, _, e⟩ := numA hns (k := j + k) hj
    exact ⟨v, fun S Q => by rw [← e S Q]; rfl⟩
  obtain ⟨a30, i30⟩ := num 30 (by omega)
  obtain ⟨a32, i32⟩ := num 32 (by omega)
  obtain ⟨a34, i34⟩ := num 34 (by omega)
  obtain ⟨a36, i36⟩ := num 36 (by omega)
  have i30 : ∀ S Q, oIx S (dL ns) (.int (30 + (k : Nat))) Q = Q (.int a30) S := i30
  have i32 : ∀ S Q, oIx S (dL ns) (.int (32 + (k : Nat))) Q = Q (.int a32) S := i32
  have i34 : ∀ S Q, oIx S (dL ns) (.int (34 + (k : Nat))) Q = Q (.int a34) S := i34
  have i36 : ∀ S Q, oIx S (dL ns) (.int (36 + (k : Nat))) Q = Q (.int a36) S := i36
  obtain ⟨m, hm, em⟩ := many_at (v := a30) (modN (v := a32) (m := 6) (by decide))
  obtain ⟨z, hz, ez⟩ := size_at (v := a34) (modN (v := a36) (m := 4) (by decide))
  have im : ∀ Q, oIx S (.lst [D.int 1, .int 2, .int 3, .int 4, .int 60, .int (1 + a30 % 60)]) (.int (a32 % 6)) Q = Q (.int (m : Nat)) S := oIx_eq rfl em
  have iz : ∀ Q, oIx S (.lst [D.int 1, .int 2, .int 8, .int (1 + a34 % 8)]) (.int (a36 % 4)) Q = Q (.int (z : Nat)) S := oIx_eq rfl ez
  refine seq_k fun q1 n1 r1 _ _ z1 => ?_
  simp only [wSet, wLst, wBin, wCB, wCons, wNil, wVar, wC, getV, setV, some!, oAdd, i30, i32, oInt, one, oMod, oI, im]
  refine ⟨by decide, show 6 ≤ sizeLine by decide, by decide, n1 _ _ ?_⟩
  simp only [wDrop, wMt, wTup, wLst, wBin, wCB, wCons, wNil, wVar, wC, getV, setV, some!, mutL, ht, oAdd, i34, i36, oInt, one, oMod, oI, iz]
  refine ⟨by decide, show 4 ≤ sizeLine by decide, by decide, show 2 ≤ sizeLine by decide, ?_⟩
  simp only [oAppend, mutL, ht, one, List.length_map]
  refine ⟨by unfold sizeLine; omega, ?_⟩
  have := hn m z (some (.int (m : Nat))) hm hz
  rw [List.map_append] at this
  exact this
/-- the law's own store, made -/
theorem rd_state {S : Sto} {env : DE} {Q : Qd} {X : XQ} {m : Nat} {d : D} (h21 : getV env 21 = some d) (hd : ∀ S Q, oIx S d (.int 0) Q = Q (.int (m : Nat)) S) (hm : 1 ≤ m ∧ m ≤ 60)
    (h : ∀ sC sK rs S', Ext S S' → LaAt S' sC sK rs (stZ m) → (∀ x, x ∈ sC :: sK :: rs → S x = none) → Q (dSt sC sK) S') :
    (wLst (wCons (wBin oRepM (wLst (wCons (wC (.int 0)) wNil)) (wBin oIx (wVar 21) (wC (.int 0)))) (wCons (wLcM (wRg1 (wBin oIx (wVar 21) (wC (.int 0)))) (gN 4) wYes (wLstM wNil) [4]) wNil))) env S Q X := by
  have hsm : seqM S (.lst [.int 0]) = some [.int 0] := rfl
  simp only [wLst, wLcM, wRg1, wBin, wCons, wNil, wVar, wC, some!, h21, hd, oRepM, hsm, asI, Int.toNat_natCast, rngD_length, List.length_singleton]
  refine ⟨show 1 ≤ sizeLine by decide, ⟨by omega, by omega, by unfold sizeLine; omega⟩, fun sC hsC => ⟨⟨by omega, by omega⟩, by unfold sizeLine; omega, ?_⟩⟩
  have E1 := ext_put (m := .lst (List.replicate m [D.int 0]).flatten) (ext_refl S) hsC
  have c1 : put S sC (.lst (List.replicate m [D.int 0]).flatten) sC = some (.lst ((List.replicate m 0).map fun (n : Nat) => D.int (n : Nat))) := by
    rw [put_same]
    congr 2
    clear h hm hd h21 E1
    induction m with
    | zero => rfl
    | succ m ih => rw [List.replicate_succ, List.flatten_cons, ih, List.replicate_succ]; rfl
  generalize put S sC (.lst (List.replicate m [D.int 0]).flatten) = S1 at E1 c1 ⊢
  refine compI_all (fun i acc S' => ∃ rs : List Addr, acc = rs.map D.ref ∧ rs.length = i ∧ Ext S1 S' ∧ rs.Nodup ∧ ∀ r, r ∈ rs → S' r = some (.lst []) ∧ S1 r = none) ⟨[], rfl, rfl, ext_refl _, List.nodup_nil, fun r hr => by cases hr⟩ (fun _ _ _ _ => trivial) ?_ ?_
  · rintro i d2 acc S2 hi ⟨rs, rfl, hl, E2, nd, hrs⟩
    simp only [gN, wLstM, wNil]
    refine ⟨show 0 ≤ sizeLine by decide, fun r hr => ⟨rs ++ [r], by rw [List.map_append]; rfl, by rw [List.length_append, hl]; rfl, ext_put E2 hr, ?_, fun x hx => ?_⟩⟩
    · rw [List.nodup_append]
      refine ⟨nd, by simp, fun x hx y hy => ?_⟩
      rw [List.mem_singleton] at hy; subst hy
      exact ne_fresh (hrs x hx).1 hr
    · rcases List.mem_append.mp hx with y | y
      · exact ⟨(put_ne (ne_fresh (hrs x y).1 hr)).trans (hrs x y).1, (hrs x y).2⟩
      · rw [List.mem_singleton] at y; subst y
        exact ⟨put_same, ext_none E2 hr⟩
  · rintro acc S2 ⟨rs, rfl, hl, E2, nd, hrs⟩ sK hsK
    rw [rngD_length] at hl
    refine ⟨show 2 ≤ sizeLine by decide, ?_⟩
    have E3 := ext_put (m := .lst (rs.map D.ref)) (ext_refl S2) hsK
    have sk0 := ext_none E2 hsK
    refine h sC sK rs _ (ext_trans E1 (ext_trans E2 E3)) ⟨E3 _ _ (E2 _ _ c1), put_same, ?_, fun i r k hr hk => ?_, ?_⟩ fun x hx => ?_
    · rw [hl]; exact List.length_replicate.symm
    · have hk' : (List.replicate m ([] : List Rw))[i]? = some k := hk
      have := List.eq_of_mem_replicate (List.mem_of_getElem? hk')
      subst this
      exact E3 _ _ (hrs r (List.mem_of_getElem? hr)).1
    · simp only [List.nodup_cons, List.mem_cons, not_or]
      refine ⟨⟨ne_fresh c1 sk0, fun z => ?_⟩, fun z => ?_, nd⟩
      · rw [(hrs _ z).2] at c1; cases c1
      · rw [(hrs _ z).1] at hsK; cases hsK
    · simp only [List.mem_cons] at hx
      rcases hx with rfl | rfl | hx
      · exact hsC
      · exact ext_none E1 sk0
      · exact ext_none E1 (hrs x hx).2
end K12
set_option Elab.async false
set_option linter.all false
set_option maxRecDepth 100000
set_option maxHeartbeats 1000000
namespace K12
open PySem PySem.Spec PyProof.Rows L2 DL

theorem compI_two {t : WPg} {te : WPe} {g : Sto → Prop} {env : DE} {d0 d1 : D} {S : Sto} {Q : List D → Sto → Prop} (g0 : g S) (h : t d0 env fun e => te e S (fun y0 S1 => g S1 ∧ t d1 env fun e => te e S1 (fun y1 S2 => g S2 ∧ Q [y0, y1] S2) X0) X0) : compI t wYes te g env [d0, d1] S Q := compI_of ⟨g0, h⟩
theorem st_some {c : Cl} {S : Sto} {a pC pK x : Addr} {z : Nat} {st : StV} (h : StAt c S a pC pK z st) (hx : S x = none) : x ≠ a ∧ x ≠ pC ∧ x ≠ pK :=
  ⟨fun e => (by rw [e, h.ob] at hx; cases hx), fun e => (by rw [e, h.hc] at hx; cases hx), fun e => (by rw [e, h.hk] at hx; cases hx)⟩
theorem la_mem {S : Sto} {sC sK x : Addr} {rs : List Addr} {st : StV} (h : LaAt S sC sK rs st) (hx : S x = none) : x ∉ sC :: sK :: rs := fun z => by
  obtain ⟨a, b, d⟩ := la_some h hx
  simp only [List.mem_cons] at z
  rcases z with z | z | z
  · exact a z
  · exact b z
  · exact d z
/-- what follows the making -/
def wTail (c : Cl) : WPs := (wSeq (wFor (wRg2 (wC (.int 1)) (wCB oMin2 (wCons (wCB oLen (wCons (wVar 0) wNil)) (wCons (wC (.int 63)) wNil)))) (gN 8) (wCell c))
  (wSeq (wFor (wRg1 (wC (.int 2))) (gN 4) (wIf (wOr (wNot (wTest (wCall (sp__law_same c) (wCons (wFld c.Store N_Store 0 (wBin oIx (wVar 6) (wVar 4))) (wCons (wBin oIx (wBin oIx (wVar 3) (wVar 4)) (wC (.int 0))) wNil))))) (wNot (wTest (wCall (sp__law_same c) (wCons (wFld c.Store N_Store 1 (wBin oIx (wVar 6) (wVar 4))) (wCons (wBin oIx (wBin oIx (wVar 3) (wVar 4)) (wC (.int 1))) wNil)))))) (wRet (wC (.bl false))) wNext))
  (wRet (wAndV (wCall (sp__law_stands c) (wCons (wBin oIx (wVar 6) (wC (.int 0))) (wCons (wBin oIx (wVar 7) (wC (.int 0))) wNil))) (wCall (sp__law_stands c) (wCons (wBin oIx (wVar 6) (wC (.int 1))) (wCons (wBin oIx (wVar 7) (wC (.int 1))) wNil)))))))
theorem rd_tail (c : Cl) {S : Sto} {F : Fx} {A : Bool → Pr} {cells : List Int} {ns : Vec} {rs : List Rw} {y4 y5 y8 y9 y10 y11 y12 y13 y14 y15 y16 y17 y18 y19 y20 y21 : Option D} (H : WS c S F A) (hcl : cells.length ≤ 63) (hrl : rs.length = 20) (hrg : ∀ r, r ∈ rs → RowGood r) {q : QS} (h : ∀ S', q.rt (.bl true) S') :
    wTail c [some (.fro (cells.map D.int)), some (dL ns), some (.lst (rs.map dRw)), some (.ref F.t), y4, y5, some (dS F), some (dQ F), y8, y9, y10, y11, y12, y13, y14, y15, y16, y17, y18, y19, y20, y21] S q := by
  unfold wTail
  have ol : ∀ Q, oLen S [.fro (cells.map D.int)] Q = Q (.int (cells.length : Nat)) S := fun Q => by rw [oLen_at (S := S) (d := .fro (cells.map D.int)) rfl, List.length_map]
  refine seq_k fun q1 n1 r1 _ _ z1 => ?_
  simp only [wFor, wRg2, wCB, wCons, wNil, wVar, wC, getV, some!, asI, ol, oMin2, two]
  refine ⟨⟨by decide, by decide, by omega, by omega⟩, forI_invq (fun k e' S' => ∃ A' y4 y5 y8 y9 y10 y11 y12 y13 y14 y15 y16 y17 y18 y19 y20, WS c S' F A' ∧ e' = [some (.fro (cells.map D.int)), some (dL ns), some (.lst (rs.map dRw)), some (.ref F.t), y4, y5, some (dS F), some (dQ F), y8, y9, y10, y11, y12, y13, y14, y15, y16, y17, y18, y19, y20, y21]) ⟨A, _, _, _, _, _, _, _, _, _, _, _, _, _, _, _, H, rfl⟩ (fun _ _ _ _ => trivial) ?_ ?_⟩
  · rintro k d e' S' hi ⟨A', y4, y5, y8, y9, y10, y11, y12, y13, y14, y15, y16, y17, y18, y19, y20, W, rfl⟩ qa hqa hrta _ _ _
    obtain ⟨hk, rfl⟩ := rngD_get hi
    obtain ⟨cell, hce⟩ : ∃ cell, cells[1 + k]? = some cell := ⟨_, List.getElem?_eq_getElem (by omega)⟩
    simp only [gN, setV]
    rw [show (1 : Int) + (k : Nat) = ((1 + k : Nat) : Int) by omega]
    exact rd_cell c W hrl hrg hce (by omega) fun S2 A2 u5 u9 u10 u11 u12 u13 u14 u15 u16 u17 u18 u19 u20 W2 => hqa _ _ ⟨A2, _, _, _, _, _, _, _, _, _, _, _, _, _, _, _, W2, rfl⟩
  rintro e' S1 ⟨A1, y4, y5, y8, y9, y10, y11, y12, y13, y14, y15, y16, y17, y18, y19, y20, W1, rfl⟩
  refine n1 _ _ ?_
  refine seq_k fun q2 n2 r2 _ _ z2 => ?_
  simp only [wFor, wRg1, wC, asI]
  refine ⟨by decide, forI_invq (fun k e' S' => S' = S1 ∧ ∃ y4, e' = [some (.fro (cells.map D.int)), some (dL ns), some (.lst (rs.map dRw)), some (.ref F.t), y4, y5, some (dS F), some (dQ F), y8, y9, y10, y11, y12, y13, y14, y15, y16, y17, y18, y19, y20, y21]) ⟨rfl, _, rfl⟩ (fun _ _ _ _ => trivial) ?_ ?_⟩
  · rintro k d e' S' hi ⟨rfl, y4, rfl⟩ qa hqa hrta _ _ _
    obtain ⟨hk, rfl⟩ := rngD_get (n := 2) hi
    rw [Int.zero_add]
    obtain ⟨b, hb⟩ : ∃ b : Bool, k = b.toNat := by
      rcases (show k = 0 ∨ k = 1 by omega) with rfl | rfl
      · exact ⟨false, rfl⟩
      · exact ⟨true, rfl⟩
    subst hb
    have tS : ∀ S Q, oIx S (dS F) (.int (b.toNat : Nat)) Q = Q (.ref (F.sa b)) S := two_b b fun b => .ref (F.sa b)
    have tH : ∀ Q, oIx S' (.ref F.t) (.int (b.toNat : Nat)) Q = Q (dSh F b) S' := fun Q => by
      rw [oIx_eq (S := S') (x := .ref F.t) (i := ((b.toNat : Nat) : Int)) (d := dSh F b) (seqA_at W1.sh) (by cases b <;> rfl) Q]
    have sh0 : ∀ S Q, oIx S (dSh F b) (.int 0) Q = Q (.int (F.mm b : Nat)) S := fun S => oIx_eq (xs := [.int (F.mm b : Nat), .int (F.zz b : Nat)]) rfl rfl
    have sh1 : ∀ S Q, oIx S (dSh F b) (.int 1) Q = Q (.int (F.zz b : Nat)) S := fun S => oIx_eq (xs := [.int (F.mm b : Nat), .int (F.zz b : Nat)]) rfl rfl
    have G := stF (W1.two.at_ b).s
    rw [(W1.ad b).1, (W1.mz b).2] at G
    have g0 := G.f0
    rw [(W1.mz b).1] at g0
    simp only [gN, setV, wIf, wOr, wNot, wTest, wCall, wFld, wBin, wCons, wNil, wVar, wC, getV, some!, tS, tH, sh0, sh1, g0, G.f1]
    refine same_go (d := .int (F.mm b : Nat)) trivial ?_
    simp only [Bool.not_true, Bool.false_eq_true, if_false, G.f1, tH, sh1]
    refine same_go (d := .int (F.zz b : Nat)) trivial ?_
    simp only [Bool.not_true, Bool.false_eq_true, if_false, wNext]
    exact hqa _ _ ⟨rfl, _, rfl⟩
  rintro e' S2 ⟨rfl, y4, rfl⟩
  refine n2 _ _ ?_
  have s0 : ∀ S Q, oIx S (dS F) (.int 0) Q = Q (.ref (F.sa false)) S := two_b false fun b => .ref (F.sa b)
  have s1 : ∀ S Q, oIx S (dS F) (.int 1) Q = Q (.ref (F.sa true)) S := two_b true fun b => .ref (F.sa b)
  have t0 : ∀ S Q, oIx S (dQ F) (.int 0) Q = Q (dSt (F.sc false) (F.sk false)) S := two_b false fun b => dSt (F.sc b) (F.sk b)
  have t1 : ∀ S Q, oIx S (dQ F) (.int 1) Q = Q (dSt (F.sc true) (F.sk true)) S := two_b true fun b => dSt (F.sc b) (F.sk b)
  simp only [wRet, wAndV, wCall, wBin, wCons, wNil, wVar, wC, getV, some!, s0, t0]
  refine ⟨A1 false, by rw [(W1.ad false).1, (W1.ad false).2.1, (W1.ad false).2.2], W1.two.at_ false, W1.two.rg false, fun S3 E3 => ?_⟩
  have W3 := ws_ext W1 E3
  simp only [s1, t1, if_true]
  exact ⟨A1 true, by rw [(W1.ad true).1, (W1.ad true).2.1, (W1.ad true).2.2], W3.two.at_ true, W3.two.rg true, fun S4 E4 => h S4⟩
theorem len_law (c : Cl) : ∀ ds S Q E, sp_law c ds S Q E → ds.length = 1 := by
  rintro ds S Q E ⟨_, rfl, _⟩; rfl
theorem rd_law (c : Cl) : ∀ ds S Q X1, sp_law c ds S Q X1 → w_law c (startD N_law_ ds) S (endQ Q X1) := by
  rintro ds S Q X1 ⟨cells, rfl, hcl, h⟩
  show w_law c [some (.fro (cells.map D.int)), none, none, none, none, none, none, none, none, none, none, none, none, none, none, none, none, none, none, none, none, none] S (endQ Q X1)
  have ol : ∀ S Q, oLen S [.fro (cells.map D.int)] Q = Q (.int (cells.length : Nat)) S := fun S Q => by rw [oLen_at (S := S) (d := .fro (cells.map D.int)) rfl, List.length_map]
  unfold w_law
  refine seq_k fun q1 n1 r1 _ _ z1 => ?_
  have go1 : ∀ (ns : Vec) S1, NumsOk 60 ns → q1.nx [some (.fro (cells.map D.int)), some (dL ns), none, none, none, none, none, none, none, none, none, none, none, none, none, none, none, none, none, none, none, none] S1 := by
    intro ns S1 hns
    refine n1 _ _ ?_
    refine seq_k fun q2 n2 r2 _ _ z2 => ?_
    simp only [wSet, wCall, wCons, wNil, wVar, wC, getV, setV, some!]
    refine ⟨ns, 60, rfl, hns, by decide, by decide, fun rs S2 hrl hrg _ => n2 _ _ ?_⟩
    refine seq_k fun q3 n3 r3 _ _ z3 => ?_
    simp only [wSet, wLstM, wNil, setV]
    refine ⟨show 0 ≤ sizeLine by decide, fun t ht => n3 _ _ ?_⟩
    have hat : put S2 t (.lst []) t = some (.lst (([] : List (Nat × Nat)).map shD2)) := put_same
    generalize put S2 t (.lst []) = S3 at hat ⊢
    refine seq_k fun q4 n4 r4 _ _ z4 => ?_
    simp only [wFor, wRg1, wC, asI]
    refine ⟨by decide, forI_invq (fun k e' S' => ∃ (L : List (Nat × Nat)) (x4 x5 : Option D), L.length = k ∧ (∀ p, p ∈ L → (1 ≤ p.1 ∧ p.1 ≤ 60) ∧ 1 ≤ p.2 ∧ p.2 ≤ 8) ∧ S' t = some (.lst (L.map shD2)) ∧ e' = [some (.fro (cells.map D.int)), some (dL ns), some (.lst (rs.map dRw)), some (.ref t), x4, x5, none, none, none, none, none, none, none, none, none, none, none, none, none, none, none, none]) ⟨[], _, _, rfl, fun p hp => (by cases hp), hat, rfl⟩ (fun _ _ _ _ => trivial) ?_ ?_⟩
    · rintro k d e' S' hi ⟨L, x4, x5, hl, hb, htS, rfl⟩ qa hqa hrta _ _ _
      obtain ⟨hk, rfl⟩ := rngD_get (n := 2) hi
      rw [Int.zero_add]
      simp only [gN, setV]
      refine rd_shape hns hk htS hl fun m z y5 hm hz => hqa _ _ ⟨L ++ [(m, z)], _, _, by rw [List.length_append, hl]; rfl, fun p hp => ?_, put_same, rfl⟩
      rcases List.mem_append.mp hp with y | y
      · exact hb p y
      · rw [List.mem_singleton] at y; subst y; exact ⟨hm, hz⟩
    rintro e' S4 ⟨L, x4, x5, hl, hb, hts, rfl⟩
    obtain ⟨p0, p1, rfl⟩ : ∃ p0 p1, L = [p0, p1] := by
      match L, hl with
      | [p0, p1], _ => exact ⟨p0, p1, rfl⟩
    obtain ⟨hm0, hz0⟩ := hb p0 List.mem_cons_self
    obtain ⟨hm1, hz1⟩ := hb p1 (List.mem_cons_of_mem _ List.mem_cons_self)
    have s0 : ∀ p S Q, oIx S (shD2 p) (.int 0) Q = Q (.int (p.1 : Nat)) S := fun p S => oIx_eq (xs := [.int (p.1 : Nat), .int (p.2 : Nat)]) rfl rfl
    have s1 : ∀ p S Q, oIx S (shD2 p) (.int 1) Q = Q (.int (p.2 : Nat)) S := fun p S => oIx_eq (xs := [.int (p.1 : Nat), .int (p.2 : Nat)]) rfl rfl
    refine n4 _ _ ?_
    clear n1 n2 n3 n4 hat hb hl
    generalize S4 = S at *
    refine seq_k fun q5 n5 r5 _ _ z5 => ?_
    simp only [wSet, wLc, wIt, wVar, getV, some!, seqA_at hts, delVs, delV]
    refine ⟨show 2 ≤ sizeLine by decide, compI_two (seqA_at hts) ?_⟩
    simp only [gN, setV, wMake, wCons, wNil, wBin, wVar, wC, getV, some!, s0, s1]
    intro a0 ha0
    refine ⟨a0, p0.1, p0.2, rfl, hm0, hz0, put_same, fun pC0 pK0 S1 hC0 hK0 st0 f0 => ⟨rfl, ?_⟩⟩
    have E0 := ext_put (m := .ins c.Store N_Store (noneV N_Store)) (ext_refl S) ha0
    have E1 : Ext S S1 := fun x m hx => f0 x m (ne_fresh hx ha0) (E0 x m hx)
    have hts1 := E1 _ _ hts
    refine ⟨seqA_at hts1, ?_⟩
    intro a1 ha1
    refine ⟨a1, p1.1, p1.2, rfl, hm1, hz1, put_same, fun pC1 pK1 S2 hC1 hK1 st1 f1 => ⟨rfl, ?_⟩⟩
    have E10 := ext_put (m := .ins c.Store N_Store (noneV N_Store)) (ext_refl S1) ha1
    have E2 : Ext S1 S2 := fun x m hx => f1 x m (ne_fresh hx ha1) (E10 x m hx)
    have hts2 := E2 _ _ hts1
    refine ⟨seqA_at hts2, n5 _ _ ?_⟩
    have fC0 := ext_none E0 hC0
    have fK0 := ext_none E0 hK0
    have fC1 := ext_none E10 hC1
    have fK1 := ext_none E10 hK1
    clear n5 f0 f1 hC0 hK0 hC1 hK1 E0 E10
    refine seq_k fun q6 n6 r6 _ _ z6 => ?_
    simp only [wSet, wLc, wIt, wVar, getV, setV, some!, seqA_at hts2, delVs, delV]
    refine ⟨show 2 ≤ sizeLine by decide, compI_two (seqA_at hts2) ?_⟩
    simp only [gN, setV]
    refine rd_state (m := p0.1) (d := shD2 p0) rfl (s0 p0) hm0 fun sC0 sK0 rs0 S3 E3 l0 fr0 => ⟨seqA_at (E3 _ _ hts2), ?_⟩
    refine rd_state (m := p1.1) (d := shD2 p1) rfl (s0 p1) hm1 fun sC1 sK1 rs1 S4 E4 l1 fr1 => ⟨seqA_at (E4 _ _ (E3 _ _ hts2)), n6 _ _ ?_⟩
    have hts4 := E4 _ _ (E3 _ _ hts2)
    let P0 : Pr := ⟨a0, pC0, pK0, sC0, sK0, rs0, p0.2, stZ p0.1⟩
    let P1 : Pr := ⟨a1, pC1, pK1, sC1, sK1, rs1, p1.2, stZ p1.1⟩
    let A : Bool → Pr := fun b => match b with | false => P0 | true => P1
    let F : Fx := ⟨t, fun b => match b with | false => a0 | true => a1, fun b => match b with | false => sC0 | true => sC1, fun b => match b with | false => sK0 | true => sK1, fun b => match b with | false => p0.1 | true => p1.1, fun b => match b with | false => p0.2 | true => p1.2⟩
    have sp : ∀ (p : Pr) x, x ∈ own p → (x = p.a ∨ x = p.pC ∨ x = p.pK) ∨ x ∈ p.sC :: p.sK :: p.rs := fun p x hx => by
      simp only [own, List.mem_cons] at hx ⊢
      rcases hx with e | e | e | e | e | e
      · exact .inl (.inl e)
      · exact .inl (.inr (.inl e))
      · exact .inl (.inr (.inr e))
      · exact .inr (.inl e)
      · exact .inr (.inr (.inl e))
      · exact .inr (.inr (.inr e))
    have o0 : ∀ x, x ∈ own P0 → S x = none := fun x hx => by
      rcases sp P0 x hx with (e | e | e) | e
      · rw [e]; exact ha0
      · rw [e]; exact fC0
      · rw [e]; exact fK0
      · exact ext_none (ext_trans E1 E2) (fr0 x e)
    have o1 : ∀ x, x ∈ own P1 → S1 x = none := fun x hx => by
      rcases sp P1 x hx with (e | e | e) | e
      · rw [e]; exact ha1
      · rw [e]; exact fC1
      · rw [e]; exact fK1
      · exact ext_none (ext_trans E2 E3) (fr1 x e)
    have st02 := st_ext st0 E2
    have dis : ∀ x, x ∈ own P0 → x ∈ own P1 → False := fun x h0 h1 => by
      obtain ⟨n1, n2, n3⟩ := st_some st0 (o1 x h1)
      rcases sp P0 x h0 with (e | e | e) | e
      · exact n1 e
      · exact n2 e
      · exact n3 e
      · obtain ⟨m1, m2, m3⟩ := st_some st1 (fr0 x e)
        rcases sp P1 x h1 with (e1 | e1 | e1) | e1
        · exact m1 e1
        · exact m2 e1
        · exact m3 e1
        · exact la_mem l0 (fr1 x e1) e
    have E24 := ext_trans E3 E4
    have gz : ∀ m, GoodK (stZ m) := fun m k hk r hr => by
      have := List.eq_of_mem_replicate (show k ∈ List.replicate m ([] : List Rw) from hk)
      rw [this] at hr; cases hr
    have nin : ∀ (S' : Sto) (x : Addr) (l : List Addr), (∃ m, S' x = some m) → (∀ y, y ∈ l → S' y = none) → x ∉ l := fun S' x l hx hl y => by
      obtain ⟨m, hm⟩ := hx
      rw [hl x y] at hm; cases hm
    have W : WS c S4 F A := by
      refine ⟨⟨fun b => ?_, fun b x hx hy => ?_, fun b => ?_⟩, hts4, fun b => ?_, fun b => ?_, fun b => ?_⟩
      · cases b
        · exact ⟨st_ext st02 E24, la_ext l0 E4, nin S2 pC0 _ ⟨_, st02.hc⟩ fr0, nin S2 pK0 _ ⟨_, st02.hk⟩ fr0, nin S2 a0 _ ⟨_, st02.ob⟩ fr0⟩
        · have st13 := st_ext st1 E3
          exact ⟨st_ext st13 E4, l1, nin S3 pC1 _ ⟨_, st13.hc⟩ fr1, nin S3 pK1 _ ⟨_, st13.hk⟩ fr1, nin S3 a1 _ ⟨_, st13.ob⟩ fr1⟩
      · cases b
        · exact dis x hx hy
        · exact dis x hy hx
      · cases b
        · exact gz _
        · exact gz _
      · cases b
        · exact ⟨List.length_replicate, rfl⟩
        · exact ⟨List.length_replicate, rfl⟩
      · cases b
        · exact ⟨rfl, rfl, rfl⟩
        · exact ⟨rfl, rfl, rfl⟩
      · cases b
        · exact fun y => by have := o0 _ y; rw [hts] at this; cases this
        · exact fun y => by have := o1 _ y; rw [hts1] at this; cases this
    exact rd_tail c W hcl hrl hrg fun S' => h S'
  by_cases y : 0 < cells.length
  · obtain ⟨cell, hce⟩ : ∃ cell, cells[0]? = some cell := ⟨_, List.getElem?_eq_getElem y⟩
    have i0 : ∀ Q, oIx S (.fro (cells.map D.int)) (.int 0) Q = Q (.int cell) S := oIx_eq (xs := cells.map D.int) rfl (at_z (by decide) (by rw [List.getElem?_map]; show (cells[0]?).map _ = _; rw [hce]; rfl))
    simp only [wSet, wCall, wIfE, wTest, wBin, wCB, wCons, wNil, wVar, wC, getV, setV, some!, ol, oGt, oI0, decide_eq_true_eq]
    rw [if_pos (by omega)]
    simp only [i0]
    exact ⟨cell, 0, 60, rfl, by decide, by decide, fun ns hns S1 _ => go1 ns S1 hns⟩
  · simp only [wSet, wCall, wIfE, wTest, wBin, wCB, wCons, wNil, wVar, wC, getV, setV, some!, ol, oGt, oI0, decide_eq_true_eq]
    rw [if_neg (by omega)]
    exact ⟨0, 0, 60, rfl, by decide, by decide, fun ns hns S1 _ => go1 ns S1 hns⟩
end K12
set_option Elab.async false
set_option linter.all false
set_option maxRecDepth 100000
set_option maxHeartbeats 4000000
namespace K12
open PySem PySem.Spec PyProof.Rows L2 DL
def topS (i : Nat) : Stmt := PySem.Challenge.pw_everyasked_k12_whole_stores.main.body.getD i (.Pass ⟨0, 0, 0, 0⟩)
abbrev s_is_between : Stmt := topS 11
abbrev s_own_row : Stmt := topS 15
abbrev s_Store_init : Stmt := inClass (topS 16) 0
abbrev s_Store_free : Stmt := inClass (topS 16) 1
abbrev s_Store_check_held : Stmt := inClass (topS 16) 2
abbrev s_Store_check_alone : Stmt := inClass (topS 16) 3
abbrev s_Store_take : Stmt := inClass (topS 16) 4
abbrev s_Store_hold : Stmt := inClass (topS 16) 5
abbrev s_Store_release : Stmt := inClass (topS 16) 6
abbrev s_Store_put_row : Stmt := inClass (topS 16) 7
abbrev s_Store_shorten : Stmt := inClass (topS 16) 8
abbrev s_Store_rows : Stmt := inClass (topS 16) 9
abbrev s_Store_holders : Stmt := inClass (topS 16) 10
abbrev s__law_numbers : Stmt := topS 18
abbrev s__law_same : Stmt := topS 19
abbrev s__law_vector : Stmt := topS 20
abbrev s__law_net : Stmt := topS 21
abbrev s__law_dot : Stmt := topS 22
abbrev s__law_times : Stmt := topS 23
abbrev s__law_row : Stmt := topS 24
abbrev s__law_some_rows : Stmt := topS 25
abbrev s__law_lowest : Stmt := topS 26
abbrev s__law_take : Stmt := topS 27
abbrev s__law_release : Stmt := topS 28
abbrev s__law_is_integer : Stmt := topS 29
abbrev s__law_odd : Stmt := topS 30
abbrev s__law_kinds : Stmt := topS 31
abbrev s__law_call : Stmt := topS 32
abbrev s__law_ask : Stmt := topS 33
abbrev s__law_due : Stmt := topS 34
abbrev s__law_stands : Stmt := topS 35
abbrev s__law_listed : Stmt := topS 36
abbrev s__law_spoilt : Stmt := topS 37
abbrev s__law_hands : Stmt := topS 38
abbrev s__law_free : Stmt := topS 40
abbrev s__law_looks : Stmt := topS 39
abbrev s_law : Stmt := topS 41
theorem sc_is_between : FnScope N_is_between_ ["value", "least", "most"] (defScope s_is_between) := ⟨rfl, rfl, rfl, by decide +kernel, rfl, by decide +kernel, by decide +kernel⟩
theorem sc_own_row : FnScope N_own_row_ ["row"] (defScope s_own_row) := ⟨rfl, rfl, rfl, by decide +kernel, rfl, by decide +kernel, by decide +kernel⟩
theorem sc_Store_init : FnScope N_Store_init_ ["self", "many", "size"] (defScope s_Store_init) := ⟨rfl, rfl, rfl, by decide +kernel, rfl, by decide +kernel, by decide +kernel⟩
theorem sc_Store_free : FnScope N_Store_free_ ["self"] (defScope s_Store_free) := ⟨rfl, rfl, rfl, by decide +kernel, rfl, by decide +kernel, by decide +kernel⟩
theorem sc_Store_check_held : FnScope N_Store_check_held_ ["self", "block"] (defScope s_Store_check_held) := ⟨rfl, rfl, rfl, by decide +kernel, rfl, by decide +kernel, by decide +kernel⟩
theorem sc_Store_check_alone : FnScope N_Store_check_alone_ ["self", "block"] (defScope s_Store_check_alone) := ⟨rfl, rfl, rfl, by decide +kernel, rfl, by decide +kernel, by decide +kernel⟩
theorem sc_Store_take : FnScope N_Store_take_ ["self"] (defScope s_Store_take) := ⟨rfl, rfl, rfl, by decide +kernel, rfl, by decide +kernel, by decide +kernel⟩
theorem sc_Store_hold : FnScope N_Store_hold_ ["self", "block"] (defScope s_Store_hold) := ⟨rfl, rfl, rfl, by decide +kernel, rfl, by decide +kernel, by decide +kernel⟩
theorem sc_Store_release : FnScope N_Store_release_ ["self", "block"] (defScope s_Store_release) := ⟨rfl, rfl, rfl, by decide +kernel, rfl, by decide +kernel, by decide +kernel⟩
theorem sc_Store_put_row : FnScope N_Store_put_row_ ["self", "block", "row"] (defScope s_Store_put_row) := ⟨rfl, rfl, rfl, by decide +kernel, rfl, by decide +kernel, by decide +kernel⟩
theorem sc_Store_shorten : FnScope N_Store_shorten_ ["self", "block", "many"] (defScope s_Store_shorten) := ⟨rfl, rfl, rfl, by decide +kernel, rfl, by decide +kernel, by decide +kernel⟩
theorem sc_Store_rows : FnScope N_Store_rows_ ["self", "block"] (defScope s_Store_rows) := ⟨rfl, rfl, rfl, by decide +kernel, rfl, by decide +kernel, by decide +kernel⟩
theorem sc_Store_holders : FnScope N_Store_holders_ ["self", "block"] (defScope s_Store_holders) := ⟨rfl, rfl, rfl, by decide +kernel, rfl, by decide +kernel, by decide +kernel⟩
theorem sc__law_numbers : FnScope N__law_numbers_ ["cell", "at", "many"] (defScope s__law_numbers) := ⟨rfl, rfl, rfl, by decide +kernel, rfl, by decide +kernel, by decide +kernel⟩
theorem sc__law_same : FnScope N__law_same_ ["actual", "expected"] (defScope s__law_same) := ⟨rfl, rfl, rfl, by decide +kernel, rfl, by decide +kernel, by decide +kernel⟩
theorem sc__law_vector : FnScope N__law_vector_ ["numbers", "at", "width", "prime"] (defScope s__law_vector) := ⟨rfl, rfl, rfl, by decide +kernel, rfl, by decide +kernel, by decide +kernel⟩
theorem sc__law_net : FnScope N__law_net_ ["numbers", "letters", "width", "many", "prime"] (defScope s__law_net) := ⟨rfl, rfl, rfl, by decide +kernel, rfl, by decide +kernel, by decide +kernel⟩
theorem sc__law_dot : FnScope N__law_dot_ ["one", "other", "prime"] (defScope s__law_dot) := ⟨rfl, rfl, rfl, by decide +kernel, rfl, by decide +kernel, by decide +kernel⟩
theorem sc__law_times : FnScope N__law_times_ ["matrix", "vector", "prime"] (defScope s__law_times) := ⟨rfl, rfl, rfl, by decide +kernel, rfl, by decide +kernel, by decide +kernel⟩
theorem sc__law_row : FnScope N__law_row_ ["net", "rows", "letter"] (defScope s__law_row) := ⟨rfl, rfl, rfl, by decide +kernel, rfl, by decide +kernel, by decide +kernel⟩
theorem sc__law_some_rows : FnScope N__law_some_rows_ ["numbers"] (defScope s__law_some_rows) := ⟨rfl, rfl, rfl, by decide +kernel, rfl, by decide +kernel, by decide +kernel⟩
theorem sc__law_lowest : FnScope N__law_lowest_ ["state"] (defScope s__law_lowest) := ⟨rfl, rfl, rfl, by decide +kernel, rfl, by decide +kernel, by decide +kernel⟩
theorem sc__law_take : FnScope N__law_take_ ["state"] (defScope s__law_take) := ⟨rfl, rfl, rfl, by decide +kernel, rfl, by decide +kernel, by decide +kernel⟩
theorem sc__law_release : FnScope N__law_release_ ["state", "block"] (defScope s__law_release) := ⟨rfl, rfl, rfl, by decide +kernel, rfl, by decide +kernel, by decide +kernel⟩
theorem sc__law_is_integer : FnScope N__law_is_integer_ ["value", "low", "high"] (defScope s__law_is_integer) := ⟨rfl, rfl, rfl, by decide +kernel, rfl, by decide +kernel, by decide +kernel⟩
theorem sc__law_odd : FnScope N__law_odd_ ["numbers", "k", "most"] (defScope s__law_odd) := ⟨rfl, rfl, rfl, by decide +kernel, rfl, by decide +kernel, by decide +kernel⟩
theorem sc__law_kinds : FnScope N__law_kinds_ ["e"] (defScope s__law_kinds) := ⟨rfl, rfl, rfl, by decide +kernel, rfl, by decide +kernel, by decide +kernel⟩
theorem sc__law_call : FnScope N__law_call_ ["store", "word", "block", "value", "named"] (defScope s__law_call) := ⟨rfl, rfl, rfl, by decide +kernel, rfl, by decide +kernel, by decide +kernel⟩
theorem sc__law_ask : FnScope N__law_ask_ ["store", "word", "block", "value", "named"] (defScope s__law_ask) := ⟨rfl, rfl, rfl, by decide +kernel, rfl, by decide +kernel, by decide +kernel⟩
theorem sc__law_due : FnScope N__law_due_ ["state", "size", "word", "block", "value"] (defScope s__law_due) := ⟨rfl, rfl, rfl, by decide +kernel, rfl, by decide +kernel, by decide +kernel⟩
theorem sc__law_stands : FnScope N__law_stands_ ["store", "state"] (defScope s__law_stands) := ⟨rfl, rfl, rfl, by decide +kernel, rfl, by decide +kernel, by decide +kernel⟩
theorem sc__law_listed : FnScope N__law_listed_ ["row"] (defScope s__law_listed) := ⟨rfl, rfl, rfl, by decide +kernel, rfl, by decide +kernel, by decide +kernel⟩
theorem sc__law_spoilt : FnScope N__law_spoilt_ ["handed"] (defScope s__law_spoilt) := ⟨rfl, rfl, rfl, by decide +kernel, rfl, by decide +kernel, by decide +kernel⟩
theorem sc__law_hands : FnScope N__law_hands_ ["word", "value", "listed"] (defScope s__law_hands) := ⟨rfl, rfl, rfl, by decide +kernel, rfl, by decide +kernel, by decide +kernel⟩
theorem sc__law_free : FnScope N__law_free_ ["state"] (defScope s__law_free) := ⟨rfl, rfl, rfl, by decide +kernel, rfl, by decide +kernel, by decide +kernel⟩
theorem sc__law_looks : FnScope N__law_looks_ ["stores", "states", "block", "named"] (defScope s__law_looks) := ⟨rfl, rfl, rfl, by decide +kernel, rfl, by decide +kernel, by decide +kernel⟩
theorem sc_law : FnScope N_law_ ["script"] (defScope s_law) := ⟨rfl, rfl, rfl, by decide +kernel, rfl, by decide +kernel, by decide +kernel⟩
structure Txt (mg : Str → Option Value) (c : Cl) : Prop where
  b_ValueError : mg "ValueError" = none
  b_abs : mg "abs" = none
  b_bool : mg "bool" = none
  b_int : mg "int" = none
  b_isinstance : mg "isinstance" = none
  b_len : mg "len" = none
  b_list : mg "list" = none
  b_min : mg "min" = none
  b_range : mg "range" = none
  b_repr : mg "repr" = none
  b_str : mg "str" = none
  b_tuple : mg "tuple" = none
  d_is_between : DefAt c.K mg "is_between" "is_between" s_is_between ["value", "least", "most"]
  d_own_row : DefAt c.K mg "own_row" "own_row" s_own_row ["row"]
  i_Store_init : MkAt c.K c.Store "Store.__init__" s_Store_init ["self", "many", "size"]
  pr_Store_free : PropAt c.K c.Store "free" "Store.free" s_Store_free ["self"]
  m_Store_check_held : MetAt c.K c.Store "check_held" "Store.check_held" s_Store_check_held ["self", "block"]
  m_Store_check_alone : MetAt c.K c.Store "check_alone" "Store.check_alone" s_Store_check_alone ["self", "block"]
  m_Store_take : MetAt c.K c.Store "take" "Store.take" s_Store_take ["self"]
  m_Store_hold : MetAt c.K c.Store "hold" "Store.hold" s_Store_hold ["self", "block"]
  m_Store_release : MetAt c.K c.Store "release" "Store.release" s_Store_release ["self", "block"]
  m_Store_put_row : MetAt c.K c.Store "put_row" "Store.put_row" s_Store_put_row ["self", "block", "row"]
  m_Store_shorten : MetAt c.K c.Store "shorten" "Store.shorten" s_Store_shorten ["self", "block", "many"]
  m_Store_rows : MetAt c.K c.Store "rows" "Store.rows" s_Store_rows ["self", "block"]
  m_Store_holders : MetAt c.K c.Store "holders" "Store.holders" s_Store_holders ["self", "block"]
  d__law_numbers : DefAt c.K mg "_law_numbers" "_law_numbers" s__law_numbers ["cell", "at", "many"]
  d__law_same : DefAt c.K mg "_law_same" "_law_same" s__law_same ["actual", "expected"]
  d__law_vector : DefAt c.K mg "_law_vector" "_law_vector" s__law_vector ["numbers", "at", "width", "prime"]
  d__law_net : DefAt c.K mg "_law_net" "_law_net" s__law_net ["numbers", "letters", "width", "many", "prime"]
  d__law_dot : DefAt c.K mg "_law_dot" "_law_dot" s__law_dot ["one", "other", "prime"]
  d__law_times : DefAt c.K mg "_law_times" "_law_times" s__law_times ["matrix", "vector", "prime"]
  d__law_row : DefAt c.K mg "_law_row" "_law_row" s__law_row ["net", "rows", "letter"]
  d__law_some_rows : DefAt c.K mg "_law_some_rows" "_law_some_rows" s__law_some_rows ["numbers"]
  d__law_lowest : DefAt c.K mg "_law_lowest" "_law_lowest" s__law_lowest ["state"]
  d__law_take : DefAt c.K mg "_law_take" "_law_take" s__law_take ["state"]
  d__law_release : DefAt c.K mg "_law_release" "_law_release" s__law_release ["state", "block"]
  d__law_is_integer : DefAt c.K mg "_law_is_integer" "_law_is_integer" s__law_is_integer ["value", "low", "high"]
  d__law_odd : DefAt c.K mg "_law_odd" "_law_odd" s__law_odd ["numbers", "k", "most"]
  d__law_kinds : DefAt c.K mg "_law_kinds" "_law_kinds" s__law_kinds ["e"]
  d__law_call : DefAt c.K mg "_law_call" "_law_call" s__law_call ["store", "word", "block", "value", "named"]
  d__law_ask : DefAt c.K mg "_law_ask" "_law_ask" s__law_ask ["store", "word", "block", "value", "named"]
  d__law_due : DefAt c.K mg "_law_due" "_law_due" s__law_due ["state", "size", "word", "block", "value"]
  d__law_stands : DefAt c.K mg "_law_stands" "_law_stands" s__law_stands ["store", "state"]
  d__law_listed : DefAt c.K mg "_law_listed" "_law_listed" s__law_listed ["row"]
  d__law_spoilt : DefAt c.K mg "_law_spoilt" "_law_spoilt" s__law_spoilt ["handed"]
  d__law_hands : DefAt c.K mg "_law_hands" "_law_hands" s__law_hands ["word", "value", "listed"]
  d__law_free : DefAt c.K mg "_law_free" "_law_free" s__law_free ["state"]
  d__law_looks : DefAt c.K mg "_law_looks" "_law_looks" s__law_looks ["stores", "states", "block", "named"]
  d_law : DefAt c.K mg "law" "law" s_law ["script"]
  mtk_Store_hold_block : MetAtK c.K c.Store "hold" "Store.hold" s_Store_hold ["self", "block"] ["block"] 1 [0, 1]
  mtk_Store_holders_block : MetAtK c.K c.Store "holders" "Store.holders" s_Store_holders ["self", "block"] ["block"] 1 [0, 1]
  mtk_Store_put_row_row_block : MetAtK c.K c.Store "put_row" "Store.put_row" s_Store_put_row ["self", "block", "row"] ["row", "block"] 2 [0, 2, 1]
  mtk_Store_release_block : MetAtK c.K c.Store "release" "Store.release" s_Store_release ["self", "block"] ["block"] 1 [0, 1]
  mtk_Store_rows_block : MetAtK c.K c.Store "rows" "Store.rows" s_Store_rows ["self", "block"] ["block"] 1 [0, 1]
  mtk_Store_shorten_many_block : MetAtK c.K c.Store "shorten" "Store.shorten" s_Store_shorten ["self", "block", "many"] ["many", "block"] 2 [0, 2, 1]
  c_MOST_BLOCKS : ∃ u, mg "MOST_BLOCKS" = some u ∧ RelV (.int (60)) u
  c_MOST_ROWS : ∃ u, mg "MOST_ROWS" = some u ∧ RelV (.int (8)) u
  g_InvalidLetter : mg "InvalidLetter" = some (.ref c.InvalidLetter)
  g_InvalidNumber : mg "InvalidNumber" = some (.ref c.InvalidNumber)
  g_NoHouse : mg "NoHouse" = some (.ref c.NoHouse)
  g_NoRequest : mg "NoRequest" = some (.ref c.NoRequest)
  g_NoRoom : mg "NoRoom" = some (.ref c.NoRoom)
  g_NotAlone : mg "NotAlone" = some (.ref c.NotAlone)
  g_NotHeld : mg "NotHeld" = some (.ref c.NotHeld)
  g_ServeError : mg "ServeError" = some (.ref c.ServeError)
  g_TooLarge : mg "TooLarge" = some (.ref c.TooLarge)
  x_InvalidNumber : ExAt c.K mg "InvalidNumber" c.InvalidNumber "number" "number" "InvalidNumber.__init__" (inClass (topS 2) 0)
  x_NoRoom : ExAt c.K mg "NoRoom" c.NoRoom "many" "many" "NoRoom.__init__" (inClass (topS 4) 0)
  x_NotAlone : ExAt c.K mg "NotAlone" c.NotAlone "block" "block" "NotAlone.__init__" (inClass (topS 6) 0)
  x_NotHeld : ExAt c.K mg "NotHeld" c.NotHeld "block" "block" "NotHeld.__init__" (inClass (topS 5) 0)
  cl_Store : Cls c.K c.Store
  mk_Store : mg "Store" = some (.ref c.Store)
  na_Store_many : NoAttr c.K c.Store "many"
  na_Store_size : NoAttr c.K c.Store "size"
  na_Store_counts : NoAttr c.K c.Store "counts"
  na_Store_kept : NoAttr c.K c.Store "kept"
section
variable {P : Program} {w : World} {mg : Str → Option Value} {base : Heap} {c : Cl}
theorem scx_InvalidNumber : FnScope ["self", "number"] ["self", "number"] (defScope (inClass (topS 2) 0)) := ⟨rfl, rfl, rfl, by decide +kernel, rfl, by decide +kernel, by decide +kernel⟩
theorem xc_InvalidNumber (T : Txt mg c) : ExC P w c.K mg base "InvalidNumber" c.InvalidNumber "number" :=
  ExC.mk T.x_InvalidNumber scx_InvalidNumber fun fI cdv A outer s H E => pss_one (ps_ost (pv 0) (pv 1) rfl)
theorem scx_NoRoom : FnScope ["self", "many"] ["self", "many"] (defScope (inClass (topS 4) 0)) := ⟨rfl, rfl, rfl, by decide +kernel, rfl, by decide +kernel, by decide +kernel⟩
theorem xc_NoRoom (T : Txt mg c) : ExC P w c.K mg base "NoRoom" c.NoRoom "many" :=
  ExC.mk T.x_NoRoom scx_NoRoom fun fI cdv A outer s H E => pss_one (ps_ost (pv 0) (pv 1) rfl)
theorem scx_NotAlone : FnScope ["self", "block"] ["self", "block"] (defScope (inClass (topS 6) 0)) := ⟨rfl, rfl, rfl, by decide +kernel, rfl, by decide +kernel, by decide +kernel⟩
theorem xc_NotAlone (T : Txt mg c) : ExC P w c.K mg base "NotAlone" c.NotAlone "block" :=
  ExC.mk T.x_NotAlone scx_NotAlone fun fI cdv A outer s H E => pss_one (ps_ost (pv 0) (pv 1) rfl)
theorem scx_NotHeld : FnScope ["self", "block"] ["self", "block"] (defScope (inClass (topS 5) 0)) := ⟨rfl, rfl, rfl, by decide +kernel, rfl, by decide +kernel, by decide +kernel⟩
theorem xc_NotHeld (T : Txt mg c) : ExC P w c.K mg base "NotHeld" c.NotHeld "block" :=
  ExC.mk T.x_NotHeld scx_NotHeld fun fI cdv A outer s H E => pss_one (ps_ost (pv 0) (pv 1) rfl)
theorem ok_is_between (T : Txt mg c) : FnC P w c.K mg base 1 "is_between" ["value", "least", "most"] (sp_is_between c) :=
  FnC.mk T.d_is_between sc_is_between (by decide) (len_is_between c) (fun f cdv A outer s H E hr => (pss_oneD (pds_ret (pd_and (pd_isi (T := "int") (pd_var 0) (pe_bltn rfl T.b_int (by decide +kernel) rfl) T.b_isinstance) (pd_and (pd_not (pd_isi (T := "bool") (pd_var 0) (pe_bltn rfl T.b_bool (by decide +kernel) rfl) T.b_isinstance)) (pd_one (pd_chain opd_le opd_le (pd_var 1) (pd_var 0) (pd_var 2)))))))) (rd_is_between c)
theorem ok_own_row (T : Txt mg c) : FnC P w c.K mg base 1 "own_row" ["row"] (sp_own_row c) :=
  FnC.mk T.d_own_row sc_own_row (by decide) (len_own_row c) (fun f cdv A outer s H E hr => (pss_consD (pds_asgS (vs := (List.range 5)) (pd_var 0) (pdg_U rfl (pdgs_cons (pdg_name (i := 1) sc_own_row.nd rfl (by first | exact Or.inl rfl | exact Or.inr rfl) (by decide)) (pdgs_cons (pdg_name (i := 2) sc_own_row.nd rfl (by first | exact Or.inl rfl | exact Or.inr rfl) (by decide)) pdgs_nil))))
  (pss_oneD (pds_ret (pd_tup (pda_cons (pd_callTy cd_tuple T.b_tuple (by decide +kernel) (pda_cons (pd_lcS (own := [("key", 3), ("value", 4)]) rfl sc_own_row.nd (pdi_seq (pd_var 1)) (blkOk_by (N := N_own_row_) (sc := defScope s_own_row) (by decide +kernel)) (fun _ _ _ _ _ => (pdg_U rfl (pdgs_cons (pdg_name (i := 3) sc_own_row.nd rfl (by first | exact Or.inl rfl | exact Or.inr rfl) (by decide)) (pdgs_cons (pdg_name (i := 4) sc_own_row.nd rfl (by first | exact Or.inl rfl | exact Or.inr rfl) (by decide)) pdgs_nil)))) (fun _ _ _ _ _ => pdts_nil) (fun _ _ _ _ _ => (pd_tup (pda_cons (pd_callTy cd_tuple T.b_tuple (by decide +kernel) (pda_cons (pd_var 3) pda_nil)) (pda_cons (pd_callTy cd_tuple T.b_tuple (by decide +kernel) (pda_cons (pd_var 4) pda_nil)) pda_nil))))) pda_nil)) (pda_cons (pd_callTy cd_tuple T.b_tuple (by decide +kernel) (pda_cons (pd_var 2) pda_nil)) pda_nil))))))) (rd_own_row c)
theorem ok_Store_init (T : Txt mg c) : MkC P w c.K mg base c.Store 3 ["self", "many", "size"] (sp_Store_init c) :=
  MkC.mk T.i_Store_init sc_Store_init (by decide) (len_Store_init c) (fun f cdv A outer s H E hr => (pss_consD (pds_if (pdt_not (pdt_val (pd_fn (ok_is_between T) (hr.mono (by decide)) (pda_cons (pd_var 1) (pda_cons pd_int (pda_cons (pd_glob T.c_MOST_BLOCKS) pda_nil)))))) (pss_oneD (pds_raise rfl (pdx_mk (xc_InvalidNumber T) (hr.mono (by decide)) (pd_var 1)))) pss_nilD)
  (pss_consD (pds_if (pdt_not (pdt_val (pd_fn (ok_is_between T) (hr.mono (by decide)) (pda_cons (pd_var 2) (pda_cons pd_int (pda_cons (pd_glob T.c_MOST_ROWS) pda_nil)))))) (pss_oneD (pds_raise rfl (pdx_mk (xc_InvalidNumber T) (hr.mono (by decide)) (pd_var 2)))) pss_nilD)
  (pss_consD (pds_setF (N := N_Store) (i := 0) T.cl_Store T.na_Store_many rfl (pd_var 0) (pd_var 1))
  (pss_consD (pds_setF (N := N_Store) (i := 1) T.cl_Store T.na_Store_size rfl (pd_var 0) (pd_var 2))
  (pss_consD (pds_setF (N := N_Store) (i := 2) T.cl_Store T.na_Store_counts rfl (pd_var 0) (pd_lcM (own := [("_", 3)]) rfl sc_Store_init.nd (pdi_rg1 T.b_range (pd_var 1)) (blkOk_by (N := N_Store_init_) (sc := defScope s_Store_init) (by decide +kernel)) (fun _ _ _ _ _ => (pdg_name (i := 3) sc_Store_init.nd rfl (by first | exact Or.inl rfl | exact Or.inr rfl) (by decide))) (fun _ _ _ _ _ => pdts_nil) (fun _ _ _ _ _ => pd_int)))
  (pss_oneD (pds_setF (N := N_Store) (i := 3) T.cl_Store T.na_Store_kept rfl (pd_var 0) (pd_lcM (own := [("_", 3)]) rfl sc_Store_init.nd (pdi_rg1 T.b_range (pd_var 1)) (blkOk_by (N := N_Store_init_) (sc := defScope s_Store_init) (by decide +kernel)) (fun _ _ _ _ _ => (pdg_name (i := 3) sc_Store_init.nd rfl (by first | exact Or.inl rfl | exact Or.inr rfl) (by decide))) (fun _ _ _ _ _ => pdts_nil) (fun _ _ _ _ _ => (pd_tup pda_nil))))))))))) (rd_Store_init c)
theorem ok_Store_free (T : Txt mg c) : PrC P w c.K mg base c.Store 1 "free" ["self"] (sp_Store_free c) :=
  PrC.mk T.pr_Store_free sc_Store_free (by decide) (len_Store_free c) (fun f cdv A outer s H E hr => (pss_oneD (pds_ret (pd_callB cd_len T.b_len (by decide +kernel) (pda_cons (pd_lc (own := [("count", 1)]) rfl sc_Store_free.nd (pdi_seq (pd_fld (N := N_Store) (i := 2) T.cl_Store T.na_Store_counts rfl (pd_var 0))) (blkOk_by (N := N_Store_free_) (sc := defScope s_Store_free) (by decide +kernel)) (fun _ _ _ _ _ => (pdg_name (i := 1) sc_Store_free.nd rfl (by first | exact Or.inl rfl | exact Or.inr rfl) (by decide))) (fun _ _ _ _ _ => (pdts_one (pdt_cmp (opd_eq hr.units) (pd_var 1) pd_int (nomark _)))) (fun _ _ _ _ _ => (pd_var 1))) pda_nil))))) (rd_Store_free c)
theorem ok_Store_check_held (T : Txt mg c) : MtC P w c.K mg base c.Store 3 "check_held" ["self", "block"] (sp_Store_check_held c) :=
  MtC.mk T.m_Store_check_held sc_Store_check_held (by decide) (len_Store_check_held c) (fun f cdv A outer s H E hr => (pss_oneD (pds_if (PDw.pt (pdw_or (pdt_not (pdt_val (pd_fn (ok_is_between T) (hr.mono (by decide)) (pda_cons (pd_var 1) (pda_cons pd_int (pda_cons (pd_op opd_sub (pd_fld (N := N_Store) (i := 0) T.cl_Store T.na_Store_many rfl (pd_var 0)) pd_int) pda_nil)))))) (pdw_or1 (pdt_cmp (opd_eq hr.units) (pd_ix ixd (pd_fld (N := N_Store) (i := 2) T.cl_Store T.na_Store_counts rfl (pd_var 0)) (pd_var 1)) pd_int (nomark _))))) (pss_oneD (pds_raise rfl (pdx_mk (xc_NotHeld T) (hr.mono (by decide)) (pd_var 1)))) pss_nilD))) (rd_Store_check_held c)
theorem ok_Store_check_alone (T : Txt mg c) : MtC P w c.K mg base c.Store 4 "check_alone" ["self", "block"] (sp_Store_check_alone c) :=
  MtC.mk T.m_Store_check_alone sc_Store_check_alone (by decide) (len_Store_check_alone c) (fun f cdv A outer s H E hr => (pss_consD (pds_drop (pd_mt (N := N_Store) T.cl_Store (ok_Store_check_held T) (by decide +kernel) (hr.mono (by decide)) (pd_var 0) (pda_cons (pd_var 1) pda_nil)))
  (pss_oneD (pds_if (pdt_cmp opd_gt (pd_ix ixd (pd_fld (N := N_Store) (i := 2) T.cl_Store T.na_Store_counts rfl (pd_var 0)) (pd_var 1)) pd_int (nomark _)) (pss_oneD (pds_raise rfl (pdx_mk (xc_NotAlone T) (hr.mono (by decide)) (pd_var 1)))) pss_nilD)))) (rd_Store_check_alone c)
theorem ok_Store_take (T : Txt mg c) : MtC P w c.K mg base c.Store 3 "take" ["self"] (sp_Store_take c) :=
  MtC.mk T.m_Store_take sc_Store_take (by decide) (len_Store_take c) (fun f cdv A outer s H E hr => (pss_consD (pds_for (vs := (List.range 2)) rfl (passes_of rfl) (pdi_rg1 T.b_range (pd_fld (N := N_Store) (i := 0) T.cl_Store T.na_Store_many rfl (pd_var 0))) (pdg_name (i := 1) sc_Store_take.nd rfl (by first | exact Or.inl rfl | exact Or.inr rfl) (by decide)) (pss_oneD (pds_if (pdt_cmp (opd_eq hr.units) (pd_ix ixd (pd_fld (N := N_Store) (i := 2) T.cl_Store T.na_Store_counts rfl (pd_var 0)) (pd_var 1)) pd_int (nomark _)) (pss_consD (pds_setI (pd_fld (N := N_Store) (i := 2) T.cl_Store T.na_Store_counts rfl (pd_var 0)) (pd_var 1) pd_int)
  (pss_oneD (pds_ret (pd_var 1)))) pss_nilD)))
  (pss_oneD (pds_raise rfl (pdx_mk (xc_NoRoom T) (hr.mono (by decide)) pd_int))))) (rd_Store_take c)
theorem okK_Store_hold_block (T : Txt mg c) : MtCK P w c.K mg base c.Store 4 "hold" ["self", "block"] ["block"] 1 [0, 1] (sp_Store_hold c) :=
  MtCK.mk T.mtk_Store_hold_block sc_Store_hold (by decide) (len_Store_hold c) (fun f cdv A outer s H E hr => (pss_consD (pds_drop (pd_mt (N := N_Store) T.cl_Store (ok_Store_check_held T) (by decide +kernel) (hr.mono (by decide)) (pd_var 0) (pda_cons (pd_var 1) pda_nil)))
  (pss_oneD (pds_augI (pd_fld (N := N_Store) (i := 2) T.cl_Store T.na_Store_counts rfl (pd_var 0)) (pd_var 1) pd_int iopd_add)))) (rd_Store_hold c)
theorem ok_Store_hold (T : Txt mg c) : MtC P w c.K mg base c.Store 4 "hold" ["self", "block"] (sp_Store_hold c) :=
  MtC.mk T.m_Store_hold sc_Store_hold (by decide) (len_Store_hold c) (fun f cdv A outer s H E hr => (pss_consD (pds_drop (pd_mt (N := N_Store) T.cl_Store (ok_Store_check_held T) (by decide +kernel) (hr.mono (by decide)) (pd_var 0) (pda_cons (pd_var 1) pda_nil)))
  (pss_oneD (pds_augI (pd_fld (N := N_Store) (i := 2) T.cl_Store T.na_Store_counts rfl (pd_var 0)) (pd_var 1) pd_int iopd_add)))) (rd_Store_hold c)
theorem okK_Store_release_block (T : Txt mg c) : MtCK P w c.K mg base c.Store 4 "release" ["self", "block"] ["block"] 1 [0, 1] (sp_Store_release c) :=
  MtCK.mk T.mtk_Store_release_block sc_Store_release (by decide) (len_Store_release c) (fun f cdv A outer s H E hr => (pss_consD (pds_drop (pd_mt (N := N_Store) T.cl_Store (ok_Store_check_held T) (by decide +kernel) (hr.mono (by decide)) (pd_var 0) (pda_cons (pd_var 1) pda_nil)))
  (pss_consD (pds_augI (pd_fld (N := N_Store) (i := 2) T.cl_Store T.na_Store_counts rfl (pd_var 0)) (pd_var 1) pd_int iopd_sub)
  (pss_oneD (pds_if (pdt_cmp (opd_eq hr.units) (pd_ix ixd (pd_fld (N := N_Store) (i := 2) T.cl_Store T.na_Store_counts rfl (pd_var 0)) (pd_var 1)) pd_int (nomark _)) (pss_oneD (pds_setI (pd_fld (N := N_Store) (i := 3) T.cl_Store T.na_Store_kept rfl (pd_var 0)) (pd_var 1) (pd_tup pda_nil))) pss_nilD))))) (rd_Store_release c)
theorem ok_Store_release (T : Txt mg c) : MtC P w c.K mg base c.Store 4 "release" ["self", "block"] (sp_Store_release c) :=
  MtC.mk T.m_Store_release sc_Store_release (by decide) (len_Store_release c) (fun f cdv A outer s H E hr => (pss_consD (pds_drop (pd_mt (N := N_Store) T.cl_Store (ok_Store_check_held T) (by decide +kernel) (hr.mono (by decide)) (pd_var 0) (pda_cons (pd_var 1) pda_nil)))
  (pss_consD (pds_augI (pd_fld (N := N_Store) (i := 2) T.cl_Store T.na_Store_counts rfl (pd_var 0)) (pd_var 1) pd_int iopd_sub)
  (pss_oneD (pds_if (pdt_cmp (opd_eq hr.units) (pd_ix ixd (pd_fld (N := N_Store) (i := 2) T.cl_Store T.na_Store_counts rfl (pd_var 0)) (pd_var 1)) pd_int (nomark _)) (pss_oneD (pds_setI (pd_fld (N := N_Store) (i := 3) T.cl_Store T.na_Store_kept rfl (pd_var 0)) (pd_var 1) (pd_tup pda_nil))) pss_nilD))))) (rd_Store_release c)
theorem okK_Store_put_row_row_block (T : Txt mg c) : MtCK P w c.K mg base c.Store 5 "put_row" ["self", "block", "row"] ["row", "block"] 2 [0, 2, 1] (sp_Store_put_row c) :=
  MtCK.mk T.mtk_Store_put_row_row_block sc_Store_put_row (by decide) (len_Store_put_row c) (fun f cdv A outer s H E hr => (pss_consD (pds_drop (pd_mt (N := N_Store) T.cl_Store (ok_Store_check_alone T) (by decide +kernel) (hr.mono (by decide)) (pd_var 0) (pda_cons (pd_var 1) pda_nil)))
  (pss_consD (pds_if (pdt_cmp (opd_eq hr.units) (pd_callB cd_len T.b_len (by decide +kernel) (pda_cons (pd_ix ixd (pd_fld (N := N_Store) (i := 3) T.cl_Store T.na_Store_kept rfl (pd_var 0)) (pd_var 1)) pda_nil)) (pd_fld (N := N_Store) (i := 1) T.cl_Store T.na_Store_size rfl (pd_var 0)) (nomark _)) (pss_oneD (pds_raise rfl (pdx_mk (xc_NoRoom T) (hr.mono (by decide)) pd_int))) pss_nilD)
  (pss_oneD (pds_setI (pd_fld (N := N_Store) (i := 3) T.cl_Store T.na_Store_kept rfl (pd_var 0)) (pd_var 1) (pd_op opd_add (pd_ix ixd (pd_fld (N := N_Store) (i := 3) T.cl_Store T.na_Store_kept rfl (pd_var 0)) (pd_var 1)) (pd_tup (pda_cons (pd_fn (ok_own_row T) (hr.mono (by decide)) (pda_cons (pd_var 2) pda_nil)) pda_nil)))))))) (rd_Store_put_row c)
theorem ok_Store_put_row (T : Txt mg c) : MtC P w c.K mg base c.Store 5 "put_row" ["self", "block", "row"] (sp_Store_put_row c) :=
  MtC.mk T.m_Store_put_row sc_Store_put_row (by decide) (len_Store_put_row c) (fun f cdv A outer s H E hr => (pss_consD (pds_drop (pd_mt (N := N_Store) T.cl_Store (ok_Store_check_alone T) (by decide +kernel) (hr.mono (by decide)) (pd_var 0) (pda_cons (pd_var 1) pda_nil)))
  (pss_consD (pds_if (pdt_cmp (opd_eq hr.units) (pd_callB cd_len T.b_len (by decide +kernel) (pda_cons (pd_ix ixd (pd_fld (N := N_Store) (i := 3) T.cl_Store T.na_Store_kept rfl (pd_var 0)) (pd_var 1)) pda_nil)) (pd_fld (N := N_Store) (i := 1) T.cl_Store T.na_Store_size rfl (pd_var 0)) (nomark _)) (pss_oneD (pds_raise rfl (pdx_mk (xc_NoRoom T) (hr.mono (by decide)) pd_int))) pss_nilD)
  (pss_oneD (pds_setI (pd_fld (N := N_Store) (i := 3) T.cl_Store T.na_Store_kept rfl (pd_var 0)) (pd_var 1) (pd_op opd_add (pd_ix ixd (pd_fld (N := N_Store) (i := 3) T.cl_Store T.na_Store_kept rfl (pd_var 0)) (pd_var 1)) (pd_tup (pda_cons (pd_fn (ok_own_row T) (hr.mono (by decide)) (pda_cons (pd_var 2) pda_nil)) pda_nil)))))))) (rd_Store_put_row c)
theorem okK_Store_shorten_many_block (T : Txt mg c) : MtCK P w c.K mg base c.Store 5 "shorten" ["self", "block", "many"] ["many", "block"] 2 [0, 2, 1] (sp_Store_shorten c) :=
  MtCK.mk T.mtk_Store_shorten_many_block sc_Store_shorten (by decide) (len_Store_shorten c) (fun f cdv A outer s H E hr => (pss_consD (pds_drop (pd_mt (N := N_Store) T.cl_Store (ok_Store_check_alone T) (by decide +kernel) (hr.mono (by decide)) (pd_var 0) (pda_cons (pd_var 1) pda_nil)))
  (pss_consD (pds_if (pdt_not (pdt_val (pd_fn (ok_is_between T) (hr.mono (by decide)) (pda_cons (pd_var 2) (pda_cons pd_int (pda_cons (pd_callB cd_len T.b_len (by decide +kernel) (pda_cons (pd_ix ixd (pd_fld (N := N_Store) (i := 3) T.cl_Store T.na_Store_kept rfl (pd_var 0)) (pd_var 1)) pda_nil)) pda_nil)))))) (pss_oneD (pds_raise rfl (pdx_mk (xc_InvalidNumber T) (hr.mono (by decide)) (pd_var 2)))) pss_nilD)
  (pss_oneD (pds_setI (pd_fld (N := N_Store) (i := 3) T.cl_Store T.na_Store_kept rfl (pd_var 0)) (pd_var 1) (pd_slice (pd_ix ixd (pd_fld (N := N_Store) (i := 3) T.cl_Store T.na_Store_kept rfl (pd_var 0)) (pd_var 1)) pdo_none (pdo_some (pd_var 2)))))))) (rd_Store_shorten c)
theorem ok_Store_shorten (T : Txt mg c) : MtC P w c.K mg base c.Store 5 "shorten" ["self", "block", "many"] (sp_Store_shorten c) :=
  MtC.mk T.m_Store_shorten sc_Store_shorten (by decide) (len_Store_shorten c) (fun f cdv A outer s H E hr => (pss_consD (pds_drop (pd_mt (N := N_Store) T.cl_Store (ok_Store_check_alone T) (by decide +kernel) (hr.mono (by decide)) (pd_var 0) (pda_cons (pd_var 1) pda_nil)))
  (pss_consD (pds_if (pdt_not (pdt_val (pd_fn (ok_is_between T) (hr.mono (by decide)) (pda_cons (pd_var 2) (pda_cons pd_int (pda_cons (pd_callB cd_len T.b_len (by decide +kernel) (pda_cons (pd_ix ixd (pd_fld (N := N_Store) (i := 3) T.cl_Store T.na_Store_kept rfl (pd_var 0)) (pd_var 1)) pda_nil)) pda_nil)))))) (pss_oneD (pds_raise rfl (pdx_mk (xc_InvalidNumber T) (hr.mono (by decide)) (pd_var 2)))) pss_nilD)
  (pss_oneD (pds_setI (pd_fld (N := N_Store) (i := 3) T.cl_Store T.na_Store_kept rfl (pd_var 0)) (pd_var 1) (pd_slice (pd_ix ixd (pd_fld (N := N_Store) (i := 3) T.cl_Store T.na_Store_kept rfl (pd_var 0)) (pd_var 1)) pdo_none (pdo_some (pd_var 2)))))))) (rd_Store_shorten c)
theorem okK_Store_rows_block (T : Txt mg c) : MtCK P w c.K mg base c.Store 4 "rows" ["self", "block"] ["block"] 1 [0, 1] (sp_Store_rows c) :=
  MtCK.mk T.mtk_Store_rows_block sc_Store_rows (by decide) (len_Store_rows c) (fun f cdv A outer s H E hr => (pss_consD (pds_drop (pd_mt (N := N_Store) T.cl_Store (ok_Store_check_held T) (by decide +kernel) (hr.mono (by decide)) (pd_var 0) (pda_cons (pd_var 1) pda_nil)))
  (pss_oneD (pds_ret (pd_ix ixd (pd_fld (N := N_Store) (i := 3) T.cl_Store T.na_Store_kept rfl (pd_var 0)) (pd_var 1)))))) (rd_Store_rows c)
theorem ok_Store_rows (T : Txt mg c) : MtC P w c.K mg base c.Store 4 "rows" ["self", "block"] (sp_Store_rows c) :=
  MtC.mk T.m_Store_rows sc_Store_rows (by decide) (len_Store_rows c) (fun f cdv A outer s H E hr => (pss_consD (pds_drop (pd_mt (N := N_Store) T.cl_Store (ok_Store_check_held T) (by decide +kernel) (hr.mono (by decide)) (pd_var 0) (pda_cons (pd_var 1) pda_nil)))
  (pss_oneD (pds_ret (pd_ix ixd (pd_fld (N := N_Store) (i := 3) T.cl_Store T.na_Store_kept rfl (pd_var 0)) (pd_var 1)))))) (rd_Store_rows c)
theorem okK_Store_holders_block (T : Txt mg c) : MtCK P w c.K mg base c.Store 3 "holders" ["self", "block"] ["block"] 1 [0, 1] (sp_Store_holders c) :=
  MtCK.mk T.mtk_Store_holders_block sc_Store_holders (by decide) (len_Store_holders c) (fun f cdv A outer s H E hr => (pss_consD (pds_if (pdt_not (pdt_val (pd_fn (ok_is_between T) (hr.mono (by decide)) (pda_cons (pd_var 1) (pda_cons pd_int (pda_cons (pd_op opd_sub (pd_fld (N := N_Store) (i := 0) T.cl_Store T.na_Store_many rfl (pd_var 0)) pd_int) pda_nil)))))) (pss_oneD (pds_raise rfl (pdx_mk (xc_NotHeld T) (hr.mono (by decide)) (pd_var 1)))) pss_nilD)
  (pss_oneD (pds_ret (pd_ix ixd (pd_fld (N := N_Store) (i := 2) T.cl_Store T.na_Store_counts rfl (pd_var 0)) (pd_var 1)))))) (rd_Store_holders c)
theorem ok_Store_holders (T : Txt mg c) : MtC P w c.K mg base c.Store 3 "holders" ["self", "block"] (sp_Store_holders c) :=
  MtC.mk T.m_Store_holders sc_Store_holders (by decide) (len_Store_holders c) (fun f cdv A outer s H E hr => (pss_consD (pds_if (pdt_not (pdt_val (pd_fn (ok_is_between T) (hr.mono (by decide)) (pda_cons (pd_var 1) (pda_cons pd_int (pda_cons (pd_op opd_sub (pd_fld (N := N_Store) (i := 0) T.cl_Store T.na_Store_many rfl (pd_var 0)) pd_int) pda_nil)))))) (pss_oneD (pds_raise rfl (pdx_mk (xc_NotHeld T) (hr.mono (by decide)) (pd_var 1)))) pss_nilD)
  (pss_oneD (pds_ret (pd_ix ixd (pd_fld (N := N_Store) (i := 2) T.cl_Store T.na_Store_counts rfl (pd_var 0)) (pd_var 1)))))) (rd_Store_holders c)
theorem ok__law_numbers (T : Txt mg c) : FnC P w c.K mg base 1 "_law_numbers" ["cell", "at", "many"] (sp__law_numbers c) :=
  FnC.mk T.d__law_numbers sc__law_numbers (by decide) (len__law_numbers c) (fun f cdv A outer s H E hr => (pss_consD (pds_set (i := 3) sc__law_numbers.nd rfl (by first | exact Or.inl rfl | exact Or.inr rfl) (pd_cmp opd_ge (pd_callB cd_abs T.b_abs (by decide +kernel) (pda_cons (pd_callTy cd_int T.b_int (by decide +kernel) (pda_cons (pd_var 0) pda_nil)) pda_nil)) (pd_op opd_pow pd_int pd_int) (nomark _)))
  (pss_consD (pds_set (i := 4) sc__law_numbers.nd rfl (by first | exact Or.inl rfl | exact Or.inr rfl) (pd_op opd_add (pd_op opd_mulS pd_int (pd_callB cd_abs T.b_abs (by decide +kernel) (pda_cons (pd_callTy cd_int T.b_int (by decide +kernel) (pda_cons (pd_var 0) pda_nil)) pda_nil))) (pd_callTy cd_int T.b_int (by decide +kernel) (pda_cons (pd_cmp opd_lt (pd_var 0) pd_int (nomark _)) pda_nil))))
  (pss_consD (pds_set (i := 5) sc__law_numbers.nd rfl (by first | exact Or.inl rfl | exact Or.inr rfl) (pd_lstM pda_nil))
  (pss_consD (pds_for (vs := (List.range 8)) rfl (passes_of rfl) (pdi_rg1 T.b_range (pd_var 2)) (pdg_name (i := 6) sc__law_numbers.nd rfl (by first | exact Or.inl rfl | exact Or.inr rfl) (by decide)) (pss_oneD (pds_if (pdt_val (pd_var 3)) (pss_consD (pds_drop (pd_lm PySem.F.slot_list_append PySem.F.type_list_append md_append (pd_var 5) (pda_cons (pd_op opd_mod (pd_callTy cd_int T.b_int (by decide +kernel) (pda_cons (pd_var 4) pda_nil)) pd_int) pda_nil)))
  (pss_oneD (pds_set (i := 4) sc__law_numbers.nd rfl (by first | exact Or.inl rfl | exact Or.inr rfl) (pd_op opd_div (pd_var 4) pd_int)))) (pss_consD (pds_set (i := 7) sc__law_numbers.nd rfl (by first | exact Or.inl rfl | exact Or.inr rfl) (pd_op opd_mod (pd_callTy cd_int T.b_int (by decide +kernel) (pda_cons (pd_op opd_add (pd_op opd_add (pd_op opd_add (pd_op opd_mul (pd_var 4) pd_int) (pd_op opd_mul (pd_var 1) pd_int)) (pd_op opd_mul (pd_var 6) pd_int)) pd_int) pda_nil)) pd_int))
  (pss_consD (pds_set (i := 7) sc__law_numbers.nd rfl (by first | exact Or.inl rfl | exact Or.inr rfl) (pd_op opd_mod (pd_callTy cd_int T.b_int (by decide +kernel) (pda_cons (pd_op opd_add (pd_op opd_add (pd_op opd_mul (pd_var 7) (pd_var 7)) (pd_op opd_mul (pd_var 6) pd_int)) pd_int) pda_nil)) pd_int))
  (pss_consD (pds_set (i := 7) sc__law_numbers.nd rfl (by first | exact Or.inl rfl | exact Or.inr rfl) (pd_op opd_mod (pd_callTy cd_int T.b_int (by decide +kernel) (pda_cons (pd_op opd_add (pd_op opd_add (pd_op opd_mul (pd_var 7) (pd_var 7)) (pd_op opd_mul (pd_var 1) pd_int)) pd_int) pda_nil)) pd_int))
  (pss_oneD (pds_drop (pd_lm PySem.F.slot_list_append PySem.F.type_list_append md_append (pd_var 5) (pda_cons (pd_op opd_mod (pd_callTy cd_int T.b_int (by decide +kernel) (pda_cons (pd_op opd_div (pd_var 7) pd_int) pda_nil)) pd_int) pda_nil))))))))))
  (pss_oneD (pds_ret (pd_frz (pd_var 5))))))))) (rd__law_numbers c)
theorem ok__law_same_n (T : Txt mg c) : ∀ n : Nat, FnC P w c.K mg base (n + 1) "_law_same" ["actual", "expected"] (sp__law_same_n c n)
  | 0 => FnC.zero T.d__law_same
  | n + 1 => by
    have ih := ok__law_same_n T n
    exact FnC.mk T.d__law_same (k := n + 1) sc__law_same (by decide) (len__law_same_n c (n + 1)) (fun f cdv A outer s H E hr => (pss_consD (pds_if (pdt_cmp opd_isN (pd_var 1) pd_non (nomark _)) (pss_oneD (pds_ret (pd_cmp opd_isN (pd_var 0) pd_non (nomark _)))) pss_nilD)
  (pss_consD (pds_if (pdt_val (pd_isi (T := "str") (pd_var 1) (pe_bltn rfl T.b_str (by decide +kernel) rfl) T.b_isinstance)) (pss_oneD (pds_ret (pd_and (pd_isi (T := "str") (pd_var 0) (pe_bltn rfl T.b_str (by decide +kernel) rfl) T.b_isinstance) (pd_one (pd_cmp (opd_eq hr.units) (pd_var 0) (pd_var 1) (nomark _)))))) pss_nilD)
  (pss_consD (pds_if (pdt_val (pd_isi (T := "bool") (pd_var 1) (pe_bltn rfl T.b_bool (by decide +kernel) rfl) T.b_isinstance)) (pss_oneD (pds_ret (pd_and (pd_isi (T := "bool") (pd_var 0) (pe_bltn rfl T.b_bool (by decide +kernel) rfl) T.b_isinstance) (pd_one (pd_cmp (opd_eq hr.units) (pd_var 0) (pd_var 1) (nomark _)))))) pss_nilD)
  (pss_consD (pds_if (pdt_val (pd_isi (T := "int") (pd_var 1) (pe_bltn rfl T.b_int (by decide +kernel) rfl) T.b_isinstance)) (pss_oneD (pds_ret (pd_and (pd_isi (T := "int") (pd_var 0) (pe_bltn rfl T.b_int (by decide +kernel) rfl) T.b_isinstance) (pd_and (pd_not (pd_isi (T := "bool") (pd_var 0) (pe_bltn rfl T.b_bool (by decide +kernel) rfl) T.b_isinstance)) (pd_one (pd_cmp (opd_eq hr.units) (pd_var 0) (pd_var 1) (nomark _))))))) pss_nilD)
  (pss_consD (pds_if (PDw.pt (pdw_or (pdt_not (pdt_val (pd_isi (T := "tuple") (pd_var 0) (pe_bltn rfl T.b_tuple (by decide +kernel) rfl) T.b_isinstance))) (pdw_or1 (pdt_cmp (opd_ne hr.units) (pd_callB cd_len T.b_len (by decide +kernel) (pda_cons (pd_var 0) pda_nil)) (pd_callB cd_len T.b_len (by decide +kernel) (pda_cons (pd_var 1) pda_nil)) (nomark _))))) (pss_oneD (pds_ret pd_bl)) pss_nilD)
  (pss_consD (pds_for (vs := (List.range 3)) rfl (passes_of rfl) (pdi_rg1 T.b_range (pd_callB cd_len T.b_len (by decide +kernel) (pda_cons (pd_var 1) pda_nil))) (pdg_name (i := 2) sc__law_same.nd rfl (by first | exact Or.inl rfl | exact Or.inr rfl) (by decide)) (pss_oneD (pds_if (pdt_not (pdt_val (pd_fn ih (hr.mono (by omega)) (pda_cons (pd_ix ixd (pd_var 0) (pd_var 2)) (pda_cons (pd_ix ixd (pd_var 1) (pd_var 2)) pda_nil))))) (pss_oneD (pds_ret pd_bl)) pss_nilD)))
  (pss_oneD (pds_ret pd_bl))))))))) (rd__law_same c n)
theorem ok__law_same (T : Txt mg c) : FnC P w c.K mg base 9 "_law_same" ["actual", "expected"] (sp__law_same c) := FnC.mono (FnC.imp (ok__law_same_n T 8) (imp__law_same c)) (by decide)
theorem ok__law_vector (T : Txt mg c) : FnC P w c.K mg base 1 "_law_vector" ["numbers", "at", "width", "prime"] (sp__law_vector c) :=
  FnC.mk T.d__law_vector sc__law_vector (by decide) (len__law_vector c) (fun f cdv A outer s H E hr => (pss_consD (pds_set (i := 4) sc__law_vector.nd rfl (by first | exact Or.inl rfl | exact Or.inr rfl) (pd_lstM pda_nil))
  (pss_consD (pds_for (vs := (List.range 6)) rfl (passes_of rfl) (pdi_rg2 T.b_range (pd_var 1) (pd_op opd_add (pd_var 1) (pd_var 2))) (pdg_name (i := 5) sc__law_vector.nd rfl (by first | exact Or.inl rfl | exact Or.inr rfl) (by decide)) (pss_oneD (pds_drop (pd_lm PySem.F.slot_list_append PySem.F.type_list_append md_append (pd_var 4) (pda_cons (pd_op opd_mod (pd_callTy cd_int T.b_int (by decide +kernel) (pda_cons (pd_op opd_add (pd_ix ixd (pd_var 0) (pd_op opd_mod (pd_callTy cd_int T.b_int (by decide +kernel) (pda_cons (pd_var 5) pda_nil)) (pd_callB cd_len T.b_len (by decide +kernel) (pda_cons (pd_var 0) pda_nil)))) (pd_op opd_mul pd_int (pd_op opd_div (pd_var 5) (pd_callB cd_len T.b_len (by decide +kernel) (pda_cons (pd_var 0) pda_nil))))) pda_nil)) (pd_var 3)) pda_nil)))))
  (pss_oneD (pds_ret (pd_callTy cd_tuple T.b_tuple (by decide +kernel) (pda_cons (pd_var 4) pda_nil))))))) (rd__law_vector c)
theorem ok__law_net (T : Txt mg c) : FnC P w c.K mg base 2 "_law_net" ["numbers", "letters", "width", "many", "prime"] (sp__law_net c) :=
  FnC.mk T.d__law_net sc__law_net (by decide) (len__law_net c) (fun f cdv A outer s H E hr => (pss_consD (pds_set (i := 5) sc__law_net.nd rfl (by first | exact Or.inl rfl | exact Or.inr rfl) (pd_lstM pda_nil))
  (pss_consD (pds_for (vs := (List.range 11)) rfl (passes_of rfl) (pdi_rg1 T.b_range (pd_op opd_add (pd_op opd_add (pd_op opd_mul pd_int (pd_var 1)) pd_int) (pd_op opd_mul (pd_op opd_mul pd_int (pd_var 2)) (pd_var 3)))) (pdg_name (i := 6) sc__law_net.nd rfl (by first | exact Or.inl rfl | exact Or.inr rfl) (by decide)) (pss_oneD (pds_drop (pd_lm PySem.F.slot_list_append PySem.F.type_list_append md_append (pd_var 5) (pda_cons (pd_fn (ok__law_vector T) (hr.mono (by decide)) (pda_cons (pd_var 0) (pda_cons (pd_op opd_mul (pd_var 6) (pd_var 2)) (pda_cons (pd_var 2) (pda_cons (pd_var 4) pda_nil))))) pda_nil)))))
  (pss_consD (pds_set (i := 7) sc__law_net.nd rfl (by first | exact Or.inl rfl | exact Or.inr rfl) (pd_lstM pda_nil))
  (pss_consD (pds_for (vs := (List.range 11)) rfl (passes_of rfl) (pdi_rg1 T.b_range (pd_var 3)) (pdg_name (i := 8) sc__law_net.nd rfl (by first | exact Or.inl rfl | exact Or.inr rfl) (by decide)) (pss_consD (pds_set (i := 9) sc__law_net.nd rfl (by first | exact Or.inl rfl | exact Or.inr rfl) (pd_lstM pda_nil))
  (pss_consD (pds_for (vs := (List.range 11)) rfl (passes_of rfl) (pdi_rg1 T.b_range pd_int) (pdg_name (i := 6) sc__law_net.nd rfl (by first | exact Or.inl rfl | exact Or.inr rfl) (by decide)) (pss_consD (pds_set (i := 10) sc__law_net.nd rfl (by first | exact Or.inl rfl | exact Or.inr rfl) (pd_op opd_add (pd_op opd_add (pd_op opd_mul pd_int (pd_var 1)) pd_int) (pd_op opd_mul (pd_var 2) (pd_op opd_add (pd_op opd_mul pd_int (pd_var 8)) (pd_var 6)))))
  (pss_oneD (pds_drop (pd_lm PySem.F.slot_list_append PySem.F.type_list_append md_append (pd_var 9) (pda_cons (pd_callTy cd_tuple T.b_tuple (by decide +kernel) (pda_cons (pd_slice (pd_var 5) (pdo_some (pd_var 10)) (pdo_some (pd_op opd_add (pd_var 10) (pd_var 2)))) pda_nil)) pda_nil))))))
  (pss_oneD (pds_drop (pd_lm PySem.F.slot_list_append PySem.F.type_list_append md_append (pd_var 7) (pda_cons (pd_callTy cd_tuple T.b_tuple (by decide +kernel) (pda_cons (pd_var 9) pda_nil)) pda_nil)))))))
  (pss_oneD (pds_ret (pd_tup (pda_cons (pd_var 4) (pda_cons (pd_callTy cd_tuple T.b_tuple (by decide +kernel) (pda_cons (pd_slice (pd_var 5) pdo_none (pdo_some (pd_var 1))) pda_nil)) (pda_cons (pd_ix ixd (pd_var 5) (pd_op opd_mul pd_int (pd_var 1))) (pda_cons (pd_callTy cd_tuple T.b_tuple (by decide +kernel) (pda_cons (pd_var 7) pda_nil)) (pda_cons (pd_callTy cd_tuple T.b_tuple (by decide +kernel) (pda_cons (pd_slice (pd_var 5) (pdo_some (pd_var 1)) (pdo_some (pd_op opd_mul pd_int (pd_var 1)))) pda_nil)) pda_nil))))))))))))) (rd__law_net c)
theorem ok__law_dot (T : Txt mg c) : FnC P w c.K mg base 1 "_law_dot" ["one", "other", "prime"] (sp__law_dot c) :=
  FnC.mk T.d__law_dot sc__law_dot (by decide) (len__law_dot c) (fun f cdv A outer s H E hr => (pss_consD (pds_set (i := 3) sc__law_dot.nd rfl (by first | exact Or.inl rfl | exact Or.inr rfl) pd_int)
  (pss_consD (pds_for (vs := (List.range 5)) rfl (passes_of rfl) (pdi_rg1 T.b_range (pd_callB cd_len T.b_len (by decide +kernel) (pda_cons (pd_var 0) pda_nil))) (pdg_name (i := 4) sc__law_dot.nd rfl (by first | exact Or.inl rfl | exact Or.inr rfl) (by decide)) (pss_oneD (pds_set (i := 3) sc__law_dot.nd rfl (by first | exact Or.inl rfl | exact Or.inr rfl) (pd_op opd_add (pd_var 3) (pd_op opd_mul (pd_ix ixd (pd_var 0) (pd_var 4)) (pd_ix ixd (pd_var 1) (pd_var 4)))))))
  (pss_oneD (pds_ret (pd_op opd_mod (pd_callTy cd_int T.b_int (by decide +kernel) (pda_cons (pd_var 3) pda_nil)) (pd_var 2))))))) (rd__law_dot c)
theorem ok__law_times (T : Txt mg c) : FnC P w c.K mg base 2 "_law_times" ["matrix", "vector", "prime"] (sp__law_times c) :=
  FnC.mk T.d__law_times sc__law_times (by decide) (len__law_times c) (fun f cdv A outer s H E hr => (pss_oneD (pds_ret (pd_lc (own := [("row", 3)]) rfl sc__law_times.nd (pdi_seq (pd_var 0)) (blkOk_by (N := N__law_times_) (sc := defScope s__law_times) (by decide +kernel)) (fun _ _ _ _ _ => (pdg_name (i := 3) sc__law_times.nd rfl (by first | exact Or.inl rfl | exact Or.inr rfl) (by decide))) (fun _ _ _ _ _ => pdts_nil) (fun _ _ _ _ _ => (pd_fn (ok__law_dot T) (hr.mono (by decide)) (pda_cons (pd_var 3) (pda_cons (pd_var 1) (pda_cons (pd_var 2) pda_nil))))))))) (rd__law_times c)
theorem ok__law_row (T : Txt mg c) : FnC P w c.K mg base 3 "_law_row" ["net", "rows", "letter"] (sp__law_row c) :=
  FnC.mk T.d__law_row sc__law_row (by decide) (len__law_row c) (fun f cdv A outer s H E hr => (pss_consD (pds_set (i := 3) sc__law_row.nd rfl (by first | exact Or.inl rfl | exact Or.inr rfl) (pd_ix ixd (pd_var 0) pd_int))
  (pss_consD (by first | exact pds_setLc (i := 4) rfl sc__law_row.nd rfl rfl (sw_true rfl rfl rfl (by decide +kernel)) (own := [("k", 14)]) (pdi_rg1 T.b_range (pd_callB cd_len T.b_len (by decide +kernel) (pda_cons (pd_ix ixd (pd_var 0) pd_int) pda_nil))) (blkOk_by (N := N__law_row_) (sc := defScope s__law_row) (by decide +kernel)) (fun _ _ _ _ _ => (pdg_name (i := 14) sc__law_row.nd rfl (by first | exact Or.inl rfl | exact Or.inr rfl) (by decide))) (fun _ _ _ _ _ => pdts_nil) (fun _ _ _ _ _ => (pd_op opd_mod (pd_callTy cd_int T.b_int (by decide +kernel) (pda_cons (pd_op opd_add (pd_ix ixd (pd_ix ixd (pd_ix ixd (pd_var 0) pd_int) (pd_var 2)) (pd_var 14)) (pd_op opd_mul (pd_callB cd_len T.b_len (by decide +kernel) (pda_cons (pd_var 1) pda_nil)) (pd_ix ixd (pd_ix ixd (pd_var 0) pd_int) (pd_var 14)))) pda_nil)) (pd_var 3))) | exact pds_set (i := 4) sc__law_row.nd rfl (by first | exact Or.inl rfl | exact Or.inr rfl) (pd_lc (own := [("k", 14)]) rfl sc__law_row.nd (pdi_rg1 T.b_range (pd_callB cd_len T.b_len (by decide +kernel) (pda_cons (pd_ix ixd (pd_var 0) pd_int) pda_nil))) (blkOk_by (N := N__law_row_) (sc := defScope s__law_row) (by decide +kernel)) (fun _ _ _ _ _ => (pdg_name (i := 14) sc__law_row.nd rfl (by first | exact Or.inl rfl | exact Or.inr rfl) (by decide))) (fun _ _ _ _ _ => pdts_nil) (fun _ _ _ _ _ => (pd_op opd_mod (pd_callTy cd_int T.b_int (by decide +kernel) (pda_cons (pd_op opd_add (pd_ix ixd (pd_ix ixd (pd_ix ixd (pd_var 0) pd_int) (pd_var 2)) (pd_var 14)) (pd_op opd_mul (pd_callB cd_len T.b_len (by decide +kernel) (pda_cons (pd_var 1) pda_nil)) (pd_ix ixd (pd_ix ixd (pd_var 0) pd_int) (pd_var 14)))) pda_nil)) (pd_var 3)))))
  (pss_consD (pds_set (i := 5) sc__law_row.nd rfl (by first | exact Or.inl rfl | exact Or.inr rfl) (pd_lstM pda_nil))
  (pss_consD (pds_for (vs := (List.range 17)) rfl (passes_of rfl) (pdi_rg1 T.b_range (pd_callB cd_len T.b_len (by decide +kernel) (pda_cons (pd_ix ixd (pd_var 0) pd_int) pda_nil))) (pdg_name (i := 6) sc__law_row.nd rfl (by first | exact Or.inl rfl | exact Or.inr rfl) (by decide)) (pss_consD (pds_set (i := 7) sc__law_row.nd rfl (by first | exact Or.inl rfl | exact Or.inr rfl) (pd_ix ixd (pd_ix ixd (pd_var 0) pd_int) (pd_var 6)))
  (pss_consD (pds_set (i := 8) sc__law_row.nd rfl (by first | exact Or.inl rfl | exact Or.inr rfl) (pd_fn (ok__law_times T) (hr.mono (by decide)) (pda_cons (pd_ix ixd (pd_var 7) pd_int) (pda_cons (pd_var 4) (pda_cons (pd_var 3) pda_nil)))))
  (pss_consD (pds_set (i := 9) sc__law_row.nd rfl (by first | exact Or.inl rfl | exact Or.inr rfl) (pd_tup (pda_cons (pd_callTy cd_tuple T.b_tuple (by decide +kernel) (pda_cons (pd_fn (ok__law_times T) (hr.mono (by decide)) (pda_cons (pd_ix ixd (pd_var 7) pd_int) (pda_cons (pd_var 4) (pda_cons (pd_var 3) pda_nil)))) pda_nil)) (pda_cons (pd_callTy cd_tuple T.b_tuple (by decide +kernel) (pda_cons (pd_fn (ok__law_times T) (hr.mono (by decide)) (pda_cons (pd_ix ixd (pd_var 7) pd_int) (pda_cons (pd_var 4) (pda_cons (pd_var 3) pda_nil)))) pda_nil)) pda_nil))))
  (pss_consD (pds_for (vs := (List.range 17)) rfl (passes_of rfl) (pdi_seq (pd_op opd_add (pd_lc (own := [("row", 15)]) rfl sc__law_row.nd (pdi_seq (pd_var 1)) (blkOk_by (N := N__law_row_) (sc := defScope s__law_row) (by decide +kernel)) (fun _ _ _ _ _ => (pdg_name (i := 15) sc__law_row.nd rfl (by first | exact Or.inl rfl | exact Or.inr rfl) (by decide))) (fun _ _ _ _ _ => pdts_nil) (fun _ _ _ _ _ => (pd_ix ixd (pd_ix ixd (pd_var 15) pd_int) (pd_var 6)))) (pd_lst (pda_cons (pd_var 9) pda_nil)))) (pdg_name (i := 10) sc__law_row.nd rfl (by first | exact Or.inl rfl | exact Or.inr rfl) (by decide)) (pss_consD (pds_set (i := 11) sc__law_row.nd rfl (by first | exact Or.inl rfl | exact Or.inr rfl) (pd_fn (ok__law_dot T) (hr.mono (by decide)) (pda_cons (pd_var 8) (pda_cons (pd_ix ixd (pd_var 10) pd_int) (pda_cons (pd_var 3) pda_nil)))))
  (pss_oneD (by first | exact pds_setLc (i := 4) rfl sc__law_row.nd rfl rfl (sw_true rfl rfl rfl (by decide +kernel)) (own := [("k", 14)]) (pdi_rg1 T.b_range (pd_callB cd_len T.b_len (by decide +kernel) (pda_cons (pd_var 4) pda_nil))) (blkOk_by (N := N__law_row_) (sc := defScope s__law_row) (by decide +kernel)) (fun _ _ _ _ _ => (pdg_name (i := 14) sc__law_row.nd rfl (by first | exact Or.inl rfl | exact Or.inr rfl) (by decide))) (fun _ _ _ _ _ => pdts_nil) (fun _ _ _ _ _ => (pd_op opd_mod (pd_callTy cd_int T.b_int (by decide +kernel) (pda_cons (pd_op opd_add (pd_ix ixd (pd_var 4) (pd_var 14)) (pd_op opd_mul (pd_var 11) (pd_ix ixd (pd_ix ixd (pd_var 10) pd_int) (pd_var 14)))) pda_nil)) (pd_var 3))) | exact pds_set (i := 4) sc__law_row.nd rfl (by first | exact Or.inl rfl | exact Or.inr rfl) (pd_lc (own := [("k", 14)]) rfl sc__law_row.nd (pdi_rg1 T.b_range (pd_callB cd_len T.b_len (by decide +kernel) (pda_cons (pd_var 4) pda_nil))) (blkOk_by (N := N__law_row_) (sc := defScope s__law_row) (by decide +kernel)) (fun _ _ _ _ _ => (pdg_name (i := 14) sc__law_row.nd rfl (by first | exact Or.inl rfl | exact Or.inr rfl) (by decide))) (fun _ _ _ _ _ => pdts_nil) (fun _ _ _ _ _ => (pd_op opd_mod (pd_callTy cd_int T.b_int (by decide +kernel) (pda_cons (pd_op opd_add (pd_ix ixd (pd_var 4) (pd_var 14)) (pd_op opd_mul (pd_var 11) (pd_ix ixd (pd_ix ixd (pd_var 10) pd_int) (pd_var 14)))) pda_nil)) (pd_var 3))))))))
  (pss_consD (by first | exact pds_setLc (i := 12) rfl sc__law_row.nd rfl rfl (sw_true rfl rfl rfl (by decide +kernel)) (own := [("one", 16)]) (pdi_seq (pd_fn (ok__law_times T) (hr.mono (by decide)) (pda_cons (pd_ix ixd (pd_var 7) pd_int) (pda_cons (pd_var 4) (pda_cons (pd_var 3) pda_nil))))) (blkOk_by (N := N__law_row_) (sc := defScope s__law_row) (by decide +kernel)) (fun _ _ _ _ _ => (pdg_name (i := 16) sc__law_row.nd rfl (by first | exact Or.inl rfl | exact Or.inr rfl) (by decide))) (fun _ _ _ _ _ => pdts_nil) (fun _ _ _ _ _ => (pd_op opd_mul (pd_var 16) (pd_var 16))) | exact pds_set (i := 12) sc__law_row.nd rfl (by first | exact Or.inl rfl | exact Or.inr rfl) (pd_lc (own := [("one", 16)]) rfl sc__law_row.nd (pdi_seq (pd_fn (ok__law_times T) (hr.mono (by decide)) (pda_cons (pd_ix ixd (pd_var 7) pd_int) (pda_cons (pd_var 4) (pda_cons (pd_var 3) pda_nil))))) (blkOk_by (N := N__law_row_) (sc := defScope s__law_row) (by decide +kernel)) (fun _ _ _ _ _ => (pdg_name (i := 16) sc__law_row.nd rfl (by first | exact Or.inl rfl | exact Or.inr rfl) (by decide))) (fun _ _ _ _ _ => pdts_nil) (fun _ _ _ _ _ => (pd_op opd_mul (pd_var 16) (pd_var 16)))))
  (pss_consD (pds_set (i := 13) sc__law_row.nd rfl (by first | exact Or.inl rfl | exact Or.inr rfl) (pd_fn (ok__law_times T) (hr.mono (by decide)) (pda_cons (pd_ix ixd (pd_var 7) pd_int) (pda_cons (pd_var 12) (pda_cons (pd_var 3) pda_nil)))))
  (pss_consD (by first | exact pds_setLc (i := 4) rfl sc__law_row.nd rfl rfl (sw_true rfl rfl rfl (by decide +kernel)) (own := [("k", 14)]) (pdi_rg1 T.b_range (pd_callB cd_len T.b_len (by decide +kernel) (pda_cons (pd_var 4) pda_nil))) (blkOk_by (N := N__law_row_) (sc := defScope s__law_row) (by decide +kernel)) (fun _ _ _ _ _ => (pdg_name (i := 14) sc__law_row.nd rfl (by first | exact Or.inl rfl | exact Or.inr rfl) (by decide))) (fun _ _ _ _ _ => pdts_nil) (fun _ _ _ _ _ => (pd_op opd_mod (pd_callTy cd_int T.b_int (by decide +kernel) (pda_cons (pd_op opd_add (pd_ix ixd (pd_var 4) (pd_var 14)) (pd_ix ixd (pd_var 13) (pd_var 14))) pda_nil)) (pd_var 3))) | exact pds_set (i := 4) sc__law_row.nd rfl (by first | exact Or.inl rfl | exact Or.inr rfl) (pd_lc (own := [("k", 14)]) rfl sc__law_row.nd (pdi_rg1 T.b_range (pd_callB cd_len T.b_len (by decide +kernel) (pda_cons (pd_var 4) pda_nil))) (blkOk_by (N := N__law_row_) (sc := defScope s__law_row) (by decide +kernel)) (fun _ _ _ _ _ => (pdg_name (i := 14) sc__law_row.nd rfl (by first | exact Or.inl rfl | exact Or.inr rfl) (by decide))) (fun _ _ _ _ _ => pdts_nil) (fun _ _ _ _ _ => (pd_op opd_mod (pd_callTy cd_int T.b_int (by decide +kernel) (pda_cons (pd_op opd_add (pd_ix ixd (pd_var 4) (pd_var 14)) (pd_ix ixd (pd_var 13) (pd_var 14))) pda_nil)) (pd_var 3)))))
  (pss_oneD (pds_drop (pd_lm PySem.F.slot_list_append PySem.F.type_list_append md_append (pd_var 5) (pda_cons (pd_var 9) pda_nil))))))))))))
  (pss_oneD (pds_ret (pd_tup (pda_cons (pd_callTy cd_tuple T.b_tuple (by decide +kernel) (pda_cons (pd_var 5) pda_nil)) (pda_cons (pd_callTy cd_tuple T.b_tuple (by decide +kernel) (pda_cons (pd_lc (own := [("one", 16)]) rfl sc__law_row.nd (pdi_seq (pd_ix ixd (pd_var 0) pd_int)) (blkOk_by (N := N__law_row_) (sc := defScope s__law_row) (by decide +kernel)) (fun _ _ _ _ _ => (pdg_name (i := 16) sc__law_row.nd rfl (by first | exact Or.inl rfl | exact Or.inr rfl) (by decide))) (fun _ _ _ _ _ => pdts_nil) (fun _ _ _ _ _ => (pd_op opd_add (pd_fn (ok__law_dot T) (hr.mono (by decide)) (pda_cons (pd_var 16) (pda_cons (pd_var 4) (pda_cons (pd_var 3) pda_nil)))) pd_int))) pda_nil)) pda_nil)))))))))) (rd__law_row c)
theorem ok__law_some_rows (T : Txt mg c) : FnC P w c.K mg base 4 "_law_some_rows" ["numbers"] (sp__law_some_rows c) :=
  FnC.mk T.d__law_some_rows sc__law_some_rows (by decide) (len__law_some_rows c) (fun f cdv A outer s H E hr => (pss_consD (pds_set (i := 1) sc__law_some_rows.nd rfl (by first | exact Or.inl rfl | exact Or.inr rfl) (pd_fn (ok__law_net T) (hr.mono (by decide)) (pda_cons (pd_var 0) (pda_cons (pd_op opd_add pd_int (pd_op opd_mod (pd_callTy cd_int T.b_int (by decide +kernel) (pda_cons (pd_ix ixd (pd_var 0) pd_int) pda_nil)) pd_int)) (pda_cons (pd_op opd_add pd_int (pd_op opd_mod (pd_callTy cd_int T.b_int (by decide +kernel) (pda_cons (pd_ix ixd (pd_var 0) pd_int) pda_nil)) pd_int)) (pda_cons (pd_op opd_mod (pd_callTy cd_int T.b_int (by decide +kernel) (pda_cons (pd_ix ixd (pd_var 0) pd_int) pda_nil)) pd_int) (pda_cons pd_int pda_nil)))))))
  (pss_consD (pds_set (i := 2) sc__law_some_rows.nd rfl (by first | exact Or.inl rfl | exact Or.inr rfl) (pd_lstM pda_nil))
  (pss_consD (pds_for (vs := (List.range 4)) rfl (passes_of rfl) (pdi_rg1 T.b_range pd_int) (pdg_name (i := 3) sc__law_some_rows.nd rfl (by first | exact Or.inl rfl | exact Or.inr rfl) (by decide)) (pss_oneD (pds_drop (pd_lm PySem.F.slot_list_append PySem.F.type_list_append md_append (pd_var 2) (pda_cons (pd_fn (ok__law_row T) (hr.mono (by decide)) (pda_cons (pd_var 1) (pda_cons (pd_slice (pd_var 2) pdo_none (pdo_some pd_int)) (pda_cons (pd_op opd_mod (pd_callTy cd_int T.b_int (by decide +kernel) (pda_cons (pd_ix ixd (pd_var 0) (pd_op opd_add pd_int (pd_var 3))) pda_nil)) (pd_callB cd_len T.b_len (by decide +kernel) (pda_cons (pd_ix ixd (pd_var 1) pd_int) pda_nil))) pda_nil)))) pda_nil)))))
  (pss_oneD (pds_ret (pd_frz (pd_var 2)))))))) (rd__law_some_rows c)
theorem ok__law_lowest (T : Txt mg c) : FnC P w c.K mg base 1 "_law_lowest" ["state"] (sp__law_lowest c) :=
  FnC.mk T.d__law_lowest sc__law_lowest (by decide) (len__law_lowest c) (fun f cdv A outer s H E hr => (pss_consD (pds_for (vs := (List.range 2)) rfl (passes_of rfl) (pdi_rg1 T.b_range (pd_callB cd_len T.b_len (by decide +kernel) (pda_cons (pd_ix ixd (pd_var 0) pd_int) pda_nil))) (pdg_name (i := 1) sc__law_lowest.nd rfl (by first | exact Or.inl rfl | exact Or.inr rfl) (by decide)) (pss_oneD (pds_if (pdt_cmp (opd_eq hr.units) (pd_ix ixd (pd_ix ixd (pd_var 0) pd_int) (pd_var 1)) pd_int (nomark _)) (pss_oneD (pds_ret (pd_var 1))) pss_nilD)))
  (pss_oneD (pds_ret pd_non)))) (rd__law_lowest c)
theorem ok__law_take (T : Txt mg c) : FnC P w c.K mg base 2 "_law_take" ["state"] (sp__law_take c) :=
  FnC.mk T.d__law_take sc__law_take (by decide) (len__law_take c) (fun f cdv A outer s H E hr => (pss_consD (pds_set (i := 1) sc__law_take.nd rfl (by first | exact Or.inl rfl | exact Or.inr rfl) (pd_fn (ok__law_lowest T) (hr.mono (by decide)) (pda_cons (pd_var 0) pda_nil)))
  (pss_consD (pds_if (pdt_cmp opd_notN (pd_var 1) pd_non (nomark _)) (pss_oneD (pds_setI (pd_ix ixd (pd_var 0) pd_int) (pd_var 1) pd_int)) pss_nilD)
  (pss_oneD (pds_ret (pd_var 1)))))) (rd__law_take c)
theorem ok__law_release (T : Txt mg c) : FnC P w c.K mg base 1 "_law_release" ["state", "block"] (sp__law_release c) :=
  FnC.mk T.d__law_release sc__law_release (by decide) (len__law_release c) (fun f cdv A outer s H E hr => (pss_consD (pds_setI (pd_ix ixd (pd_var 0) pd_int) (pd_var 1) (pd_op opd_sub (pd_ix ixd (pd_ix ixd (pd_var 0) pd_int) (pd_var 1)) pd_int))
  (pss_oneD (pds_if (pdt_cmp (opd_eq hr.units) (pd_ix ixd (pd_ix ixd (pd_var 0) pd_int) (pd_var 1)) pd_int (nomark _)) (pss_oneD (pds_setI (pd_ix ixd (pd_var 0) pd_int) (pd_var 1) (pd_lstM pda_nil))) pss_nilD)))) (rd__law_release c)
theorem ok__law_is_integer (T : Txt mg c) : FnC P w c.K mg base 1 "_law_is_integer" ["value", "low", "high"] (sp__law_is_integer c) :=
  FnC.mk T.d__law_is_integer sc__law_is_integer (by decide) (len__law_is_integer c) (fun f cdv A outer s H E hr => (pss_oneD (pds_ret (pd_and (pd_isi (T := "int") (pd_var 0) (pe_bltn rfl T.b_int (by decide +kernel) rfl) T.b_isinstance) (pd_and (pd_not (pd_isi (T := "bool") (pd_var 0) (pe_bltn rfl T.b_bool (by decide +kernel) rfl) T.b_isinstance)) (pd_one (pd_chain opd_le opd_le (pd_var 1) (pd_var 0) (pd_var 2)))))))) (rd__law_is_integer c)
theorem ok__law_odd (T : Txt mg c) : FnC P w c.K mg base 1 "_law_odd" ["numbers", "k", "most"] (sp__law_odd c) :=
  FnC.mk T.d__law_odd sc__law_odd (by decide) (len__law_odd c) (fun f cdv A outer s H E hr => (pss_consD (pds_set (i := 3) sc__law_odd.nd rfl (by first | exact Or.inl rfl | exact Or.inr rfl) (pd_lstM (pda_cons (pd_un und_neg pd_int) (pda_cons (pd_var 2) (pda_cons pd_bl (pda_cons pd_bl (pda_cons pd_non (pda_cons pd_str (pda_cons (pd_tup (pda_cons pd_int pda_nil)) (pda_cons (pd_lst (pda_cons pd_int pda_nil)) (pda_cons (pd_op opd_pow pd_int pd_int) (pda_cons (pd_tup pda_nil) (pda_cons pd_str (pda_cons (pd_un und_neg (pd_op opd_pow pd_int pd_int)) pda_nil))))))))))))))
  (pss_consD (pds_drop (pd_lm PySem.F.slot_list_append PySem.F.type_list_append md_append (pd_var 3) (pda_cons (pd_op opd_add (pd_var 2) (pd_op opd_mod (pd_callTy cd_int T.b_int (by decide +kernel) (pda_cons (pd_ix ixd (pd_var 0) (pd_var 1)) pda_nil)) pd_int)) pda_nil)))
  (pss_oneD (pds_ret (pd_ix ixd (pd_var 3) (pd_op opd_mod (pd_callTy cd_int T.b_int (by decide +kernel) (pda_cons (pd_ix ixd (pd_var 0) (pd_op opd_add (pd_var 1) pd_int)) pda_nil)) pd_int))))))) (rd__law_odd c)
theorem okT__law_kinds (T : Txt mg c) : FnTC P w c.K mg base 1 "_law_kinds" ["e"] (sp__law_kinds c) :=
  FnTC.mk T.d__law_kinds sc__law_kinds (by decide) (fun _ _ _ _ _ _ _ _ h => h) (len__law_kinds c) (fun f cdv A outer s H E a dd C oe ca hr gd => by
    obtain ⟨hz, hf⟩ := ca
    exact (pss_consD (pds_set (i := 1) sc__law_kinds.nd rfl (by first | exact Or.inl rfl | exact Or.inr rfl) (pd_lstM pda_nil))
  (pss_consD (pds_if (pdt_val (pd_isE (T := c.InvalidNumber) hz hf (pd_var 0) (pe_cls T.g_InvalidNumber) T.b_isinstance)) (pss_oneD (pds_drop (pd_lm PySem.F.slot_list_append PySem.F.type_list_append md_append (pd_var 1) (pda_cons (pd_tup (pda_cons pd_str (pda_cons (pd_callB (cd_repr (by exact gd) (by exact hr.units)) T.b_repr (by decide +kernel) (pda_cons (pd_exf (f := "number") hz hf (pd_var 0)) pda_nil)) pda_nil))) pda_nil)))) pss_nilD)
  (pss_consD (pds_if (pdt_val (pd_isE (T := c.NoRoom) hz hf (pd_var 0) (pe_cls T.g_NoRoom) T.b_isinstance)) (pss_oneD (pds_drop (pd_lm PySem.F.slot_list_append PySem.F.type_list_append md_append (pd_var 1) (pda_cons (pd_tup (pda_cons pd_str (pda_cons (pd_callB (cd_repr (by exact gd) (by exact hr.units)) T.b_repr (by decide +kernel) (pda_cons (pd_exf (f := "many") hz hf (pd_var 0)) pda_nil)) pda_nil))) pda_nil)))) pss_nilD)
  (pss_consD (pds_if (pdt_val (pd_isE (T := c.NotAlone) hz hf (pd_var 0) (pe_cls T.g_NotAlone) T.b_isinstance)) (pss_oneD (pds_drop (pd_lm PySem.F.slot_list_append PySem.F.type_list_append md_append (pd_var 1) (pda_cons (pd_tup (pda_cons pd_str (pda_cons (pd_callB (cd_repr (by exact gd) (by exact hr.units)) T.b_repr (by decide +kernel) (pda_cons (pd_exf (f := "block") hz hf (pd_var 0)) pda_nil)) pda_nil))) pda_nil)))) pss_nilD)
  (pss_consD (pds_if (pdt_val (pd_isE (T := c.NotHeld) hz hf (pd_var 0) (pe_cls T.g_NotHeld) T.b_isinstance)) (pss_oneD (pds_drop (pd_lm PySem.F.slot_list_append PySem.F.type_list_append md_append (pd_var 1) (pda_cons (pd_tup (pda_cons pd_str (pda_cons (pd_callB (cd_repr (by exact gd) (by exact hr.units)) T.b_repr (by decide +kernel) (pda_cons (pd_exf (f := "block") hz hf (pd_var 0)) pda_nil)) pda_nil))) pda_nil)))) pss_nilD)
  (pss_consD (pds_if (PDw.pt (pdw_or (pdt_val (pd_isET (Ts := [c.InvalidLetter, c.NoHouse, c.NoRequest, c.TooLarge]) hz hf (pd_var 0) (pa_refs (pe_cls T.g_InvalidLetter) (pa_refs (pe_cls T.g_NoHouse) (pa_refs (pe_cls T.g_NoRequest) (pa_refs (pe_cls T.g_TooLarge) pa_refs0)))) T.b_isinstance (by show 4 ≤ sizeLine; decide))) (pdw_or1 (pdt_not (pdt_val (pd_isEB (T := "ValueError") hz hf (pd_var 0) (pe_bltn (by rfl) T.b_ValueError (by decide +kernel) rfl) T.b_isinstance)))))) (pss_oneD (pds_drop (pd_lm PySem.F.slot_list_append PySem.F.type_list_append md_append (pd_var 1) (pda_cons (pd_tup (pda_cons pd_str (pda_cons pd_str pda_nil))) pda_nil)))) pss_nilD)
  (pss_consD (pds_if (pdt_cmp (opd_eq hr.units) (pd_callB cd_len T.b_len (by decide +kernel) (pda_cons (pd_var 1) pda_nil)) pd_int (nomark _)) (pss_oneD (pds_ret (pd_ix ixd (pd_var 1) pd_int))) pss_nilD)
  (pss_oneD (pds_ret (pd_tup (pda_cons pd_str (pda_cons pd_str pda_nil))))))))))))) (rd__law_kinds c)
theorem ok__law_call (T : Txt mg c) : FnC P w c.K mg base 6 "_law_call" ["store", "word", "block", "value", "named"] (sp__law_call c) :=
  FnC.mk T.d__law_call sc__law_call (by decide) (len__law_call c) (fun f cdv A outer s H E hr => (pss_consD (pds_if (pdt_cmp (opd_eq hr.units) (pd_var 1) pd_str (nomark _)) (pss_oneD (pds_ret (pd_mt0 (N := N_Store) T.cl_Store (ok_Store_take T) (by decide +kernel) (hr.mono (by decide)) (pd_var 0)))) pss_nilD)
  (pss_consD (pds_if (PDw.pt (pdw_and (pdt_cmp (opd_eq hr.units) (pd_var 1) pd_str (nomark _)) (pdw_and1 (pdt_val (pd_var 4))))) (pss_oneD (pds_ret (pd_mtK (N := N_Store) T.cl_Store (okK_Store_put_row_row_block T) (by decide +kernel) (hr.mono (by decide)) (pd_var 0) (pdk_cons (pd_var 3) (pdk_cons (pd_var 2) pdk_nil))))) pss_nilD)
  (pss_consD (pds_if (PDw.pt (pdw_and (pdt_cmp (opd_eq hr.units) (pd_var 1) pd_str (nomark _)) (pdw_and1 (pdt_val (pd_var 4))))) (pss_oneD (pds_ret (pd_mtK (N := N_Store) T.cl_Store (okK_Store_shorten_many_block T) (by decide +kernel) (hr.mono (by decide)) (pd_var 0) (pdk_cons (pd_var 3) (pdk_cons (pd_var 2) pdk_nil))))) pss_nilD)
  (pss_consD (pds_if (PDw.pt (pdw_and (pdt_cmp (opd_eq hr.units) (pd_var 1) pd_str (nomark _)) (pdw_and1 (pdt_val (pd_var 4))))) (pss_oneD (pds_ret (pd_mtK (N := N_Store) T.cl_Store (okK_Store_holders_block T) (by decide +kernel) (hr.mono (by decide)) (pd_var 0) (pdk_cons (pd_var 2) pdk_nil)))) pss_nilD)
  (pss_consD (pds_if (PDw.pt (pdw_and (pdt_cmp (opd_eq hr.units) (pd_var 1) pd_str (nomark _)) (pdw_and1 (pdt_val (pd_var 4))))) (pss_oneD (pds_ret (pd_mtK (N := N_Store) T.cl_Store (okK_Store_hold_block T) (by decide +kernel) (hr.mono (by decide)) (pd_var 0) (pdk_cons (pd_var 2) pdk_nil)))) pss_nilD)
  (pss_consD (pds_if (PDw.pt (pdw_and (pdt_cmp (opd_eq hr.units) (pd_var 1) pd_str (nomark _)) (pdw_and1 (pdt_val (pd_var 4))))) (pss_oneD (pds_ret (pd_mtK (N := N_Store) T.cl_Store (okK_Store_release_block T) (by decide +kernel) (hr.mono (by decide)) (pd_var 0) (pdk_cons (pd_var 2) pdk_nil)))) pss_nilD)
  (pss_consD (pds_if (PDw.pt (pdw_and (pdt_cmp (opd_eq hr.units) (pd_var 1) pd_str (nomark _)) (pdw_and1 (pdt_val (pd_var 4))))) (pss_oneD (pds_ret (pd_mtK (N := N_Store) T.cl_Store (okK_Store_rows_block T) (by decide +kernel) (hr.mono (by decide)) (pd_var 0) (pdk_cons (pd_var 2) pdk_nil)))) pss_nilD)
  (pss_consD (pds_if (pdt_cmp (opd_eq hr.units) (pd_var 1) pd_str (nomark _)) (pss_oneD (pds_ret (pd_mt (N := N_Store) T.cl_Store (ok_Store_hold T) (by decide +kernel) (hr.mono (by decide)) (pd_var 0) (pda_cons (pd_var 2) pda_nil)))) pss_nilD)
  (pss_consD (pds_if (pdt_cmp (opd_eq hr.units) (pd_var 1) pd_str (nomark _)) (pss_oneD (pds_ret (pd_mt (N := N_Store) T.cl_Store (ok_Store_release T) (by decide +kernel) (hr.mono (by decide)) (pd_var 0) (pda_cons (pd_var 2) pda_nil)))) pss_nilD)
  (pss_consD (pds_if (pdt_cmp (opd_eq hr.units) (pd_var 1) pd_str (nomark _)) (pss_oneD (pds_ret (pd_mt (N := N_Store) T.cl_Store (ok_Store_put_row T) (by decide +kernel) (hr.mono (by decide)) (pd_var 0) (pda_cons (pd_var 2) (pda_cons (pd_var 3) pda_nil))))) pss_nilD)
  (pss_consD (pds_if (pdt_cmp (opd_eq hr.units) (pd_var 1) pd_str (nomark _)) (pss_oneD (pds_ret (pd_mt (N := N_Store) T.cl_Store (ok_Store_shorten T) (by decide +kernel) (hr.mono (by decide)) (pd_var 0) (pda_cons (pd_var 2) (pda_cons (pd_var 3) pda_nil))))) pss_nilD)
  (pss_consD (pds_if (pdt_cmp (opd_eq hr.units) (pd_var 1) pd_str (nomark _)) (pss_oneD (pds_ret (pd_mt (N := N_Store) T.cl_Store (ok_Store_rows T) (by decide +kernel) (hr.mono (by decide)) (pd_var 0) (pda_cons (pd_var 2) pda_nil)))) pss_nilD)
  (pss_oneD (pds_ret (pd_mt (N := N_Store) T.cl_Store (ok_Store_holders T) (by decide +kernel) (hr.mono (by decide)) (pd_var 0) (pda_cons (pd_var 2) pda_nil))))))))))))))))) (rd__law_call c)
theorem ok__law_ask (T : Txt mg c) : FnGC P w c.K mg base 7 "_law_ask" ["store", "word", "block", "value", "named"] (sp__law_ask c) :=
  FnGC.mk T.d__law_ask sc__law_ask (by decide) (fun _ _ _ _ _ h => h) (len__law_ask c) (fun f cdv A outer s H E hr gd => (pss_oneD (pds_try (i := 5) (ws := fun a dd C => (wRet (wCall (sp__law_kinds c a dd C) (wCons (wVar 5) wNil)))) (by rfl) (by rfl) sc__law_ask.nd (by rfl) (by rfl) T.g_ServeError (by rfl) (by decide) (fun pn xe pass => (pss_oneD (pds_ret (pd_tup (pda_cons pd_str (pda_cons (pd_fn (ok__law_call T) (hr.mono (by decide)) (pda_cons (pd_var 0) (pda_cons (pd_var 1) (pda_cons (pd_var 2) (pda_cons (pd_var 3) (pda_cons (pd_var 4) pda_nil)))))) pda_nil)))))) (fun a dd C oe pn hz hf => (pss_oneD (pds_ret (pd_fnT (okT__law_kinds T) ((L2H.roomH_of hr).mono (by decide)) gd ⟨hz, hf⟩ (pda_cons (pd_var 5) pda_nil)))))))) (rd__law_ask c)
theorem ok__law_due (T : Txt mg c) : FnGC P w c.K mg base 3 "_law_due" ["state", "size", "word", "block", "value"] (sp__law_due c) :=
  FnGC.mk T.d__law_due sc__law_due (by decide) (fun _ _ _ _ _ h => h) (len__law_due c) (fun f cdv A outer s H E hr gd => (pss_consD (pds_if (pdt_cmp (opd_eq hr.units) (pd_var 2) pd_str (nomark _)) (pss_consD (pds_set (i := 3) sc__law_due.nd rfl (by first | exact Or.inl rfl | exact Or.inr rfl) (pd_fn (ok__law_take T) (hr.mono (by decide)) (pda_cons (pd_var 0) pda_nil)))
  (pss_consD (pds_if (pdt_cmp opd_isN (pd_var 3) pd_non (nomark _)) (pss_oneD (pds_ret (pd_tup (pda_cons pd_str (pda_cons pd_str pda_nil))))) pss_nilD)
  (pss_oneD (pds_ret (pd_tup (pda_cons pd_str (pda_cons (pd_var 3) pda_nil))))))) pss_nilD)
  (pss_consD (pds_if (PDw.pt (pdw_or (pdt_not (pdt_val (pd_fn (ok__law_is_integer T) (hr.mono (by decide)) (pda_cons (pd_var 3) (pda_cons pd_int (pda_cons (pd_op opd_sub (pd_callB cd_len T.b_len (by decide +kernel) (pda_cons (pd_ix ixd (pd_var 0) pd_int) pda_nil)) pd_int) pda_nil)))))) (pdw_or1 (PDw.pt (pdw_and (pdt_cmp (opd_ne hr.units) (pd_var 2) pd_str (nomark _)) (pdw_and1 (pdt_cmp (opd_eq hr.units) (pd_ix ixd (pd_ix ixd (pd_var 0) pd_int) (pd_var 3)) pd_int (nomark _)))))))) (pss_oneD (pds_ret (pd_tup (pda_cons pd_str (pda_cons (pd_callB (cd_repr (by exact gd) (by exact hr.units)) T.b_repr (by decide +kernel) (pda_cons (pd_var 3) pda_nil)) pda_nil))))) pss_nilD)
  (pss_consD (pds_if (pdt_cmp (opd_eq hr.units) (pd_var 2) pd_str (nomark _)) (pss_oneD (pds_ret (pd_tup (pda_cons pd_str (pda_cons (pd_ix ixd (pd_ix ixd (pd_var 0) pd_int) (pd_var 3)) pda_nil))))) pss_nilD)
  (pss_consD (pds_if (pdt_cmp (opd_eq hr.units) (pd_var 2) pd_str (nomark _)) (pss_oneD (pds_ret (pd_tup (pda_cons pd_str (pda_cons (pd_callTy cd_tuple T.b_tuple (by decide +kernel) (pda_cons (pd_ix ixd (pd_ix ixd (pd_var 0) pd_int) (pd_var 3)) pda_nil)) pda_nil))))) pss_nilD)
  (pss_consD (pds_if (pdt_cmp (opd_eq hr.units) (pd_var 2) pd_str (nomark _)) (pss_oneD (pds_setI (pd_ix ixd (pd_var 0) pd_int) (pd_var 3) (pd_op opd_add (pd_ix ixd (pd_ix ixd (pd_var 0) pd_int) (pd_var 3)) pd_int))) (pss_oneD (pds_if (pdt_cmp (opd_eq hr.units) (pd_var 2) pd_str (nomark _)) (pss_oneD (pds_drop (pd_fn (ok__law_release T) (hr.mono (by decide)) (pda_cons (pd_var 0) (pda_cons (pd_var 3) pda_nil))))) (pss_oneD (pds_if (pdt_cmp opd_gt (pd_ix ixd (pd_ix ixd (pd_var 0) pd_int) (pd_var 3)) pd_int (nomark _)) (pss_oneD (pds_ret (pd_tup (pda_cons pd_str (pda_cons (pd_callB (cd_repr (by exact gd) (by exact hr.units)) T.b_repr (by decide +kernel) (pda_cons (pd_var 3) pda_nil)) pda_nil))))) (pss_oneD (pds_if (pdt_cmp (opd_eq hr.units) (pd_var 2) pd_str (nomark _)) (pss_consD (pds_if (pdt_cmp (opd_eq hr.units) (pd_callB cd_len T.b_len (by decide +kernel) (pda_cons (pd_ix ixd (pd_ix ixd (pd_var 0) pd_int) (pd_var 3)) pda_nil)) (pd_var 1) (nomark _)) (pss_oneD (pds_ret (pd_tup (pda_cons pd_str (pda_cons pd_str pda_nil))))) pss_nilD)
  (pss_oneD (pds_drop (pd_lm PySem.F.slot_list_append PySem.F.type_list_append md_append (pd_ix ixd (pd_ix ixd (pd_var 0) pd_int) (pd_var 3)) (pda_cons (pd_var 4) pda_nil))))) (pss_consD (pds_if (pdt_not (pdt_val (pd_fn (ok__law_is_integer T) (hr.mono (by decide)) (pda_cons (pd_var 4) (pda_cons pd_int (pda_cons (pd_callB cd_len T.b_len (by decide +kernel) (pda_cons (pd_ix ixd (pd_ix ixd (pd_var 0) pd_int) (pd_var 3)) pda_nil)) pda_nil)))))) (pss_oneD (pds_ret (pd_tup (pda_cons pd_str (pda_cons (pd_callB (cd_repr (by exact gd) (by exact hr.units)) T.b_repr (by decide +kernel) (pda_cons (pd_var 4) pda_nil)) pda_nil))))) pss_nilD)
  (pss_oneD (pds_setI (pd_ix ixd (pd_var 0) pd_int) (pd_var 3) (pd_sliceM (pd_ix ixd (pd_ix ixd (pd_var 0) pd_int) (pd_var 3)) pdo_none (pdo_some (pd_var 4)))))))))))))
  (pss_oneD (pds_ret (pd_tup (pda_cons pd_str (pda_cons pd_non pda_nil))))))))))) (rd__law_due c)
theorem ok__law_stands (T : Txt mg c) : FnC P w c.K mg base 10 "_law_stands" ["store", "state"] (sp__law_stands c) :=
  FnC.mk T.d__law_stands sc__law_stands (by decide) (len__law_stands c) (fun f cdv A outer s H E hr => (pss_consD (pds_if (pdt_not (pdt_val (pd_fn (ok__law_same T) (hr.mono (by decide)) (pda_cons (pd_prop (N := N_Store) T.cl_Store (ok_Store_free T) (by decide +kernel) (hr.mono (by decide)) (pd_var 0)) (pda_cons (pd_callB cd_len T.b_len (by decide +kernel) (pda_cons (pd_lc (own := [("one", 3)]) rfl sc__law_stands.nd (pdi_seq (pd_ix ixd (pd_var 1) pd_int)) (blkOk_by (N := N__law_stands_) (sc := defScope s__law_stands) (by decide +kernel)) (fun _ _ _ _ _ => (pdg_name (i := 3) sc__law_stands.nd rfl (by first | exact Or.inl rfl | exact Or.inr rfl) (by decide))) (fun _ _ _ _ _ => (pdts_one (pdt_cmp (opd_eq hr.units) (pd_var 3) pd_int (nomark _)))) (fun _ _ _ _ _ => (pd_var 3))) pda_nil)) pda_nil))))) (pss_oneD (pds_ret pd_bl)) pss_nilD)
  (pss_consD (pds_for (vs := (List.range 4)) rfl (passes_of rfl) (pdi_rg1 T.b_range (pd_callB cd_len T.b_len (by decide +kernel) (pda_cons (pd_ix ixd (pd_var 1) pd_int) pda_nil))) (pdg_name (i := 2) sc__law_stands.nd rfl (by first | exact Or.inl rfl | exact Or.inr rfl) (by decide)) (pss_consD (pds_if (pdt_not (pdt_val (pd_fn (ok__law_same T) (hr.mono (by decide)) (pda_cons (pd_mt (N := N_Store) T.cl_Store (ok_Store_holders T) (by decide +kernel) (hr.mono (by decide)) (pd_var 0) (pda_cons (pd_var 2) pda_nil)) (pda_cons (pd_ix ixd (pd_ix ixd (pd_var 1) pd_int) (pd_var 2)) pda_nil))))) (pss_oneD (pds_ret pd_bl)) pss_nilD)
  (pss_oneD (pds_if (PDw.pt (pdw_and (pdt_cmp opd_gt (pd_ix ixd (pd_ix ixd (pd_var 1) pd_int) (pd_var 2)) pd_int (nomark _)) (pdw_and1 (pdt_not (pdt_val (pd_fn (ok__law_same T) (hr.mono (by decide)) (pda_cons (pd_mt (N := N_Store) T.cl_Store (ok_Store_rows T) (by decide +kernel) (hr.mono (by decide)) (pd_var 0) (pda_cons (pd_var 2) pda_nil)) (pda_cons (pd_callTy cd_tuple T.b_tuple (by decide +kernel) (pda_cons (pd_ix ixd (pd_ix ixd (pd_var 1) pd_int) (pd_var 2)) pda_nil)) pda_nil)))))))) (pss_oneD (pds_ret pd_bl)) pss_nilD))))
  (pss_oneD (pds_ret pd_bl))))) (rd__law_stands c)
theorem ok__law_listed (T : Txt mg c) : FnC P w c.K mg base 1 "_law_listed" ["row"] (sp__law_listed c) :=
  FnC.mk T.d__law_listed sc__law_listed (by decide) (len__law_listed c) (fun f cdv A outer s H E hr => (pss_consD (by first | exact pds_setLcM (i := 1) rfl sc__law_listed.nd rfl rfl (sw_true rfl rfl rfl (by decide +kernel)) (own := [("pair", 2)]) (pdi_seq (pd_ix ixd (pd_var 0) pd_int)) (blkOk_by (N := N__law_listed_) (sc := defScope s__law_listed) (by decide +kernel)) (fun _ _ _ _ _ => (pdg_name (i := 2) sc__law_listed.nd rfl (by first | exact Or.inl rfl | exact Or.inr rfl) (by decide))) (fun _ _ _ _ _ => pdts_nil) (fun _ _ _ _ _ => (pd_lstM (pda_cons (pd_callTy cd_listM T.b_list (by decide +kernel) (pda_cons (pd_ix ixd (pd_var 2) pd_int) pda_nil)) (pda_cons (pd_callTy cd_listM T.b_list (by decide +kernel) (pda_cons (pd_ix ixd (pd_var 2) pd_int) pda_nil)) pda_nil)))) | exact pds_set (i := 1) sc__law_listed.nd rfl (by first | exact Or.inl rfl | exact Or.inr rfl) (pd_lcM (own := [("pair", 2)]) rfl sc__law_listed.nd (pdi_seq (pd_ix ixd (pd_var 0) pd_int)) (blkOk_by (N := N__law_listed_) (sc := defScope s__law_listed) (by decide +kernel)) (fun _ _ _ _ _ => (pdg_name (i := 2) sc__law_listed.nd rfl (by first | exact Or.inl rfl | exact Or.inr rfl) (by decide))) (fun _ _ _ _ _ => pdts_nil) (fun _ _ _ _ _ => (pd_lstM (pda_cons (pd_callTy cd_listM T.b_list (by decide +kernel) (pda_cons (pd_ix ixd (pd_var 2) pd_int) pda_nil)) (pda_cons (pd_callTy cd_listM T.b_list (by decide +kernel) (pda_cons (pd_ix ixd (pd_var 2) pd_int) pda_nil)) pda_nil))))))
  (pss_oneD (pds_ret (pd_lstM (pda_cons (pd_var 1) (pda_cons (pd_callTy cd_listM T.b_list (by decide +kernel) (pda_cons (pd_ix ixd (pd_var 0) pd_int) pda_nil)) pda_nil))))))) (rd__law_listed c)
theorem ok__law_spoilt (T : Txt mg c) : FnC P w c.K mg base 1 "_law_spoilt" ["handed"] (sp__law_spoilt c) :=
  FnC.mk T.d__law_spoilt sc__law_spoilt (by decide) (len__law_spoilt c) (fun f cdv A outer s H E hr => (pss_oneD (pds_if (pdt_val (pd_isi (T := "list") (pd_var 0) (pe_bltn rfl T.b_list (by decide +kernel) rfl) T.b_isinstance)) (pss_consD (pds_for (vs := (List.range 2)) rfl (passes_of rfl) (pdi_seq (pd_ix ixd (pd_var 0) pd_int)) (pdg_name (i := 1) sc__law_spoilt.nd rfl (by first | exact Or.inl rfl | exact Or.inr rfl) (by decide)) (pss_consD (pds_drop (pd_lm PySem.F.slot_list_append PySem.F.type_list_append md_append (pd_ix ixd (pd_var 1) pd_int) (pda_cons pd_int pda_nil)))
  (pss_oneD (pds_drop (pd_lm PySem.F.slot_list_append PySem.F.type_list_append md_append (pd_var 1) (pda_cons (pd_lst pda_nil) pda_nil))))))
  (pss_consD (pds_drop (pd_lm PySem.F.slot_list_append PySem.F.type_list_append md_append (pd_ix ixd (pd_var 0) pd_int) (pda_cons pd_int pda_nil)))
  (pss_oneD (pds_drop (pd_lm PySem.F.slot_list_append PySem.F.type_list_append md_append (pd_var 0) (pda_cons (pd_lst pda_nil) pda_nil)))))) pss_nilD))) (rd__law_spoilt c)
theorem ok__law_hands (T : Txt mg c) : FnC P w c.K mg base 2 "_law_hands" ["word", "value", "listed"] (sp__law_hands c) :=
  FnC.mk T.d__law_hands sc__law_hands (by decide) (len__law_hands c) (fun f cdv A outer s H E hr => (pss_consD (pds_if (PDw.pt (pdw_and (pdt_cmp (opd_eq hr.units) (pd_var 0) pd_str (nomark _)) (pdw_and1 (pdt_val (pd_var 2))))) (pss_oneD (pds_ret (pd_fn (ok__law_listed T) (hr.mono (by decide)) (pda_cons (pd_var 1) pda_nil)))) pss_nilD)
  (pss_oneD (pds_ret (pd_var 1))))) (rd__law_hands c)
theorem ok__law_free (T : Txt mg c) : FnC P w c.K mg base 1 "_law_free" ["state"] (sp__law_free c) :=
  FnC.mk T.d__law_free sc__law_free (by decide) (len__law_free c) (fun f cdv A outer s H E hr => (pss_oneD (pds_ret (pd_callB cd_len T.b_len (by decide +kernel) (pda_cons (pd_lc (own := [("one", 1)]) rfl sc__law_free.nd (pdi_seq (pd_ix ixd (pd_var 0) pd_int)) (blkOk_by (N := N__law_free_) (sc := defScope s__law_free) (by decide +kernel)) (fun _ _ _ _ _ => (pdg_name (i := 1) sc__law_free.nd rfl (by first | exact Or.inl rfl | exact Or.inr rfl) (by decide))) (fun _ _ _ _ _ => (pdts_one (pdt_cmp (opd_eq hr.units) (pd_var 1) pd_int (nomark _)))) (fun _ _ _ _ _ => (pd_var 1))) pda_nil))))) (rd__law_free c)
theorem ok__law_looks (T : Txt mg c) : FnGC P w c.K mg base 10 "_law_looks" ["stores", "states", "block", "named"] (sp__law_looks c) :=
  FnGC.mk T.d__law_looks sc__law_looks (by decide) (fun _ _ _ _ _ h => h) (len__law_looks c) (fun f cdv A outer s H E hr gd => (pss_consD (pds_for (vs := (List.range 7)) rfl (passes_of rfl) (pdi_rg1 T.b_range pd_int) (pdg_name (i := 4) sc__law_looks.nd rfl (by first | exact Or.inl rfl | exact Or.inr rfl) (by decide)) (pss_consD (pds_if (pdt_not (pdt_val (pd_fn (ok__law_same T) (hr.mono (by decide)) (pda_cons (pd_prop (N := N_Store) T.cl_Store (ok_Store_free T) (by decide +kernel) (hr.mono (by decide)) (pd_ix ixd (pd_var 0) (pd_var 4))) (pda_cons (pd_fn (ok__law_free T) (hr.mono (by decide)) (pda_cons (pd_ix ixd (pd_var 1) (pd_var 4)) pda_nil)) pda_nil))))) (pss_oneD (pds_ret pd_bl)) pss_nilD)
  (pss_oneD (pds_for (vs := (List.range 7)) rfl (passes_of rfl) (pdi_seq (pd_lst (pda_cons pd_str (pda_cons pd_str pda_nil)))) (pdg_name (i := 5) sc__law_looks.nd rfl (by first | exact Or.inl rfl | exact Or.inr rfl) (by decide)) (pss_consD (pds_set (i := 6) sc__law_looks.nd rfl (by first | exact Or.inl rfl | exact Or.inr rfl) (pd_fnG (ok__law_due T) (hr.mono (by decide)) gd (pda_cons (pd_ix ixd (pd_var 1) (pd_var 4)) (pda_cons pd_int (pda_cons (pd_var 5) (pda_cons (pd_var 2) (pda_cons pd_non pda_nil)))))))
  (pss_oneD (pds_if (pdt_not (pdt_val (pd_fn (ok__law_same T) (hr.mono (by decide)) (pda_cons (pd_fnG (ok__law_ask T) (hr.mono (by decide)) gd (pda_cons (pd_ix ixd (pd_var 0) (pd_var 4)) (pda_cons (pd_var 5) (pda_cons (pd_var 2) (pda_cons pd_non (pda_cons (pd_var 3) pda_nil)))))) (pda_cons (pd_var 6) pda_nil))))) (pss_oneD (pds_ret pd_bl)) pss_nilD)))))))
  (pss_oneD (pds_ret pd_bl)))) (rd__law_looks c)
theorem okF_law (T : Txt mg c) {f : Addr} {fd : FuncData} (F : Fun c.K "law" "law" s_law f fd) : FnG P w c.K mg base 11 f fd ["script"] (sp_law c) :=
  fnG_mk F sc_law (by decide) (len_law c) (fun f cdv A outer s H E hr gd => (pss_consD (pds_set (i := 1) sc_law.nd rfl (by first | exact Or.inl rfl | exact Or.inr rfl) (pd_fn (ok__law_numbers T) (hr.mono (by decide)) (pda_cons (pd_ifE (pdt_cmp opd_gt (pd_callB cd_len T.b_len (by decide +kernel) (pda_cons (pd_var 0) pda_nil)) pd_int (nomark _)) (pd_ix ixd (pd_var 0) pd_int) pd_int) (pda_cons pd_int (pda_cons pd_int pda_nil)))))
  (pss_consD (pds_set (i := 2) sc_law.nd rfl (by first | exact Or.inl rfl | exact Or.inr rfl) (pd_fn (ok__law_some_rows T) (hr.mono (by decide)) (pda_cons (pd_var 1) pda_nil)))
  (pss_consD (pds_set (i := 3) sc_law.nd rfl (by first | exact Or.inl rfl | exact Or.inr rfl) (pd_lstM pda_nil))
  (pss_consD (pds_for (vs := (List.range 22)) rfl (passes_of rfl) (pdi_rg1 T.b_range pd_int) (pdg_name (i := 4) sc_law.nd rfl (by first | exact Or.inl rfl | exact Or.inr rfl) (by decide)) (pss_consD (pds_set (i := 5) sc_law.nd rfl (by first | exact Or.inl rfl | exact Or.inr rfl) (pd_ix ixd (pd_lst (pda_cons pd_int (pda_cons pd_int (pda_cons pd_int (pda_cons pd_int (pda_cons pd_int (pda_cons (pd_op opd_add pd_int (pd_op opd_mod (pd_callTy cd_int T.b_int (by decide +kernel) (pda_cons (pd_ix ixd (pd_var 1) (pd_op opd_add pd_int (pd_var 4))) pda_nil)) pd_int)) pda_nil))))))) (pd_op opd_mod (pd_callTy cd_int T.b_int (by decide +kernel) (pda_cons (pd_ix ixd (pd_var 1) (pd_op opd_add pd_int (pd_var 4))) pda_nil)) pd_int)))
  (pss_oneD (pds_drop (pd_lm PySem.F.slot_list_append PySem.F.type_list_append md_append (pd_var 3) (pda_cons (pd_tup (pda_cons (pd_var 5) (pda_cons (pd_ix ixd (pd_lst (pda_cons pd_int (pda_cons pd_int (pda_cons pd_int (pda_cons (pd_op opd_add pd_int (pd_op opd_mod (pd_callTy cd_int T.b_int (by decide +kernel) (pda_cons (pd_ix ixd (pd_var 1) (pd_op opd_add pd_int (pd_var 4))) pda_nil)) pd_int)) pda_nil))))) (pd_op opd_mod (pd_callTy cd_int T.b_int (by decide +kernel) (pda_cons (pd_ix ixd (pd_var 1) (pd_op opd_add pd_int (pd_var 4))) pda_nil)) pd_int)) pda_nil))) pda_nil))))))
  (pss_consD (by first | exact pds_setLc (i := 6) rfl sc_law.nd rfl rfl (sw_true rfl rfl rfl (by decide +kernel)) (own := [("shape", 21)]) (pdi_seq (pd_var 3)) (blkOk_by (N := N_law_) (sc := defScope s_law) (by decide +kernel)) (fun _ _ _ _ _ => (pdg_name (i := 21) sc_law.nd rfl (by first | exact Or.inl rfl | exact Or.inr rfl) (by decide))) (fun _ _ _ _ _ => pdts_nil) (fun _ _ _ _ _ => (pd_mk (N := N_Store) (ok_Store_init T) T.mk_Store (by decide +kernel) (by decide) (hr.mono (by decide)) (pda_cons (pd_ix ixd (pd_var 21) pd_int) (pda_cons (pd_ix ixd (pd_var 21) pd_int) pda_nil)))) | exact pds_set (i := 6) sc_law.nd rfl (by first | exact Or.inl rfl | exact Or.inr rfl) (pd_lc (own := [("shape", 21)]) rfl sc_law.nd (pdi_seq (pd_var 3)) (blkOk_by (N := N_law_) (sc := defScope s_law) (by decide +kernel)) (fun _ _ _ _ _ => (pdg_name (i := 21) sc_law.nd rfl (by first | exact Or.inl rfl | exact Or.inr rfl) (by decide))) (fun _ _ _ _ _ => pdts_nil) (fun _ _ _ _ _ => (pd_mk (N := N_Store) (ok_Store_init T) T.mk_Store (by decide +kernel) (by decide) (hr.mono (by decide)) (pda_cons (pd_ix ixd (pd_var 21) pd_int) (pda_cons (pd_ix ixd (pd_var 21) pd_int) pda_nil))))))
  (pss_consD (by first | exact pds_setLc (i := 7) rfl sc_law.nd rfl rfl (sw_true rfl rfl rfl (by decide +kernel)) (own := [("shape", 21)]) (pdi_seq (pd_var 3)) (blkOk_by (N := N_law_) (sc := defScope s_law) (by decide +kernel)) (fun _ _ _ _ _ => (pdg_name (i := 21) sc_law.nd rfl (by first | exact Or.inl rfl | exact Or.inr rfl) (by decide))) (fun _ _ _ _ _ => pdts_nil) (fun _ _ _ _ _ => (pd_lst (pda_cons (pd_op opd_repM (pd_lst (pda_cons pd_int pda_nil)) (pd_ix ixd (pd_var 21) pd_int)) (pda_cons (pd_lcM (own := [("k", 4)]) rfl sc_law.nd (pdi_rg1 T.b_range (pd_ix ixd (pd_var 21) pd_int)) (blkOk_by (N := N_law_) (sc := relS _ (defScope s_law)) (by decide +kernel)) (fun _ _ _ _ _ => (pdg_name (i := 4) sc_law.nd rfl (by first | exact Or.inl rfl | exact Or.inr rfl) (by decide))) (fun _ _ _ _ _ => pdts_nil) (fun _ _ _ _ _ => (pd_lstM pda_nil))) pda_nil)))) | exact pds_set (i := 7) sc_law.nd rfl (by first | exact Or.inl rfl | exact Or.inr rfl) (pd_lc (own := [("shape", 21)]) rfl sc_law.nd (pdi_seq (pd_var 3)) (blkOk_by (N := N_law_) (sc := defScope s_law) (by decide +kernel)) (fun _ _ _ _ _ => (pdg_name (i := 21) sc_law.nd rfl (by first | exact Or.inl rfl | exact Or.inr rfl) (by decide))) (fun _ _ _ _ _ => pdts_nil) (fun _ _ _ _ _ => (pd_lst (pda_cons (pd_op opd_repM (pd_lst (pda_cons pd_int pda_nil)) (pd_ix ixd (pd_var 21) pd_int)) (pda_cons (pd_lcM (own := [("k", 4)]) rfl sc_law.nd (pdi_rg1 T.b_range (pd_ix ixd (pd_var 21) pd_int)) (blkOk_by (N := N_law_) (sc := relS _ (defScope s_law)) (by decide +kernel)) (fun _ _ _ _ _ => (pdg_name (i := 4) sc_law.nd rfl (by first | exact Or.inl rfl | exact Or.inr rfl) (by decide))) (fun _ _ _ _ _ => pdts_nil) (fun _ _ _ _ _ => (pd_lstM pda_nil))) pda_nil))))))
  (pss_consD (pds_for (vs := (List.range 22)) rfl (passes_of rfl) (pdi_rg2 T.b_range pd_int (pd_callB (cd_min2 rfl) T.b_min (by decide +kernel) (pda_cons (pd_callB cd_len T.b_len (by decide +kernel) (pda_cons (pd_var 0) pda_nil)) (pda_cons pd_int pda_nil)))) (pdg_name (i := 8) sc_law.nd rfl (by first | exact Or.inl rfl | exact Or.inr rfl) (by decide)) (pss_consD (pds_set (i := 9) sc_law.nd rfl (by first | exact Or.inl rfl | exact Or.inr rfl) (pd_fn (ok__law_numbers T) (hr.mono (by decide)) (pda_cons (pd_ix ixd (pd_var 0) (pd_var 8)) (pda_cons (pd_var 8) (pda_cons pd_int pda_nil)))))
  (pss_consD (pds_set (i := 10) sc_law.nd rfl (by first | exact Or.inl rfl | exact Or.inr rfl) (pd_op opd_mod (pd_callTy cd_int T.b_int (by decide +kernel) (pda_cons (pd_ix ixd (pd_var 9) pd_int) pda_nil)) pd_int))
  (pss_consD (pds_set (i := 5) sc_law.nd rfl (by first | exact Or.inl rfl | exact Or.inr rfl) (pd_ix ixd (pd_ix ixd (pd_var 3) (pd_var 10)) pd_int))
  (pss_consD (pds_set (i := 11) sc_law.nd rfl (by first | exact Or.inl rfl | exact Or.inr rfl) (pd_lst (pda_cons pd_str (pda_cons pd_str (pda_cons pd_str (pda_cons pd_str (pda_cons pd_str (pda_cons pd_str (pda_cons pd_str (pda_cons pd_str (pda_cons pd_str (pda_cons pd_str (pda_cons pd_str pda_nil)))))))))))))
  (pss_consD (pds_set (i := 12) sc_law.nd rfl (by first | exact Or.inl rfl | exact Or.inr rfl) (pd_ix ixd (pd_var 11) (pd_op opd_mod (pd_callTy cd_int T.b_int (by decide +kernel) (pda_cons (pd_ix ixd (pd_var 9) pd_int) pda_nil)) pd_int)))
  (pss_consD (by first | exact pds_setLc (i := 13) rfl sc_law.nd rfl rfl (sw_true rfl rfl rfl (by decide +kernel)) (own := [("block", 14)]) (pdi_rg1 T.b_range (pd_var 5)) (blkOk_by (N := N_law_) (sc := defScope s_law) (by decide +kernel)) (fun _ _ _ _ _ => (pdg_name (i := 14) sc_law.nd rfl (by first | exact Or.inl rfl | exact Or.inr rfl) (by decide))) (fun _ _ _ _ _ => (pdts_one (pdt_cmp opd_gt (pd_ix ixd (pd_ix ixd (pd_ix ixd (pd_var 7) (pd_var 10)) pd_int) (pd_var 14)) pd_int (nomark _)))) (fun _ _ _ _ _ => (pd_var 14)) | exact pds_set (i := 13) sc_law.nd rfl (by first | exact Or.inl rfl | exact Or.inr rfl) (pd_lc (own := [("block", 14)]) rfl sc_law.nd (pdi_rg1 T.b_range (pd_var 5)) (blkOk_by (N := N_law_) (sc := defScope s_law) (by decide +kernel)) (fun _ _ _ _ _ => (pdg_name (i := 14) sc_law.nd rfl (by first | exact Or.inl rfl | exact Or.inr rfl) (by decide))) (fun _ _ _ _ _ => (pdts_one (pdt_cmp opd_gt (pd_ix ixd (pd_ix ixd (pd_ix ixd (pd_var 7) (pd_var 10)) pd_int) (pd_var 14)) pd_int (nomark _)))) (fun _ _ _ _ _ => (pd_var 14))))
  (pss_consD (pds_set (i := 14) sc_law.nd rfl (by first | exact Or.inl rfl | exact Or.inr rfl) (pd_op opd_mod (pd_callTy cd_int T.b_int (by decide +kernel) (pda_cons (pd_ix ixd (pd_var 9) pd_int) pda_nil)) (pd_var 5)))
  (pss_consD (pds_if (PDw.pt (pdw_and (pdt_cmp opd_gt (pd_callB cd_len T.b_len (by decide +kernel) (pda_cons (pd_var 13) pda_nil)) pd_int (nomark _)) (pdw_and1 (pdt_cmp opd_gt (pd_op opd_mod (pd_callTy cd_int T.b_int (by decide +kernel) (pda_cons (pd_ix ixd (pd_var 9) pd_int) pda_nil)) pd_int) pd_int (nomark _))))) (pss_oneD (pds_set (i := 14) sc_law.nd rfl (by first | exact Or.inl rfl | exact Or.inr rfl) (pd_ix ixd (pd_var 13) (pd_op opd_mod (pd_callTy cd_int T.b_int (by decide +kernel) (pda_cons (pd_ix ixd (pd_var 9) pd_int) pda_nil)) (pd_callB cd_len T.b_len (by decide +kernel) (pda_cons (pd_var 13) pda_nil)))))) pss_nilD)
  (pss_consD (pds_if (pdt_cmp (opd_eq hr.units) (pd_op opd_mod (pd_callTy cd_int T.b_int (by decide +kernel) (pda_cons (pd_ix ixd (pd_var 9) pd_int) pda_nil)) pd_int) pd_int (nomark _)) (pss_oneD (pds_set (i := 14) sc_law.nd rfl (by first | exact Or.inl rfl | exact Or.inr rfl) (pd_fn (ok__law_odd T) (hr.mono (by decide)) (pda_cons (pd_var 9) (pda_cons pd_int (pda_cons (pd_var 5) pda_nil)))))) pss_nilD)
  (pss_consD (pds_set (i := 15) sc_law.nd rfl (by first | exact Or.inl rfl | exact Or.inr rfl) pd_non)
  (pss_consD (pds_if (pdt_cmp (opd_eq hr.units) (pd_var 12) pd_str (nomark _)) (pss_oneD (pds_set (i := 15) sc_law.nd rfl (by first | exact Or.inl rfl | exact Or.inr rfl) (pd_ix ixd (pd_var 2) (pd_op opd_mod (pd_callTy cd_int T.b_int (by decide +kernel) (pda_cons (pd_ix ixd (pd_var 9) pd_int) pda_nil)) pd_int)))) pss_nilD)
  (pss_consD (pds_if (pdt_cmp (opd_eq hr.units) (pd_var 12) pd_str (nomark _)) (pss_oneD (pds_set (i := 15) sc_law.nd rfl (by first | exact Or.inl rfl | exact Or.inr rfl) (pd_ix ixd (pd_lst (pda_cons (pd_op opd_mod (pd_callTy cd_int T.b_int (by decide +kernel) (pda_cons (pd_ix ixd (pd_var 9) pd_int) pda_nil)) pd_int) (pda_cons (pd_fn (ok__law_odd T) (hr.mono (by decide)) (pda_cons (pd_var 9) (pda_cons pd_int (pda_cons pd_int pda_nil)))) pda_nil))) (pd_callTy cd_int T.b_int (by decide +kernel) (pda_cons (pd_cmp (opd_eq hr.units) (pd_op opd_mod (pd_callTy cd_int T.b_int (by decide +kernel) (pda_cons (pd_ix ixd (pd_var 9) pd_int) pda_nil)) pd_int) pd_int (nomark _)) pda_nil))))) pss_nilD)
  (pss_oneD (pds_for (vs := (List.range 22)) rfl (passes_of rfl) (pdi_rg1 T.b_range (pd_ix ixd (pd_lst (pda_cons pd_int (pda_cons pd_int (pda_cons pd_int (pda_cons pd_int pda_nil))))) (pd_op opd_mod (pd_callTy cd_int T.b_int (by decide +kernel) (pda_cons (pd_ix ixd (pd_var 9) pd_int) pda_nil)) pd_int))) (pdg_name (i := 16) sc_law.nd rfl (by first | exact Or.inl rfl | exact Or.inr rfl) (by decide)) (pss_consD (pds_set (i := 17) sc_law.nd rfl (by first | exact Or.inl rfl | exact Or.inr rfl) (pd_fn (ok__law_hands T) (hr.mono (by decide)) (pda_cons (pd_var 12) (pda_cons (pd_var 15) (pda_cons (pd_cmp (opd_eq hr.units) (pd_op opd_mod (pd_callTy cd_int T.b_int (by decide +kernel) (pda_cons (pd_ix ixd (pd_var 9) pd_int) pda_nil)) pd_int) pd_int (nomark _)) pda_nil)))))
  (pss_consD (pds_set (i := 18) sc_law.nd rfl (by first | exact Or.inl rfl | exact Or.inr rfl) (pd_fnG (ok__law_ask T) (hr.mono (by decide)) gd (pda_cons (pd_ix ixd (pd_var 6) (pd_var 10)) (pda_cons (pd_var 12) (pda_cons (pd_var 14) (pda_cons (pd_var 17) (pda_cons (pd_cmp (opd_eq hr.units) (pd_op opd_mod (pd_callTy cd_int T.b_int (by decide +kernel) (pda_cons (pd_ix ixd (pd_var 9) pd_int) pda_nil)) pd_int) pd_int (nomark _)) pda_nil)))))))
  (pss_consD (pds_set (i := 19) sc_law.nd rfl (by first | exact Or.inl rfl | exact Or.inr rfl) (pd_fnG (ok__law_due T) (hr.mono (by decide)) gd (pda_cons (pd_ix ixd (pd_var 7) (pd_var 10)) (pda_cons (pd_ix ixd (pd_ix ixd (pd_var 3) (pd_var 10)) pd_int) (pda_cons (pd_var 12) (pda_cons (pd_var 14) (pda_cons (pd_var 15) pda_nil)))))))
  (pss_consD (pds_if (pdt_not (pdt_val (pd_fn (ok__law_same T) (hr.mono (by decide)) (pda_cons (pd_var 18) (pda_cons (pd_var 19) pda_nil))))) (pss_oneD (pds_ret pd_bl)) pss_nilD)
  (pss_consD (pds_if (pdt_cmp (opd_eq hr.units) (pd_var 12) pd_str (nomark _)) (pss_oneD (pds_drop (pd_fn (ok__law_spoilt T) (hr.mono (by decide)) (pda_cons (pd_var 17) pda_nil)))) pss_nilD)
  (pss_consD (pds_set (i := 20) sc_law.nd rfl (by first | exact Or.inl rfl | exact Or.inr rfl) (pd_var 14))
  (pss_consD (pds_if (PDw.pt (pdw_and (pdt_cmp (opd_eq hr.units) (pd_var 12) pd_str (nomark _)) (pdw_and1 (pdt_cmp (opd_eq hr.units) (pd_ix ixd (pd_var 19) pd_int) pd_str (nomark _))))) (pss_oneD (pds_set (i := 20) sc_law.nd rfl (by first | exact Or.inl rfl | exact Or.inr rfl) (pd_ix ixd (pd_var 19) pd_int))) pss_nilD)
  (pss_oneD (pds_if (pdt_not (pdt_val (pd_fnG (ok__law_looks T) (hr.mono (by decide)) gd (pda_cons (pd_var 6) (pda_cons (pd_var 7) (pda_cons (pd_var 20) (pda_cons (pd_cmp (opd_eq hr.units) (pd_op opd_mod (pd_callTy cd_int T.b_int (by decide +kernel) (pda_cons (pd_op opd_div (pd_ix ixd (pd_var 9) pd_int) pd_int) pda_nil)) pd_int) pd_int (nomark _)) pda_nil))))))) (pss_oneD (pds_ret pd_bl)) pss_nilD))))))))))))))))))))))))
  (pss_consD (pds_for (vs := (List.range 22)) rfl (passes_of rfl) (pdi_rg1 T.b_range pd_int) (pdg_name (i := 4) sc_law.nd rfl (by first | exact Or.inl rfl | exact Or.inr rfl) (by decide)) (pss_oneD (pds_if (PDw.pt (pdw_or (pdt_not (pdt_val (pd_fn (ok__law_same T) (hr.mono (by decide)) (pda_cons (pd_fld (N := N_Store) (i := 0) T.cl_Store T.na_Store_many rfl (pd_ix ixd (pd_var 6) (pd_var 4))) (pda_cons (pd_ix ixd (pd_ix ixd (pd_var 3) (pd_var 4)) pd_int) pda_nil))))) (pdw_or1 (pdt_not (pdt_val (pd_fn (ok__law_same T) (hr.mono (by decide)) (pda_cons (pd_fld (N := N_Store) (i := 1) T.cl_Store T.na_Store_size rfl (pd_ix ixd (pd_var 6) (pd_var 4))) (pda_cons (pd_ix ixd (pd_ix ixd (pd_var 3) (pd_var 4)) pd_int) pda_nil)))))))) (pss_oneD (pds_ret pd_bl)) pss_nilD)))
  (pss_oneD (pds_ret (pd_and (pd_fn (ok__law_stands T) (hr.mono (by decide)) (pda_cons (pd_ix ixd (pd_var 6) pd_int) (pda_cons (pd_ix ixd (pd_var 7) pd_int) pda_nil))) (pd_one (pd_fn (ok__law_stands T) (hr.mono (by decide)) (pda_cons (pd_ix ixd (pd_var 6) pd_int) (pda_cons (pd_ix ixd (pd_var 7) pd_int) pda_nil)))))))))))))))) (rd_law c)
end
end K12
set_option Elab.async false
set_option linter.all false
set_option maxRecDepth 100000
set_option maxHeartbeats 4000000
namespace K12
open PySem PySem.Spec PyProof.Rows L2 DL
abbrev spEnd : Ctr := DL.spScript
theorem spEnd_at {K : PySem.W.Frag} {H : Hp} {a : Addr} {ns : List Int} {E : XK} (hl : ns.length ≤ 63) (hS : SqL K H a (ns.map V.int)) : lSp K spEnd [.ref a] H (fun v _ => v = .bl true) E := spScript_at hl hS
theorem all_mk {l : PySem.W.OpenLaw} {w : World} {K : PySem.W.Frag} {h : Heap} {mg : Str → Option Value} {fa : Addr} (X : K.In h) (G : h.Ns mainGlobals mg) (hfa : mg "law" = some (.ref fa))
    {C0 : Addr}
    {X_ServeError : Addr}
    {X_InvalidNumber : Addr}
    {X_InvalidLetter : Addr}
    {X_NoHouse : Addr}
    {X_NoRequest : Addr}
    {X_NoRoom : Addr}
    {X_NotAlone : Addr}
    {X_NotHeld : Addr}
    {X_TooLarge : Addr}
    {f1 : Addr} {oc1 kV1 dc1 pm1 cd1 ct1 : Value} {od1 an1 : Option Addr} {sl1 : Array (Option Value)}
    {nm1 q1 : Str} {N1 : Addr} {bs1 : List Value} {sn1 : List Str} {sub1 : List Value} {ab1 : Bool} {col1 : Option Bool} {dd1 : Option Addr} {m01 m11 m21 m31 m51 : Option Value}
    {f2 : Addr} {oc2 kV2 dc2 pm2 cd2 ct2 : Value} {od2 an2 : Option Addr} {sl2 : Array (Option Value)}
    {nm2 q2 : Str} {N2 : Addr} {bs2 : List Value} {sn2 : List Str} {sub2 : List Value} {ab2 : Bool} {col2 : Option Bool} {dd2 : Option Addr} {m02 m12 m22 m32 m52 : Option Value}
    {f3 : Addr} {oc3 kV3 dc3 pm3 cd3 ct3 : Value} {od3 an3 : Option Addr} {sl3 : Array (Option Value)}
    {nm3 q3 : Str} {N3 : Addr} {bs3 : List Value} {sn3 : List Str} {sub3 : List Value} {ab3 : Bool} {col3 : Option Bool} {dd3 : Option Addr} {m03 m13 m23 m33 m53 : Option Value}
    {f4 : Addr} {oc4 kV4 dc4 pm4 cd4 ct4 : Value} {od4 an4 : Option Addr} {sl4 : Array (Option Value)}
    {nm4 q4 : Str} {N4 : Addr} {bs4 : List Value} {sn4 : List Str} {sub4 : List Value} {ab4 : Bool} {col4 : Option Bool} {dd4 : Option Addr} {m04 m14 m24 m34 m54 : Option Value}
    {tk_MOST_BLOCKS : _}
    {tk_MOST_ROWS : _}
    {f5 : Addr} {oc5 kV5 dc5 pm5 cd5 ct5 : Value} {od5 an5 : Option Addr} {sl5 : Array (Option Value)}
    {f6 : Addr} {oc6 kV6 dc6 pm6 cd6 ct6 : Value} {od6 an6 : Option Addr} {sl6 : Array (Option Value)}
    {f7 : Addr} {oc7 kV7 dc7 pm7 cd7 ct7 : Value} {od7 an7 : Option Addr} {sl7 : Array (Option Value)}
    {f8 : Addr} {oc8 kV8 dc8 pm8 cd8 ct8 : Value} {od8 an8 : Option Addr} {sl8 : Array (Option Value)}
    {pp8 : Addr} {rs8 : List Value}
    {f9 : Addr} {oc9 kV9 dc9 pm9 cd9 ct9 : Value} {od9 an9 : Option Addr} {sl9 : Array (Option Value)}
    {f10 : Addr} {oc10 kV10 dc10 pm10 cd10 ct10 : Value} {od10 an10 : Option Addr} {sl10 : Array (Option Value)}
    {f11 : Addr} {oc11 kV11 dc11 pm11 cd11 ct11 : Value} {od11 an11 : Option Addr} {sl11 : Array (Option Value)}
    {f12 : Addr} {oc12 kV12 dc12 pm12 cd12 ct12 : Value} {od12 an12 : Option Addr} {sl12 : Array (Option Value)}
    {f13 : Addr} {oc13 kV13 dc13 pm13 cd13 ct13 : Value} {od13 an13 : Option Addr} {sl13 : Array (Option Value)}
    {f14 : Addr} {oc14 kV14 dc14 pm14 cd14 ct14 : Value} {od14 an14 : Option Addr} {sl14 : Array (Option Value)}
    {f15 : Addr} {oc15 kV15 dc15 pm15 cd15 ct15 : Value} {od15 an15 : Option Addr} {sl15 : Array (Option Value)}
    {f16 : Addr} {oc16 kV16 dc16 pm16 cd16 ct16 : Value} {od16 an16 : Option Addr} {sl16 : Array (Option Value)}
    {f17 : Addr} {oc17 kV17 dc17 pm17 cd17 ct17 : Value} {od17 an17 : Option Addr} {sl17 : Array (Option Value)}
    {f18 : Addr} {oc18 kV18 dc18 pm18 cd18 ct18 : Value} {od18 an18 : Option Addr} {sl18 : Array (Option Value)}
    {f19 : Addr} {oc19 kV19 dc19 pm19 cd19 ct19 : Value} {od19 an19 : Option Addr} {sl19 : Array (Option Value)}
    {f20 : Addr} {oc20 kV20 dc20 pm20 cd20 ct20 : Value} {od20 an20 : Option Addr} {sl20 : Array (Option Value)}
    {f21 : Addr} {oc21 kV21 dc21 pm21 cd21 ct21 : Value} {od21 an21 : Option Addr} {sl21 : Array (Option Value)}
    {f22 : Addr} {oc22 kV22 dc22 pm22 cd22 ct22 : Value} {od22 an22 : Option Addr} {sl22 : Array (Option Value)}
    {f23 : Addr} {oc23 kV23 dc23 pm23 cd23 ct23 : Value} {od23 an23 : Option Addr} {sl23 : Array (Option Value)}
    {f24 : Addr} {oc24 kV24 dc24 pm24 cd24 ct24 : Value} {od24 an24 : Option Addr} {sl24 : Array (Option Value)}
    {f25 : Addr} {oc25 kV25 dc25 pm25 cd25 ct25 : Value} {od25 an25 : Option Addr} {sl25 : Array (Option Value)}
    {f26 : Addr} {oc26 kV26 dc26 pm26 cd26 ct26 : Value} {od26 an26 : Option Addr} {sl26 : Array (Option Value)}
    {f27 : Addr} {oc27 kV27 dc27 pm27 cd27 ct27 : Value} {od27 an27 : Option Addr} {sl27 : Array (Option Value)}
    {f28 : Addr} {oc28 kV28 dc28 pm28 cd28 ct28 : Value} {od28 an28 : Option Addr} {sl28 : Array (Option Value)}
    {f29 : Addr} {oc29 kV29 dc29 pm29 cd29 ct29 : Value} {od29 an29 : Option Addr} {sl29 : Array (Option Value)}
    {f30 : Addr} {oc30 kV30 dc30 pm30 cd30 ct30 : Value} {od30 an30 : Option Addr} {sl30 : Array (Option Value)}
    {f31 : Addr} {oc31 kV31 dc31 pm31 cd31 ct31 : Value} {od31 an31 : Option Addr} {sl31 : Array (Option Value)}
    {f32 : Addr} {oc32 kV32 dc32 pm32 cd32 ct32 : Value} {od32 an32 : Option Addr} {sl32 : Array (Option Value)}
    {f33 : Addr} {oc33 kV33 dc33 pm33 cd33 ct33 : Value} {od33 an33 : Option Addr} {sl33 : Array (Option Value)}
    {f34 : Addr} {oc34 kV34 dc34 pm34 cd34 ct34 : Value} {od34 an34 : Option Addr} {sl34 : Array (Option Value)}
    {f35 : Addr} {oc35 kV35 dc35 pm35 cd35 ct35 : Value} {od35 an35 : Option Addr} {sl35 : Array (Option Value)}
    {f36 : Addr} {oc36 kV36 dc36 pm36 cd36 ct36 : Value} {od36 an36 : Option Addr} {sl36 : Array (Option Value)}
    {f37 : Addr} {oc37 kV37 dc37 pm37 cd37 ct37 : Value} {od37 an37 : Option Addr} {sl37 : Array (Option Value)}
    {f38 : Addr} {oc38 kV38 dc38 pm38 cd38 ct38 : Value} {od38 an38 : Option Addr} {sl38 : Array (Option Value)}
    {f39 : Addr} {oc39 kV39 dc39 pm39 cd39 ct39 : Value} {od39 an39 : Option Addr} {sl39 : Array (Option Value)}
    {f40 : Addr} {oc40 kV40 dc40 pm40 cd40 ct40 : Value} {od40 an40 : Option Addr} {sl40 : Array (Option Value)}
    {f41 : Addr} {oc41 kV41 dc41 pm41 cd41 ct41 : Value} {od41 an41 : Option Addr} {sl41 : Array (Option Value)}
    (aC0 : PySem.W.nsIn K mainGlobals "Store" = some (some (.ref C0)))
    (aX_ServeError : PySem.W.nsIn K mainGlobals "ServeError" = some (some (.ref X_ServeError)))
    (aX_InvalidNumber : PySem.W.nsIn K mainGlobals "InvalidNumber" = some (some (.ref X_InvalidNumber)))
    (aX_InvalidLetter : PySem.W.nsIn K mainGlobals "InvalidLetter" = some (some (.ref X_InvalidLetter)))
    (aX_NoHouse : PySem.W.nsIn K mainGlobals "NoHouse" = some (some (.ref X_NoHouse)))
    (aX_NoRequest : PySem.W.nsIn K mainGlobals "NoRequest" = some (some (.ref X_NoRequest)))
    (aX_NoRoom : PySem.W.nsIn K mainGlobals "NoRoom" = some (some (.ref X_NoRoom)))
    (aX_NotAlone : PySem.W.nsIn K mainGlobals "NotAlone" = some (some (.ref X_NotAlone)))
    (aX_NotHeld : PySem.W.nsIn K mainGlobals "NotHeld" = some (some (.ref X_NotHeld)))
    (aX_TooLarge : PySem.W.nsIn K mainGlobals "TooLarge" = some (some (.ref X_TooLarge)))
    (xL1 : K.lookup X_InvalidNumber = some (excClassObj nm1 q1 X_InvalidNumber N1 bs1 [.ref X_ServeError, .type "ValueError", .type "Exception", .type "BaseException", .type "object"] true sn1 sub1 ab1 col1 dd1 m01 m11 m21 m31 m51 "ValueError.__new__"))
    (saX_InvalidNumber : PySem.W.findIn K (.ref X_InvalidNumber) "__setattr__" = some (some (.builtin "object.__setattr__")))
    (kcX_InvalidNumber : PySem.W.keepIn K (.ref X_InvalidNumber) = true)
    (iX_InvalidNumber : PySem.W.findIn K (.ref X_InvalidNumber) "__init__" = some (some (.ref f1)))
    (tfX_InvalidNumber : PySem.W.typeIn K (.ref f1) = some (.type "function"))
    (l1 : K.lookup f1 = some ⟨oc1, od1, .func (PySem.W.fnOf "__init__" "InvalidNumber.__init__" (defArgs (inClass (topS 2) 0)) (defBody (inClass (topS 2) 0)) (defScope (inClass (topS 2) 0)) .none kV1 dc1 pm1 an1 cd1 ct1), sl1⟩)
    (c1 : PySem.W.codeIn K cd1 "InvalidNumber.__init__" = true)
    (k1 : PySem.W.keepIn K (.ref f1) = true)
    (eX_InvalidNumber : PySem.W.subIn K (.ref X_InvalidNumber) (.type "BaseException") = some true)
    (tX_InvalidNumber : PySem.W.typeIn K (.ref X_InvalidNumber) = some (.type "type"))
    (nfX_InvalidNumber_number : PySem.W.findIn K (.ref X_InvalidNumber) "number" = some none)
    (xL2 : K.lookup X_NoRoom = some (excClassObj nm2 q2 X_NoRoom N2 bs2 [.ref X_ServeError, .type "ValueError", .type "Exception", .type "BaseException", .type "object"] true sn2 sub2 ab2 col2 dd2 m02 m12 m22 m32 m52 "ValueError.__new__"))
    (saX_NoRoom : PySem.W.findIn K (.ref X_NoRoom) "__setattr__" = some (some (.builtin "object.__setattr__")))
    (kcX_NoRoom : PySem.W.keepIn K (.ref X_NoRoom) = true)
    (iX_NoRoom : PySem.W.findIn K (.ref X_NoRoom) "__init__" = some (some (.ref f2)))
    (tfX_NoRoom : PySem.W.typeIn K (.ref f2) = some (.type "function"))
    (l2 : K.lookup f2 = some ⟨oc2, od2, .func (PySem.W.fnOf "__init__" "NoRoom.__init__" (defArgs (inClass (topS 4) 0)) (defBody (inClass (topS 4) 0)) (defScope (inClass (topS 4) 0)) .none kV2 dc2 pm2 an2 cd2 ct2), sl2⟩)
    (c2 : PySem.W.codeIn K cd2 "NoRoom.__init__" = true)
    (k2 : PySem.W.keepIn K (.ref f2) = true)
    (eX_NoRoom : PySem.W.subIn K (.ref X_NoRoom) (.type "BaseException") = some true)
    (tX_NoRoom : PySem.W.typeIn K (.ref X_NoRoom) = some (.type "type"))
    (nfX_NoRoom_many : PySem.W.findIn K (.ref X_NoRoom) "many" = some none)
    (xL3 : K.lookup X_NotAlone = some (excClassObj nm3 q3 X_NotAlone N3 bs3 [.ref X_ServeError, .type "ValueError", .type "Exception", .type "BaseException", .type "object"] true sn3 sub3 ab3 col3 dd3 m03 m13 m23 m33 m53 "ValueError.__new__"))
    (saX_NotAlone : PySem.W.findIn K (.ref X_NotAlone) "__setattr__" = some (some (.builtin "object.__setattr__")))
    (kcX_NotAlone : PySem.W.keepIn K (.ref X_NotAlone) = true)
    (iX_NotAlone : PySem.W.findIn K (.ref X_NotAlone) "__init__" = some (some (.ref f3)))
    (tfX_NotAlone : PySem.W.typeIn K (.ref f3) = some (.type "function"))
    (l3 : K.lookup f3 = some ⟨oc3, od3, .func (PySem.W.fnOf "__init__" "NotAlone.__init__" (defArgs (inClass (topS 6) 0)) (defBody (inClass (topS 6) 0)) (defScope (inClass (topS 6) 0)) .none kV3 dc3 pm3 an3 cd3 ct3), sl3⟩)
    (c3 : PySem.W.codeIn K cd3 "NotAlone.__init__" = true)
    (k3 : PySem.W.keepIn K (.ref f3) = true)
    (eX_NotAlone : PySem.W.subIn K (.ref X_NotAlone) (.type "BaseException") = some true)
    (tX_NotAlone : PySem.W.typeIn K (.ref X_NotAlone) = some (.type "type"))
    (nfX_NotAlone_block : PySem.W.findIn K (.ref X_NotAlone) "block" = some none)
    (xL4 : K.lookup X_NotHeld = some (excClassObj nm4 q4 X_NotHeld N4 bs4 [.ref X_ServeError, .type "ValueError", .type "Exception", .type "BaseException", .type "object"] true sn4 sub4 ab4 col4 dd4 m04 m14 m24 m34 m54 "ValueError.__new__"))
    (saX_NotHeld : PySem.W.findIn K (.ref X_NotHeld) "__setattr__" = some (some (.builtin "object.__setattr__")))
    (kcX_NotHeld : PySem.W.keepIn K (.ref X_NotHeld) = true)
    (iX_NotHeld : PySem.W.findIn K (.ref X_NotHeld) "__init__" = some (some (.ref f4)))
    (tfX_NotHeld : PySem.W.typeIn K (.ref f4) = some (.type "function"))
    (l4 : K.lookup f4 = some ⟨oc4, od4, .func (PySem.W.fnOf "__init__" "NotHeld.__init__" (defArgs (inClass (topS 5) 0)) (defBody (inClass (topS 5) 0)) (defScope (inClass (topS 5) 0)) .none kV4 dc4 pm4 an4 cd4 ct4), sl4⟩)
    (c4 : PySem.W.codeIn K cd4 "NotHeld.__init__" = true)
    (k4 : PySem.W.keepIn K (.ref f4) = true)
    (eX_NotHeld : PySem.W.subIn K (.ref X_NotHeld) (.type "BaseException") = some true)
    (tX_NotHeld : PySem.W.typeIn K (.ref X_NotHeld) = some (.type "type"))
    (nfX_NotHeld_block : PySem.W.findIn K (.ref X_NotHeld) "block" = some none)
    (cn_MOST_BLOCKS : PySem.W.nsIn K mainGlobals "MOST_BLOCKS" = some (some (Value.int (60) tk_MOST_BLOCKS)))
    (cn_MOST_ROWS : PySem.W.nsIn K mainGlobals "MOST_ROWS" = some (some (Value.int (8) tk_MOST_ROWS)))
    (eX_ServeError : PySem.W.subIn K (.ref X_ServeError) (.type "BaseException") = some true)
    (icX_ServeError : PySem.W.isClsIn K X_ServeError = true)
    (tX_ServeError : PySem.W.typeIn K (.ref X_ServeError) = some (.type "type"))
    (sub_InvalidNumber_ServeError : PySem.W.subIn K (.ref X_InvalidNumber) (.ref X_ServeError) = some true)
    (ne_InvalidNumber_NoRoom : X_InvalidNumber ≠ X_NoRoom)
    (icX_NoRoom : PySem.W.isClsIn K X_NoRoom = true)
    (sub_InvalidNumber_NoRoom : PySem.W.subIn K (.ref X_InvalidNumber) (.ref X_NoRoom) = some false)
    (ne_InvalidNumber_NotAlone : X_InvalidNumber ≠ X_NotAlone)
    (icX_NotAlone : PySem.W.isClsIn K X_NotAlone = true)
    (sub_InvalidNumber_NotAlone : PySem.W.subIn K (.ref X_InvalidNumber) (.ref X_NotAlone) = some false)
    (ne_InvalidNumber_NotHeld : X_InvalidNumber ≠ X_NotHeld)
    (icX_NotHeld : PySem.W.isClsIn K X_NotHeld = true)
    (sub_InvalidNumber_NotHeld : PySem.W.subIn K (.ref X_InvalidNumber) (.ref X_NotHeld) = some false)
    (ne_InvalidNumber_TooLarge : X_InvalidNumber ≠ X_TooLarge)
    (icX_TooLarge : PySem.W.isClsIn K X_TooLarge = true)
    (tX_TooLarge : PySem.W.typeIn K (.ref X_TooLarge) = some (.type "type"))
    (sub_InvalidNumber_TooLarge : PySem.W.subIn K (.ref X_InvalidNumber) (.ref X_TooLarge) = some false)
    (ne_InvalidNumber_NoRequest : X_InvalidNumber ≠ X_NoRequest)
    (icX_NoRequest : PySem.W.isClsIn K X_NoRequest = true)
    (tX_NoRequest : PySem.W.typeIn K (.ref X_NoRequest) = some (.type "type"))
    (sub_InvalidNumber_NoRequest : PySem.W.subIn K (.ref X_InvalidNumber) (.ref X_NoRequest) = some false)
    (ne_InvalidNumber_NoHouse : X_InvalidNumber ≠ X_NoHouse)
    (icX_NoHouse : PySem.W.isClsIn K X_NoHouse = true)
    (tX_NoHouse : PySem.W.typeIn K (.ref X_NoHouse) = some (.type "type"))
    (sub_InvalidNumber_NoHouse : PySem.W.subIn K (.ref X_InvalidNumber) (.ref X_NoHouse) = some false)
    (ne_InvalidNumber_InvalidLetter : X_InvalidNumber ≠ X_InvalidLetter)
    (icX_InvalidLetter : PySem.W.isClsIn K X_InvalidLetter = true)
    (tX_InvalidLetter : PySem.W.typeIn K (.ref X_InvalidLetter) = some (.type "type"))
    (sub_InvalidNumber_InvalidLetter : PySem.W.subIn K (.ref X_InvalidNumber) (.ref X_InvalidLetter) = some false)
    (subB_InvalidNumber_ValueError : PySem.W.subIn K (.ref X_InvalidNumber) (.type "ValueError") = some true)
    (caX_InvalidNumber : PySem.W.findIn K (.ref X_InvalidNumber) "__class__" = some (some (.builtin "object.__class__")))
    (cgX : PySem.W.specialIn K (.builtin "object.__class__") "__get__" = some (some (.builtin "getset_descriptor.__get__")))
    (ctX : PySem.W.takesIn K (.builtin "object.__class__") = some true)
    (moX_InvalidNumber : PySem.W.mroIn K X_InvalidNumber (.type "object") = some true)
    (icX_InvalidNumber : PySem.W.isClsIn K X_InvalidNumber = true)
    (gaX_InvalidNumber : PySem.W.findIn K (.ref X_InvalidNumber) "__getattribute__" = some (some (.builtin "BaseException.__getattribute__")))
    (ggX_InvalidNumber : PySem.W.findIn K (.ref X_InvalidNumber) "__getattr__" = some none)
    (hdX_InvalidNumber : PySem.W.hasDictIn K X_InvalidNumber = true)
    (sub_NoRoom_ServeError : PySem.W.subIn K (.ref X_NoRoom) (.ref X_ServeError) = some true)
    (ne_NoRoom_InvalidNumber : X_NoRoom ≠ X_InvalidNumber)
    (sub_NoRoom_InvalidNumber : PySem.W.subIn K (.ref X_NoRoom) (.ref X_InvalidNumber) = some false)
    (ne_NoRoom_NotAlone : X_NoRoom ≠ X_NotAlone)
    (sub_NoRoom_NotAlone : PySem.W.subIn K (.ref X_NoRoom) (.ref X_NotAlone) = some false)
    (ne_NoRoom_NotHeld : X_NoRoom ≠ X_NotHeld)
    (sub_NoRoom_NotHeld : PySem.W.subIn K (.ref X_NoRoom) (.ref X_NotHeld) = some false)
    (ne_NoRoom_TooLarge : X_NoRoom ≠ X_TooLarge)
    (sub_NoRoom_TooLarge : PySem.W.subIn K (.ref X_NoRoom) (.ref X_TooLarge) = some false)
    (ne_NoRoom_NoRequest : X_NoRoom ≠ X_NoRequest)
    (sub_NoRoom_NoRequest : PySem.W.subIn K (.ref X_NoRoom) (.ref X_NoRequest) = some false)
    (ne_NoRoom_NoHouse : X_NoRoom ≠ X_NoHouse)
    (sub_NoRoom_NoHouse : PySem.W.subIn K (.ref X_NoRoom) (.ref X_NoHouse) = some false)
    (ne_NoRoom_InvalidLetter : X_NoRoom ≠ X_InvalidLetter)
    (sub_NoRoom_InvalidLetter : PySem.W.subIn K (.ref X_NoRoom) (.ref X_InvalidLetter) = some false)
    (subB_NoRoom_ValueError : PySem.W.subIn K (.ref X_NoRoom) (.type "ValueError") = some true)
    (caX_NoRoom : PySem.W.findIn K (.ref X_NoRoom) "__class__" = some (some (.builtin "object.__class__")))
    (moX_NoRoom : PySem.W.mroIn K X_NoRoom (.type "object") = some true)
    (gaX_NoRoom : PySem.W.findIn K (.ref X_NoRoom) "__getattribute__" = some (some (.builtin "BaseException.__getattribute__")))
    (ggX_NoRoom : PySem.W.findIn K (.ref X_NoRoom) "__getattr__" = some none)
    (hdX_NoRoom : PySem.W.hasDictIn K X_NoRoom = true)
    (sub_NotAlone_ServeError : PySem.W.subIn K (.ref X_NotAlone) (.ref X_ServeError) = some true)
    (ne_NotAlone_InvalidNumber : X_NotAlone ≠ X_InvalidNumber)
    (sub_NotAlone_InvalidNumber : PySem.W.subIn K (.ref X_NotAlone) (.ref X_InvalidNumber) = some false)
    (ne_NotAlone_NoRoom : X_NotAlone ≠ X_NoRoom)
    (sub_NotAlone_NoRoom : PySem.W.subIn K (.ref X_NotAlone) (.ref X_NoRoom) = some false)
    (ne_NotAlone_NotHeld : X_NotAlone ≠ X_NotHeld)
    (sub_NotAlone_NotHeld : PySem.W.subIn K (.ref X_NotAlone) (.ref X_NotHeld) = some false)
    (ne_NotAlone_TooLarge : X_NotAlone ≠ X_TooLarge)
    (sub_NotAlone_TooLarge : PySem.W.subIn K (.ref X_NotAlone) (.ref X_TooLarge) = some false)
    (ne_NotAlone_NoRequest : X_NotAlone ≠ X_NoRequest)
    (sub_NotAlone_NoRequest : PySem.W.subIn K (.ref X_NotAlone) (.ref X_NoRequest) = some false)
    (ne_NotAlone_NoHouse : X_NotAlone ≠ X_NoHouse)
    (sub_NotAlone_NoHouse : PySem.W.subIn K (.ref X_NotAlone) (.ref X_NoHouse) = some false)
    (ne_NotAlone_InvalidLetter : X_NotAlone ≠ X_InvalidLetter)
    (sub_NotAlone_InvalidLetter : PySem.W.subIn K (.ref X_NotAlone) (.ref X_InvalidLetter) = some false)
    (subB_NotAlone_ValueError : PySem.W.subIn K (.ref X_NotAlone) (.type "ValueError") = some true)
    (caX_NotAlone : PySem.W.findIn K (.ref X_NotAlone) "__class__" = some (some (.builtin "object.__class__")))
    (moX_NotAlone : PySem.W.mroIn K X_NotAlone (.type "object") = some true)
    (gaX_NotAlone : PySem.W.findIn K (.ref X_NotAlone) "__getattribute__" = some (some (.builtin "BaseException.__getattribute__")))
    (ggX_NotAlone : PySem.W.findIn K (.ref X_NotAlone) "__getattr__" = some none)
    (hdX_NotAlone : PySem.W.hasDictIn K X_NotAlone = true)
    (sub_NotHeld_ServeError : PySem.W.subIn K (.ref X_NotHeld) (.ref X_ServeError) = some true)
    (ne_NotHeld_InvalidNumber : X_NotHeld ≠ X_InvalidNumber)
    (sub_NotHeld_InvalidNumber : PySem.W.subIn K (.ref X_NotHeld) (.ref X_InvalidNumber) = some false)
    (ne_NotHeld_NoRoom : X_NotHeld ≠ X_NoRoom)
    (sub_NotHeld_NoRoom : PySem.W.subIn K (.ref X_NotHeld) (.ref X_NoRoom) = some false)
    (ne_NotHeld_NotAlone : X_NotHeld ≠ X_NotAlone)
    (sub_NotHeld_NotAlone : PySem.W.subIn K (.ref X_NotHeld) (.ref X_NotAlone) = some false)
    (ne_NotHeld_TooLarge : X_NotHeld ≠ X_TooLarge)
    (sub_NotHeld_TooLarge : PySem.W.subIn K (.ref X_NotHeld) (.ref X_TooLarge) = some false)
    (ne_NotHeld_NoRequest : X_NotHeld ≠ X_NoRequest)
    (sub_NotHeld_NoRequest : PySem.W.subIn K (.ref X_NotHeld) (.ref X_NoRequest) = some false)
    (ne_NotHeld_NoHouse : X_NotHeld ≠ X_NoHouse)
    (sub_NotHeld_NoHouse : PySem.W.subIn K (.ref X_NotHeld) (.ref X_NoHouse) = some false)
    (ne_NotHeld_InvalidLetter : X_NotHeld ≠ X_InvalidLetter)
    (sub_NotHeld_InvalidLetter : PySem.W.subIn K (.ref X_NotHeld) (.ref X_InvalidLetter) = some false)
    (subB_NotHeld_ValueError : PySem.W.subIn K (.ref X_NotHeld) (.type "ValueError") = some true)
    (caX_NotHeld : PySem.W.findIn K (.ref X_NotHeld) "__class__" = some (some (.builtin "object.__class__")))
    (moX_NotHeld : PySem.W.mroIn K X_NotHeld (.type "object") = some true)
    (gaX_NotHeld : PySem.W.findIn K (.ref X_NotHeld) "__getattribute__" = some (some (.builtin "BaseException.__getattribute__")))
    (ggX_NotHeld : PySem.W.findIn K (.ref X_NotHeld) "__getattr__" = some none)
    (hdX_NotHeld : PySem.W.hasDictIn K X_NotHeld = true)
    (a5 : PySem.W.nsIn K mainGlobals "is_between" = some (some (.ref f5)))
    (l5 : K.lookup f5 = some ⟨oc5, od5, .func (PySem.W.fnOf "is_between" "is_between" (defArgs s_is_between) (defBody s_is_between) (defScope s_is_between) .none kV5 dc5 pm5 an5 cd5 ct5), sl5⟩)
    (c5 : PySem.W.codeIn K cd5 "is_between" = true)
    (k5 : PySem.W.keepIn K (.ref f5) = true)
    (a6 : PySem.W.nsIn K mainGlobals "own_row" = some (some (.ref f6)))
    (l6 : K.lookup f6 = some ⟨oc6, od6, .func (PySem.W.fnOf "own_row" "own_row" (defArgs s_own_row) (defBody s_own_row) (defScope s_own_row) .none kV6 dc6 pm6 an6 cd6 ct6), sl6⟩)
    (c6 : PySem.W.codeIn K cd6 "own_row" = true)
    (k6 : PySem.W.keepIn K (.ref f6) = true)
    (a7 : PySem.W.findIn K (.ref C0) "__init__" = some (some (.ref f7)))
    (i7 : PySem.W.isFn K (.ref f7) = true)
    (l7 : K.lookup f7 = some ⟨oc7, od7, .func (PySem.W.fnOf "__init__" "Store.__init__" (defArgs s_Store_init) (defBody s_Store_init) (defScope s_Store_init) .none kV7 dc7 pm7 an7 cd7 ct7), sl7⟩)
    (c7 : PySem.W.codeIn K cd7 "Store.__init__" = true)
    (k7 : PySem.W.keepIn K (.ref f7) = true)
    (a8 : PySem.W.findIn K (.ref C0) "free" = some (some (.ref pp8)))
    (pg8 : PySem.W.specialIn K (.ref pp8) "__get__" = some (some (.builtin "property.__get__")))
    (pt8 : PySem.W.takesIn K (.ref pp8) = some true)
    (pc8 : PySem.W.recIn K pp8 "property" = some (.ref f8 :: rs8))
    (l8 : K.lookup f8 = some ⟨oc8, od8, .func (PySem.W.fnOf "free" "Store.free" (defArgs s_Store_free) (defBody s_Store_free) (defScope s_Store_free) .none kV8 dc8 pm8 an8 cd8 ct8), sl8⟩)
    (c8 : PySem.W.codeIn K cd8 "Store.free" = true)
    (k8 : PySem.W.keepIn K (.ref f8) = true)
    (a9 : PySem.W.findIn K (.ref C0) "check_held" = some (some (.ref f9)))
    (i9 : PySem.W.isFn K (.ref f9) = true)
    (l9 : K.lookup f9 = some ⟨oc9, od9, .func (PySem.W.fnOf "check_held" "Store.check_held" (defArgs s_Store_check_held) (defBody s_Store_check_held) (defScope s_Store_check_held) .none kV9 dc9 pm9 an9 cd9 ct9), sl9⟩)
    (c9 : PySem.W.codeIn K cd9 "Store.check_held" = true)
    (k9 : PySem.W.keepIn K (.ref f9) = true)
    (a10 : PySem.W.findIn K (.ref C0) "check_alone" = some (some (.ref f10)))
    (i10 : PySem.W.isFn K (.ref f10) = true)
    (l10 : K.lookup f10 = some ⟨oc10, od10, .func (PySem.W.fnOf "check_alone" "Store.check_alone" (defArgs s_Store_check_alone) (defBody s_Store_check_alone) (defScope s_Store_check_alone) .none kV10 dc10 pm10 an10 cd10 ct10), sl10⟩)
    (c10 : PySem.W.codeIn K cd10 "Store.check_alone" = true)
    (k10 : PySem.W.keepIn K (.ref f10) = true)
    (a11 : PySem.W.findIn K (.ref C0) "take" = some (some (.ref f11)))
    (i11 : PySem.W.isFn K (.ref f11) = true)
    (l11 : K.lookup f11 = some ⟨oc11, od11, .func (PySem.W.fnOf "take" "Store.take" (defArgs s_Store_take) (defBody s_Store_take) (defScope s_Store_take) .none kV11 dc11 pm11 an11 cd11 ct11), sl11⟩)
    (c11 : PySem.W.codeIn K cd11 "Store.take" = true)
    (k11 : PySem.W.keepIn K (.ref f11) = true)
    (a12 : PySem.W.findIn K (.ref C0) "hold" = some (some (.ref f12)))
    (i12 : PySem.W.isFn K (.ref f12) = true)
    (l12 : K.lookup f12 = some ⟨oc12, od12, .func (PySem.W.fnOf "hold" "Store.hold" (defArgs s_Store_hold) (defBody s_Store_hold) (defScope s_Store_hold) .none kV12 dc12 pm12 an12 cd12 ct12), sl12⟩)
    (c12 : PySem.W.codeIn K cd12 "Store.hold" = true)
    (k12 : PySem.W.keepIn K (.ref f12) = true)
    (a13 : PySem.W.findIn K (.ref C0) "release" = some (some (.ref f13)))
    (i13 : PySem.W.isFn K (.ref f13) = true)
    (l13 : K.lookup f13 = some ⟨oc13, od13, .func (PySem.W.fnOf "release" "Store.release" (defArgs s_Store_release) (defBody s_Store_release) (defScope s_Store_release) .none kV13 dc13 pm13 an13 cd13 ct13), sl13⟩)
    (c13 : PySem.W.codeIn K cd13 "Store.release" = true)
    (k13 : PySem.W.keepIn K (.ref f13) = true)
    (a14 : PySem.W.findIn K (.ref C0) "put_row" = some (some (.ref f14)))
    (i14 : PySem.W.isFn K (.ref f14) = true)
    (l14 : K.lookup f14 = some ⟨oc14, od14, .func (PySem.W.fnOf "put_row" "Store.put_row" (defArgs s_Store_put_row) (defBody s_Store_put_row) (defScope s_Store_put_row) .none kV14 dc14 pm14 an14 cd14 ct14), sl14⟩)
    (c14 : PySem.W.codeIn K cd14 "Store.put_row" = true)
    (k14 : PySem.W.keepIn K (.ref f14) = true)
    (a15 : PySem.W.findIn K (.ref C0) "shorten" = some (some (.ref f15)))
    (i15 : PySem.W.isFn K (.ref f15) = true)
    (l15 : K.lookup f15 = some ⟨oc15, od15, .func (PySem.W.fnOf "shorten" "Store.shorten" (defArgs s_Store_shorten) (defBody s_Store_shorten) (defScope s_Store_shorten) .none kV15 dc15 pm15 an15 cd15 ct15), sl15⟩)
    (c15 : PySem.W.codeIn K cd15 "Store.shorten" = true)
    (k15 : PySem.W.keepIn K (.ref f15) = true)
    (a16 : PySem.W.findIn K (.ref C0) "rows" = some (some (.ref f16)))
    (i16 : PySem.W.isFn K (.ref f16) = true)
    (l16 : K.lookup f16 = some ⟨oc16, od16, .func (PySem.W.fnOf "rows" "Store.rows" (defArgs s_Store_rows) (defBody s_Store_rows) (defScope s_Store_rows) .none kV16 dc16 pm16 an16 cd16 ct16), sl16⟩)
    (c16 : PySem.W.codeIn K cd16 "Store.rows" = true)
    (k16 : PySem.W.keepIn K (.ref f16) = true)
    (a17 : PySem.W.findIn K (.ref C0) "holders" = some (some (.ref f17)))
    (i17 : PySem.W.isFn K (.ref f17) = true)
    (l17 : K.lookup f17 = some ⟨oc17, od17, .func (PySem.W.fnOf "holders" "Store.holders" (defArgs s_Store_holders) (defBody s_Store_holders) (defScope s_Store_holders) .none kV17 dc17 pm17 an17 cd17 ct17), sl17⟩)
    (c17 : PySem.W.codeIn K cd17 "Store.holders" = true)
    (k17 : PySem.W.keepIn K (.ref f17) = true)
    (a18 : PySem.W.nsIn K mainGlobals "_law_numbers" = some (some (.ref f18)))
    (l18 : K.lookup f18 = some ⟨oc18, od18, .func (PySem.W.fnOf "_law_numbers" "_law_numbers" (defArgs s__law_numbers) (defBody s__law_numbers) (defScope s__law_numbers) .none kV18 dc18 pm18 an18 cd18 ct18), sl18⟩)
    (c18 : PySem.W.codeIn K cd18 "_law_numbers" = true)
    (k18 : PySem.W.keepIn K (.ref f18) = true)
    (a19 : PySem.W.nsIn K mainGlobals "_law_same" = some (some (.ref f19)))
    (l19 : K.lookup f19 = some ⟨oc19, od19, .func (PySem.W.fnOf "_law_same" "_law_same" (defArgs s__law_same) (defBody s__law_same) (defScope s__law_same) .none kV19 dc19 pm19 an19 cd19 ct19), sl19⟩)
    (c19 : PySem.W.codeIn K cd19 "_law_same" = true)
    (k19 : PySem.W.keepIn K (.ref f19) = true)
    (a20 : PySem.W.nsIn K mainGlobals "_law_vector" = some (some (.ref f20)))
    (l20 : K.lookup f20 = some ⟨oc20, od20, .func (PySem.W.fnOf "_law_vector" "_law_vector" (defArgs s__law_vector) (defBody s__law_vector) (defScope s__law_vector) .none kV20 dc20 pm20 an20 cd20 ct20), sl20⟩)
    (c20 : PySem.W.codeIn K cd20 "_law_vector" = true)
    (k20 : PySem.W.keepIn K (.ref f20) = true)
    (a21 : PySem.W.nsIn K mainGlobals "_law_net" = some (some (.ref f21)))
    (l21 : K.lookup f21 = some ⟨oc21, od21, .func (PySem.W.fnOf "_law_net" "_law_net" (defArgs s__law_net) (defBody s__law_net) (defScope s__law_net) .none kV21 dc21 pm21 an21 cd21 ct21), sl21⟩)
    (c21 : PySem.W.codeIn K cd21 "_law_net" = true)
    (k21 : PySem.W.keepIn K (.ref f21) = true)
    (a22 : PySem.W.nsIn K mainGlobals "_law_dot" = some (some (.ref f22)))
    (l22 : K.lookup f22 = some ⟨oc22, od22, .func (PySem.W.fnOf "_law_dot" "_law_dot" (defArgs s__law_dot) (defBody s__law_dot) (defScope s__law_dot) .none kV22 dc22 pm22 an22 cd22 ct22), sl22⟩)
    (c22 : PySem.W.codeIn K cd22 "_law_dot" = true)
    (k22 : PySem.W.keepIn K (.ref f22) = true)
    (a23 : PySem.W.nsIn K mainGlobals "_law_times" = some (some (.ref f23)))
    (l23 : K.lookup f23 = some ⟨oc23, od23, .func (PySem.W.fnOf "_law_times" "_law_times" (defArgs s__law_times) (defBody s__law_times) (defScope s__law_times) .none kV23 dc23 pm23 an23 cd23 ct23), sl23⟩)
    (c23 : PySem.W.codeIn K cd23 "_law_times" = true)
    (k23 : PySem.W.keepIn K (.ref f23) = true)
    (a24 : PySem.W.nsIn K mainGlobals "_law_row" = some (some (.ref f24)))
    (l24 : K.lookup f24 = some ⟨oc24, od24, .func (PySem.W.fnOf "_law_row" "_law_row" (defArgs s__law_row) (defBody s__law_row) (defScope s__law_row) .none kV24 dc24 pm24 an24 cd24 ct24), sl24⟩)
    (c24 : PySem.W.codeIn K cd24 "_law_row" = true)
    (k24 : PySem.W.keepIn K (.ref f24) = true)
    (a25 : PySem.W.nsIn K mainGlobals "_law_some_rows" = some (some (.ref f25)))
    (l25 : K.lookup f25 = some ⟨oc25, od25, .func (PySem.W.fnOf "_law_some_rows" "_law_some_rows" (defArgs s__law_some_rows) (defBody s__law_some_rows) (defScope s__law_some_rows) .none kV25 dc25 pm25 an25 cd25 ct25), sl25⟩)
    (c25 : PySem.W.codeIn K cd25 "_law_some_rows" = true)
    (k25 : PySem.W.keepIn K (.ref f25) = true)
    (a26 : PySem.W.nsIn K mainGlobals "_law_lowest" = some (some (.ref f26)))
    (l26 : K.lookup f26 = some ⟨oc26, od26, .func (PySem.W.fnOf "_law_lowest" "_law_lowest" (defArgs s__law_lowest) (defBody s__law_lowest) (defScope s__law_lowest) .none kV26 dc26 pm26 an26 cd26 ct26), sl26⟩)
    (c26 : PySem.W.codeIn K cd26 "_law_lowest" = true)
    (k26 : PySem.W.keepIn K (.ref f26) = true)
    (a27 : PySem.W.nsIn K mainGlobals "_law_take" = some (some (.ref f27)))
    (l27 : K.lookup f27 = some ⟨oc27, od27, .func (PySem.W.fnOf "_law_take" "_law_take" (defArgs s__law_take) (defBody s__law_take) (defScope s__law_take) .none kV27 dc27 pm27 an27 cd27 ct27), sl27⟩)
    (c27 : PySem.W.codeIn K cd27 "_law_take" = true)
    (k27 : PySem.W.keepIn K (.ref f27) = true)
    (a28 : PySem.W.nsIn K mainGlobals "_law_release" = some (some (.ref f28)))
    (l28 : K.lookup f28 = some ⟨oc28, od28, .func (PySem.W.fnOf "_law_release" "_law_release" (defArgs s__law_release) (defBody s__law_release) (defScope s__law_release) .none kV28 dc28 pm28 an28 cd28 ct28), sl28⟩)
    (c28 : PySem.W.codeIn K cd28 "_law_release" = true)
    (k28 : PySem.W.keepIn K (.ref f28) = true)
    (a29 : PySem.W.nsIn K mainGlobals "_law_is_integer" = some (some (.ref f29)))
    (l29 : K.lookup f29 = some ⟨oc29, od29, .func (PySem.W.fnOf "_law_is_integer" "_law_is_integer" (defArgs s__law_is_integer) (defBody s__law_is_integer) (defScope s__law_is_integer) .none kV29 dc29 pm29 an29 cd29 ct29), sl29⟩)
    (c29 : PySem.W.codeIn K cd29 "_law_is_integer" = true)
    (k29 : PySem.W.keepIn K (.ref f29) = true)
    (a30 : PySem.W.nsIn K mainGlobals "_law_odd" = some (some (.ref f30)))
    (l30 : K.lookup f30 = some ⟨oc30, od30, .func (PySem.W.fnOf "_law_odd" "_law_odd" (defArgs s__law_odd) (defBody s__law_odd) (defScope s__law_odd) .none kV30 dc30 pm30 an30 cd30 ct30), sl30⟩)
    (c30 : PySem.W.codeIn K cd30 "_law_odd" = true)
    (k30 : PySem.W.keepIn K (.ref f30) = true)
    (a31 : PySem.W.nsIn K mainGlobals "_law_kinds" = some (some (.ref f31)))
    (l31 : K.lookup f31 = some ⟨oc31, od31, .func (PySem.W.fnOf "_law_kinds" "_law_kinds" (defArgs s__law_kinds) (defBody s__law_kinds) (defScope s__law_kinds) .none kV31 dc31 pm31 an31 cd31 ct31), sl31⟩)
    (c31 : PySem.W.codeIn K cd31 "_law_kinds" = true)
    (k31 : PySem.W.keepIn K (.ref f31) = true)
    (a32 : PySem.W.nsIn K mainGlobals "_law_call" = some (some (.ref f32)))
    (l32 : K.lookup f32 = some ⟨oc32, od32, .func (PySem.W.fnOf "_law_call" "_law_call" (defArgs s__law_call) (defBody s__law_call) (defScope s__law_call) .none kV32 dc32 pm32 an32 cd32 ct32), sl32⟩)
    (c32 : PySem.W.codeIn K cd32 "_law_call" = true)
    (k32 : PySem.W.keepIn K (.ref f32) = true)
    (a33 : PySem.W.nsIn K mainGlobals "_law_ask" = some (some (.ref f33)))
    (l33 : K.lookup f33 = some ⟨oc33, od33, .func (PySem.W.fnOf "_law_ask" "_law_ask" (defArgs s__law_ask) (defBody s__law_ask) (defScope s__law_ask) .none kV33 dc33 pm33 an33 cd33 ct33), sl33⟩)
    (c33 : PySem.W.codeIn K cd33 "_law_ask" = true)
    (k33 : PySem.W.keepIn K (.ref f33) = true)
    (a34 : PySem.W.nsIn K mainGlobals "_law_due" = some (some (.ref f34)))
    (l34 : K.lookup f34 = some ⟨oc34, od34, .func (PySem.W.fnOf "_law_due" "_law_due" (defArgs s__law_due) (defBody s__law_due) (defScope s__law_due) .none kV34 dc34 pm34 an34 cd34 ct34), sl34⟩)
    (c34 : PySem.W.codeIn K cd34 "_law_due" = true)
    (k34 : PySem.W.keepIn K (.ref f34) = true)
    (a35 : PySem.W.nsIn K mainGlobals "_law_stands" = some (some (.ref f35)))
    (l35 : K.lookup f35 = some ⟨oc35, od35, .func (PySem.W.fnOf "_law_stands" "_law_stands" (defArgs s__law_stands) (defBody s__law_stands) (defScope s__law_stands) .none kV35 dc35 pm35 an35 cd35 ct35), sl35⟩)
    (c35 : PySem.W.codeIn K cd35 "_law_stands" = true)
    (k35 : PySem.W.keepIn K (.ref f35) = true)
    (a36 : PySem.W.nsIn K mainGlobals "_law_listed" = some (some (.ref f36)))
    (l36 : K.lookup f36 = some ⟨oc36, od36, .func (PySem.W.fnOf "_law_listed" "_law_listed" (defArgs s__law_listed) (defBody s__law_listed) (defScope s__law_listed) .none kV36 dc36 pm36 an36 cd36 ct36), sl36⟩)
    (c36 : PySem.W.codeIn K cd36 "_law_listed" = true)
    (k36 : PySem.W.keepIn K (.ref f36) = true)
    (a37 : PySem.W.nsIn K mainGlobals "_law_spoilt" = some (some (.ref f37)))
    (l37 : K.lookup f37 = some ⟨oc37, od37, .func (PySem.W.fnOf "_law_spoilt" "_law_spoilt" (defArgs s__law_spoilt) (defBody s__law_spoilt) (defScope s__law_spoilt) .none kV37 dc37 pm37 an37 cd37 ct37), sl37⟩)
    (c37 : PySem.W.codeIn K cd37 "_law_spoilt" = true)
    (k37 : PySem.W.keepIn K (.ref f37) = true)
    (a38 : PySem.W.nsIn K mainGlobals "_law_hands" = some (some (.ref f38)))
    (l38 : K.lookup f38 = some ⟨oc38, od38, .func (PySem.W.fnOf "_law_hands" "_law_hands" (defArgs s__law_hands) (defBody s__law_hands) (defScope s__law_hands) .none kV38 dc38 pm38 an38 cd38 ct38), sl38⟩)
    (c38 : PySem.W.codeIn K cd38 "_law_hands" = true)
    (k38 : PySem.W.keepIn K (.ref f38) = true)
    (a39 : PySem.W.nsIn K mainGlobals "_law_free" = some (some (.ref f39)))
    (l39 : K.lookup f39 = some ⟨oc39, od39, .func (PySem.W.fnOf "_law_free" "_law_free" (defArgs s__law_free) (defBody s__law_free) (defScope s__law_free) .none kV39 dc39 pm39 an39 cd39 ct39), sl39⟩)
    (c39 : PySem.W.codeIn K cd39 "_law_free" = true)
    (k39 : PySem.W.keepIn K (.ref f39) = true)
    (a40 : PySem.W.nsIn K mainGlobals "_law_looks" = some (some (.ref f40)))
    (l40 : K.lookup f40 = some ⟨oc40, od40, .func (PySem.W.fnOf "_law_looks" "_law_looks" (defArgs s__law_looks) (defBody s__law_looks) (defScope s__law_looks) .none kV40 dc40 pm40 an40 cd40 ct40), sl40⟩)
    (c40 : PySem.W.codeIn K cd40 "_law_looks" = true)
    (k40 : PySem.W.keepIn K (.ref f40) = true)
    (a41 : PySem.W.nsIn K mainGlobals "law" = some (some (.ref f41)))
    (l41 : K.lookup f41 = some ⟨oc41, od41, .func (PySem.W.fnOf "law" "law" (defArgs s_law) (defBody s_law) (defScope s_law) .none kV41 dc41 pm41 an41 cd41 ct41), sl41⟩)
    (c41 : PySem.W.codeIn K cd41 "law" = true)
    (k41 : PySem.W.keepIn K (.ref f41) = true)
    (pgC0 : PySem.W.plainGet K C0 Str.empty = true)
    (hdC0 : PySem.W.hasDictIn K C0 = true)
    (poC0 : PySem.W.plainOver K C0 = true)
    (saC0 : PySem.W.findIn K (.ref C0) "__setattr__" = some (some (.builtin "object.__setattr__")))
    (mkC0 : PySem.W.makesIn K C0 = true)
    (kcC0 : PySem.W.keepIn K (.ref C0) = true)
    (z_ValueError : PySem.W.nsIn K mainGlobals "ValueError" = some none)
    (z_abs : PySem.W.nsIn K mainGlobals "abs" = some none)
    (z_bool : PySem.W.nsIn K mainGlobals "bool" = some none)
    (z_int : PySem.W.nsIn K mainGlobals "int" = some none)
    (z_isinstance : PySem.W.nsIn K mainGlobals "isinstance" = some none)
    (z_len : PySem.W.nsIn K mainGlobals "len" = some none)
    (z_list : PySem.W.nsIn K mainGlobals "list" = some none)
    (z_min : PySem.W.nsIn K mainGlobals "min" = some none)
    (z_range : PySem.W.nsIn K mainGlobals "range" = some none)
    (z_repr : PySem.W.nsIn K mainGlobals "repr" = some none)
    (z_str : PySem.W.nsIn K mainGlobals "str" = some none)
    (z_tuple : PySem.W.nsIn K mainGlobals "tuple" = some none)
    (na_Store_many : PySem.W.findIn K (.ref C0) "many" = some none)
    (na_Store_size : PySem.W.findIn K (.ref C0) "size" = some none)
    (na_Store_counts : PySem.W.findIn K (.ref C0) "counts" = some none)
    (na_Store_kept : PySem.W.findIn K (.ref C0) "kept" = some none)
    : ∃ fd : FuncData, (∀ (s : Shared) (v : Value), BindsTo s fd ⟨[v], []⟩ [("script", v)]) ∧ ∀ base : Heap, K.In base → base.Ns mainGlobals mg → FnG l.prog w K mg base 11 fa fd ["script"] spEnd := by
  have e := hfa.symm.trans (PySem.W.mg_of X G a41)
  cases e
  have T : Txt mg ⟨K, C0, X_ServeError, X_InvalidNumber, X_InvalidLetter, X_NoHouse, X_NoRequest, X_NoRoom, X_NotAlone, X_NotHeld, X_TooLarge, (exm_of eX_ServeError icX_ServeError tX_ServeError sub_InvalidNumber_ServeError), kit_self, (kit_of ne_InvalidNumber_NoRoom icX_NoRoom tX_NoRoom sub_InvalidNumber_NoRoom), (kit_of ne_InvalidNumber_NotAlone icX_NotAlone tX_NotAlone sub_InvalidNumber_NotAlone), (kit_of ne_InvalidNumber_NotHeld icX_NotHeld tX_NotHeld sub_InvalidNumber_NotHeld), (kitn_cons (kit_of ne_InvalidNumber_InvalidLetter icX_InvalidLetter tX_InvalidLetter sub_InvalidNumber_InvalidLetter) (kitn_cons (kit_of ne_InvalidNumber_NoHouse icX_NoHouse tX_NoHouse sub_InvalidNumber_NoHouse) (kitn_cons (kit_of ne_InvalidNumber_NoRequest icX_NoRequest tX_NoRequest sub_InvalidNumber_NoRequest) (kitn_cons (kit_of ne_InvalidNumber_TooLarge icX_TooLarge tX_TooLarge sub_InvalidNumber_TooLarge) kitn_nil)))), (kit_ty (by decide +kernel) subB_InvalidNumber_ValueError), ⟨icX_InvalidNumber, gaX_InvalidNumber, ggX_InvalidNumber, eX_InvalidNumber, caX_InvalidNumber, cgX, ctX, moX_InvalidNumber⟩, ⟨⟨gaX_InvalidNumber, ggX_InvalidNumber, eX_InvalidNumber, hdX_InvalidNumber⟩, nfX_InvalidNumber_number⟩, (exm_of eX_ServeError icX_ServeError tX_ServeError sub_NoRoom_ServeError), (kit_of ne_NoRoom_InvalidNumber icX_InvalidNumber tX_InvalidNumber sub_NoRoom_InvalidNumber), kit_self, (kit_of ne_NoRoom_NotAlone icX_NotAlone tX_NotAlone sub_NoRoom_NotAlone), (kit_of ne_NoRoom_NotHeld icX_NotHeld tX_NotHeld sub_NoRoom_NotHeld), (kitn_cons (kit_of ne_NoRoom_InvalidLetter icX_InvalidLetter tX_InvalidLetter sub_NoRoom_InvalidLetter) (kitn_cons (kit_of ne_NoRoom_NoHouse icX_NoHouse tX_NoHouse sub_NoRoom_NoHouse) (kitn_cons (kit_of ne_NoRoom_NoRequest icX_NoRequest tX_NoRequest sub_NoRoom_NoRequest) (kitn_cons (kit_of ne_NoRoom_TooLarge icX_TooLarge tX_TooLarge sub_NoRoom_TooLarge) kitn_nil)))), (kit_ty (by decide +kernel) subB_NoRoom_ValueError), ⟨icX_NoRoom, gaX_NoRoom, ggX_NoRoom, eX_NoRoom, caX_NoRoom, cgX, ctX, moX_NoRoom⟩, ⟨⟨gaX_NoRoom, ggX_NoRoom, eX_NoRoom, hdX_NoRoom⟩, nfX_NoRoom_many⟩, (exm_of eX_ServeError icX_ServeError tX_ServeError sub_NotAlone_ServeError), (kit_of ne_NotAlone_InvalidNumber icX_InvalidNumber tX_InvalidNumber sub_NotAlone_InvalidNumber), (kit_of ne_NotAlone_NoRoom icX_NoRoom tX_NoRoom sub_NotAlone_NoRoom), kit_self, (kit_of ne_NotAlone_NotHeld icX_NotHeld tX_NotHeld sub_NotAlone_NotHeld), (kitn_cons (kit_of ne_NotAlone_InvalidLetter icX_InvalidLetter tX_InvalidLetter sub_NotAlone_InvalidLetter) (kitn_cons (kit_of ne_NotAlone_NoHouse icX_NoHouse tX_NoHouse sub_NotAlone_NoHouse) (kitn_cons (kit_of ne_NotAlone_NoRequest icX_NoRequest tX_NoRequest sub_NotAlone_NoRequest) (kitn_cons (kit_of ne_NotAlone_TooLarge icX_TooLarge tX_TooLarge sub_NotAlone_TooLarge) kitn_nil)))), (kit_ty (by decide +kernel) subB_NotAlone_ValueError), ⟨icX_NotAlone, gaX_NotAlone, ggX_NotAlone, eX_NotAlone, caX_NotAlone, cgX, ctX, moX_NotAlone⟩, ⟨⟨gaX_NotAlone, ggX_NotAlone, eX_NotAlone, hdX_NotAlone⟩, nfX_NotAlone_block⟩, (exm_of eX_ServeError icX_ServeError tX_ServeError sub_NotHeld_ServeError), (kit_of ne_NotHeld_InvalidNumber icX_InvalidNumber tX_InvalidNumber sub_NotHeld_InvalidNumber), (kit_of ne_NotHeld_NoRoom icX_NoRoom tX_NoRoom sub_NotHeld_NoRoom), (kit_of ne_NotHeld_NotAlone icX_NotAlone tX_NotAlone sub_NotHeld_NotAlone), kit_self, (kitn_cons (kit_of ne_NotHeld_InvalidLetter icX_InvalidLetter tX_InvalidLetter sub_NotHeld_InvalidLetter) (kitn_cons (kit_of ne_NotHeld_NoHouse icX_NoHouse tX_NoHouse sub_NotHeld_NoHouse) (kitn_cons (kit_of ne_NotHeld_NoRequest icX_NoRequest tX_NoRequest sub_NotHeld_NoRequest) (kitn_cons (kit_of ne_NotHeld_TooLarge icX_TooLarge tX_TooLarge sub_NotHeld_TooLarge) kitn_nil)))), (kit_ty (by decide +kernel) subB_NotHeld_ValueError), ⟨icX_NotHeld, gaX_NotHeld, ggX_NotHeld, eX_NotHeld, caX_NotHeld, cgX, ctX, moX_NotHeld⟩, ⟨⟨gaX_NotHeld, ggX_NotHeld, eX_NotHeld, hdX_NotHeld⟩, nfX_NotHeld_block⟩⟩ := ⟨PySem.W.mg_none_of X G z_ValueError,
    PySem.W.mg_none_of X G z_abs,
    PySem.W.mg_none_of X G z_bool,
    PySem.W.mg_none_of X G z_int,
    PySem.W.mg_none_of X G z_isinstance,
    PySem.W.mg_none_of X G z_len,
    PySem.W.mg_none_of X G z_list,
    PySem.W.mg_none_of X G z_min,
    PySem.W.mg_none_of X G z_range,
    PySem.W.mg_none_of X G z_repr,
    PySem.W.mg_none_of X G z_str,
    PySem.W.mg_none_of X G z_tuple,
    ⟨_, _, fun_mk l5 c5 k5, PySem.W.mg_of X G a5, ((fun_mk l5 c5 k5).binds (ps := ["value", "least", "most"]) fun _ _ _ _ _ _ us hl => match us, hl with | [_, _, _], _ => rfl)⟩,
    ⟨_, _, fun_mk l6 c6 k6, PySem.W.mg_of X G a6, ((fun_mk l6 c6 k6).binds (ps := ["row"]) fun _ _ _ _ _ _ us hl => match us, hl with | [_], _ => rfl)⟩,
    ⟨f7, _, fun_mk l7 c7 k7, ⟨mkC0, a7, i7, kcC0⟩, ((fun_mk l7 c7 k7).binds (ps := ["self", "many", "size"]) fun _ _ _ _ _ _ us hl => match us, hl with | [_, _, _], _ => rfl)⟩,
    ⟨f8, _, pp8, fun_mk l8 c8 k8, ⟨a8, pg8, pt8, rs8, pc8⟩, ((fun_mk l8 c8 k8).binds (ps := ["self"]) fun _ _ _ _ _ _ us hl => match us, hl with | [_], _ => rfl)⟩,
    ⟨f9, _, fun_mk l9 c9 k9, ⟨a9, i9, k9⟩, ((fun_mk l9 c9 k9).binds (ps := ["self", "block"]) fun _ _ _ _ _ _ us hl => match us, hl with | [_, _], _ => rfl)⟩,
    ⟨f10, _, fun_mk l10 c10 k10, ⟨a10, i10, k10⟩, ((fun_mk l10 c10 k10).binds (ps := ["self", "block"]) fun _ _ _ _ _ _ us hl => match us, hl with | [_, _], _ => rfl)⟩,
    ⟨f11, _, fun_mk l11 c11 k11, ⟨a11, i11, k11⟩, ((fun_mk l11 c11 k11).binds (ps := ["self"]) fun _ _ _ _ _ _ us hl => match us, hl with | [_], _ => rfl)⟩,
    ⟨f12, _, fun_mk l12 c12 k12, ⟨a12, i12, k12⟩, ((fun_mk l12 c12 k12).binds (ps := ["self", "block"]) fun _ _ _ _ _ _ us hl => match us, hl with | [_, _], _ => rfl)⟩,
    ⟨f13, _, fun_mk l13 c13 k13, ⟨a13, i13, k13⟩, ((fun_mk l13 c13 k13).binds (ps := ["self", "block"]) fun _ _ _ _ _ _ us hl => match us, hl with | [_, _], _ => rfl)⟩,
    ⟨f14, _, fun_mk l14 c14 k14, ⟨a14, i14, k14⟩, ((fun_mk l14 c14 k14).binds (ps := ["self", "block", "row"]) fun _ _ _ _ _ _ us hl => match us, hl with | [_, _, _], _ => rfl)⟩,
    ⟨f15, _, fun_mk l15 c15 k15, ⟨a15, i15, k15⟩, ((fun_mk l15 c15 k15).binds (ps := ["self", "block", "many"]) fun _ _ _ _ _ _ us hl => match us, hl with | [_, _, _], _ => rfl)⟩,
    ⟨f16, _, fun_mk l16 c16 k16, ⟨a16, i16, k16⟩, ((fun_mk l16 c16 k16).binds (ps := ["self", "block"]) fun _ _ _ _ _ _ us hl => match us, hl with | [_, _], _ => rfl)⟩,
    ⟨f17, _, fun_mk l17 c17 k17, ⟨a17, i17, k17⟩, ((fun_mk l17 c17 k17).binds (ps := ["self", "block"]) fun _ _ _ _ _ _ us hl => match us, hl with | [_, _], _ => rfl)⟩,
    ⟨_, _, fun_mk l18 c18 k18, PySem.W.mg_of X G a18, ((fun_mk l18 c18 k18).binds (ps := ["cell", "at", "many"]) fun _ _ _ _ _ _ us hl => match us, hl with | [_, _, _], _ => rfl)⟩,
    ⟨_, _, fun_mk l19 c19 k19, PySem.W.mg_of X G a19, ((fun_mk l19 c19 k19).binds (ps := ["actual", "expected"]) fun _ _ _ _ _ _ us hl => match us, hl with | [_, _], _ => rfl)⟩,
    ⟨_, _, fun_mk l20 c20 k20, PySem.W.mg_of X G a20, ((fun_mk l20 c20 k20).binds (ps := ["numbers", "at", "width", "prime"]) fun _ _ _ _ _ _ us hl => match us, hl with | [_, _, _, _], _ => rfl)⟩,
    ⟨_, _, fun_mk l21 c21 k21, PySem.W.mg_of X G a21, ((fun_mk l21 c21 k21).binds (ps := ["numbers", "letters", "width", "many", "prime"]) fun _ _ _ _ _ _ us hl => match us, hl with | [_, _, _, _, _], _ => rfl)⟩,
    ⟨_, _, fun_mk l22 c22 k22, PySem.W.mg_of X G a22, ((fun_mk l22 c22 k22).binds (ps := ["one", "other", "prime"]) fun _ _ _ _ _ _ us hl => match us, hl with | [_, _, _], _ => rfl)⟩,
    ⟨_, _, fun_mk l23 c23 k23, PySem.W.mg_of X G a23, ((fun_mk l23 c23 k23).binds (ps := ["matrix", "vector", "prime"]) fun _ _ _ _ _ _ us hl => match us, hl with | [_, _, _], _ => rfl)⟩,
    ⟨_, _, fun_mk l24 c24 k24, PySem.W.mg_of X G a24, ((fun_mk l24 c24 k24).binds (ps := ["net", "rows", "letter"]) fun _ _ _ _ _ _ us hl => match us, hl with | [_, _, _], _ => rfl)⟩,
    ⟨_, _, fun_mk l25 c25 k25, PySem.W.mg_of X G a25, ((fun_mk l25 c25 k25).binds (ps := ["numbers"]) fun _ _ _ _ _ _ us hl => match us, hl with | [_], _ => rfl)⟩,
    ⟨_, _, fun_mk l26 c26 k26, PySem.W.mg_of X G a26, ((fun_mk l26 c26 k26).binds (ps := ["state"]) fun _ _ _ _ _ _ us hl => match us, hl with | [_], _ => rfl)⟩,
    ⟨_, _, fun_mk l27 c27 k27, PySem.W.mg_of X G a27, ((fun_mk l27 c27 k27).binds (ps := ["state"]) fun _ _ _ _ _ _ us hl => match us, hl with | [_], _ => rfl)⟩,
    ⟨_, _, fun_mk l28 c28 k28, PySem.W.mg_of X G a28, ((fun_mk l28 c28 k28).binds (ps := ["state", "block"]) fun _ _ _ _ _ _ us hl => match us, hl with | [_, _], _ => rfl)⟩,
    ⟨_, _, fun_mk l29 c29 k29, PySem.W.mg_of X G a29, ((fun_mk l29 c29 k29).binds (ps := ["value", "low", "high"]) fun _ _ _ _ _ _ us hl => match us, hl with | [_, _, _], _ => rfl)⟩,
    ⟨_, _, fun_mk l30 c30 k30, PySem.W.mg_of X G a30, ((fun_mk l30 c30 k30).binds (ps := ["numbers", "k", "most"]) fun _ _ _ _ _ _ us hl => match us, hl with | [_, _, _], _ => rfl)⟩,
    ⟨_, _, fun_mk l31 c31 k31, PySem.W.mg_of X G a31, ((fun_mk l31 c31 k31).binds (ps := ["e"]) fun _ _ _ _ _ _ us hl => match us, hl with | [_], _ => rfl)⟩,
    ⟨_, _, fun_mk l32 c32 k32, PySem.W.mg_of X G a32, ((fun_mk l32 c32 k32).binds (ps := ["store", "word", "block", "value", "named"]) fun _ _ _ _ _ _ us hl => match us, hl with | [_, _, _, _, _], _ => rfl)⟩,
    ⟨_, _, fun_mk l33 c33 k33, PySem.W.mg_of X G a33, ((fun_mk l33 c33 k33).binds (ps := ["store", "word", "block", "value", "named"]) fun _ _ _ _ _ _ us hl => match us, hl with | [_, _, _, _, _], _ => rfl)⟩,
    ⟨_, _, fun_mk l34 c34 k34, PySem.W.mg_of X G a34, ((fun_mk l34 c34 k34).binds (ps := ["state", "size", "word", "block", "value"]) fun _ _ _ _ _ _ us hl => match us, hl with | [_, _, _, _, _], _ => rfl)⟩,
    ⟨_, _, fun_mk l35 c35 k35, PySem.W.mg_of X G a35, ((fun_mk l35 c35 k35).binds (ps := ["store", "state"]) fun _ _ _ _ _ _ us hl => match us, hl with | [_, _], _ => rfl)⟩,
    ⟨_, _, fun_mk l36 c36 k36, PySem.W.mg_of X G a36, ((fun_mk l36 c36 k36).binds (ps := ["row"]) fun _ _ _ _ _ _ us hl => match us, hl with | [_], _ => rfl)⟩,
    ⟨_, _, fun_mk l37 c37 k37, PySem.W.mg_of X G a37, ((fun_mk l37 c37 k37).binds (ps := ["handed"]) fun _ _ _ _ _ _ us hl => match us, hl with | [_], _ => rfl)⟩,
    ⟨_, _, fun_mk l38 c38 k38, PySem.W.mg_of X G a38, ((fun_mk l38 c38 k38).binds (ps := ["word", "value", "listed"]) fun _ _ _ _ _ _ us hl => match us, hl with | [_, _, _], _ => rfl)⟩,
    ⟨_, _, fun_mk l39 c39 k39, PySem.W.mg_of X G a39, ((fun_mk l39 c39 k39).binds (ps := ["state"]) fun _ _ _ _ _ _ us hl => match us, hl with | [_], _ => rfl)⟩,
    ⟨_, _, fun_mk l40 c40 k40, PySem.W.mg_of X G a40, ((fun_mk l40 c40 k40).binds (ps := ["stores", "states", "block", "named"]) fun _ _ _ _ _ _ us hl => match us, hl with | [_, _, _, _], _ => rfl)⟩,
    ⟨_, _, fun_mk l41 c41 k41, PySem.W.mg_of X G a41, ((fun_mk l41 c41 k41).binds (ps := ["script"]) fun _ _ _ _ _ _ us hl => match us, hl with | [_], _ => rfl)⟩,
    ⟨f12, _, fun_mk l12 c12 k12, ⟨a12, i12, k12⟩, kb_mk (by decide) fun us ws h1 h2 => match us, ws, h1, h2 with | [_], [_], _, _ => rfl⟩,
    ⟨f17, _, fun_mk l17 c17 k17, ⟨a17, i17, k17⟩, kb_mk (by decide) fun us ws h1 h2 => match us, ws, h1, h2 with | [_], [_], _, _ => rfl⟩,
    ⟨f14, _, fun_mk l14 c14 k14, ⟨a14, i14, k14⟩, kb_mk (by decide) fun us ws h1 h2 => match us, ws, h1, h2 with | [_], [_, _], _, _ => rfl⟩,
    ⟨f13, _, fun_mk l13 c13 k13, ⟨a13, i13, k13⟩, kb_mk (by decide) fun us ws h1 h2 => match us, ws, h1, h2 with | [_], [_], _, _ => rfl⟩,
    ⟨f16, _, fun_mk l16 c16 k16, ⟨a16, i16, k16⟩, kb_mk (by decide) fun us ws h1 h2 => match us, ws, h1, h2 with | [_], [_], _, _ => rfl⟩,
    ⟨f15, _, fun_mk l15 c15 k15, ⟨a15, i15, k15⟩, kb_mk (by decide) fun us ws h1 h2 => match us, ws, h1, h2 with | [_], [_, _], _, _ => rfl⟩,
    ⟨_, PySem.W.mg_of X G cn_MOST_BLOCKS, tk_MOST_BLOCKS, rfl⟩,
    ⟨_, PySem.W.mg_of X G cn_MOST_ROWS, tk_MOST_ROWS, rfl⟩,
    PySem.W.mg_of X G aX_InvalidLetter,
    PySem.W.mg_of X G aX_InvalidNumber,
    PySem.W.mg_of X G aX_NoHouse,
    PySem.W.mg_of X G aX_NoRequest,
    PySem.W.mg_of X G aX_NoRoom,
    PySem.W.mg_of X G aX_NotAlone,
    PySem.W.mg_of X G aX_NotHeld,
    PySem.W.mg_of X G aX_ServeError,
    PySem.W.mg_of X G aX_TooLarge,
    ⟨⟨⟨nm1, q1, N1, bs1, _, sn1, sub1, ab1, col1, dd1, m01, m11, m21, m31, m51, xL1, by rfl⟩, saX_InvalidNumber, eX_InvalidNumber, tX_InvalidNumber, kcX_InvalidNumber⟩, nfX_InvalidNumber_number, PySem.W.mg_of X G aX_InvalidNumber, f1, _, fun_mk l1 c1 k1, iX_InvalidNumber, tfX_InvalidNumber, ((fun_mk l1 c1 k1).binds (ps := ["self", "number"]) fun _ _ _ _ _ _ us hl => match us, hl with | [_, _], _ => rfl)⟩,
    ⟨⟨⟨nm2, q2, N2, bs2, _, sn2, sub2, ab2, col2, dd2, m02, m12, m22, m32, m52, xL2, by rfl⟩, saX_NoRoom, eX_NoRoom, tX_NoRoom, kcX_NoRoom⟩, nfX_NoRoom_many, PySem.W.mg_of X G aX_NoRoom, f2, _, fun_mk l2 c2 k2, iX_NoRoom, tfX_NoRoom, ((fun_mk l2 c2 k2).binds (ps := ["self", "many"]) fun _ _ _ _ _ _ us hl => match us, hl with | [_, _], _ => rfl)⟩,
    ⟨⟨⟨nm3, q3, N3, bs3, _, sn3, sub3, ab3, col3, dd3, m03, m13, m23, m33, m53, xL3, by rfl⟩, saX_NotAlone, eX_NotAlone, tX_NotAlone, kcX_NotAlone⟩, nfX_NotAlone_block, PySem.W.mg_of X G aX_NotAlone, f3, _, fun_mk l3 c3 k3, iX_NotAlone, tfX_NotAlone, ((fun_mk l3 c3 k3).binds (ps := ["self", "block"]) fun _ _ _ _ _ _ us hl => match us, hl with | [_, _], _ => rfl)⟩,
    ⟨⟨⟨nm4, q4, N4, bs4, _, sn4, sub4, ab4, col4, dd4, m04, m14, m24, m34, m54, xL4, by rfl⟩, saX_NotHeld, eX_NotHeld, tX_NotHeld, kcX_NotHeld⟩, nfX_NotHeld_block, PySem.W.mg_of X G aX_NotHeld, f4, _, fun_mk l4 c4 k4, iX_NotHeld, tfX_NotHeld, ((fun_mk l4 c4 k4).binds (ps := ["self", "block"]) fun _ _ _ _ _ _ us hl => match us, hl with | [_, _], _ => rfl)⟩,
    ⟨pgC0, hdC0, poC0, saC0⟩,
    PySem.W.mg_of X G aC0,
    na_Store_many,
    na_Store_size,
    na_Store_counts,
    na_Store_kept⟩
  exact ⟨PySem.W.fnOf "law" "law" (defArgs s_law) (defBody s_law) (defScope s_law) .none kV41 dc41 pm41 an41 cd41 ct41, fun s v => .of_eq rfl, fun base _ _ => okF_law T (fun_mk l41 c41 k41)⟩
end K12
open PySem PySem.W PyProof.Rows in
set_option maxRecDepth 100000 in
set_option maxHeartbeats 0 in
theorem PySem.Challenge.cw_everyasked_k12_whole_stores_holds : PySem.Challenge.rw_everyasked_k12_whole_stores.Holds := by
  w_on; o_law; k_head; (case hw => w_witness2)
  k_fill
  refine DL.walk_G (l := PySem.Challenge.rw_everyasked_k12_whole_stores) (n := 63) (k := 11) (x := "script") (spec := K12.spEnd) rfl (by decide) rfl ⟨rfl, by decide, by decide⟩ (fun w h Y => PySem.W.kIn_of Y) ?F (fun _ H a ns hl hS => K12.spEnd_at hl hS)
  case F =>
    intro w mg fa h KX G hmg
    refine' K12.all_mk KX G hmg ?aC0 ?aX_ServeError ?aX_InvalidNumber ?aX_InvalidLetter ?aX_NoHouse ?aX_NoRequest ?aX_NoRoom ?aX_NotAlone ?aX_NotHeld ?aX_TooLarge ?xL1 ?saX_InvalidNumber ?kcX_InvalidNumber ?iX_InvalidNumber ?tfX_InvalidNumber ?l1 ?c1 ?k1 ?eX_InvalidNumber ?tX_InvalidNumber ?nfX_InvalidNumber_number ?xL2 ?saX_NoRoom ?kcX_NoRoom ?iX_NoRoom ?tfX_NoRoom ?l2 ?c2 ?k2 ?eX_NoRoom ?tX_NoRoom ?nfX_NoRoom_many ?xL3 ?saX_NotAlone ?kcX_NotAlone ?iX_NotAlone ?tfX_NotAlone ?l3 ?c3 ?k3 ?eX_NotAlone ?tX_NotAlone ?nfX_NotAlone_block ?xL4 ?saX_NotHeld ?kcX_NotHeld ?iX_NotHeld ?tfX_NotHeld ?l4 ?c4 ?k4 ?eX_NotHeld ?tX_NotHeld ?nfX_NotHeld_block ?cn_MOST_BLOCKS ?cn_MOST_ROWS ?eX_ServeError ?icX_ServeError ?tX_ServeError ?sub_InvalidNumber_ServeError ?ne_InvalidNumber_NoRoom ?icX_NoRoom ?sub_InvalidNumber_NoRoom ?ne_InvalidNumber_NotAlone ?icX_NotAlone ?sub_InvalidNumber_NotAlone ?ne_InvalidNumber_NotHeld ?icX_NotHeld ?sub_InvalidNumber_NotHeld ?ne_InvalidNumber_TooLarge ?icX_TooLarge ?tX_TooLarge ?sub_InvalidNumber_TooLarge ?ne_InvalidNumber_NoRequest ?icX_NoRequest ?tX_NoRequest ?sub_InvalidNumber_NoRequest ?ne_InvalidNumber_NoHouse ?icX_NoHouse ?tX_NoHouse ?sub_InvalidNumber_NoHouse ?ne_InvalidNumber_InvalidLetter ?icX_InvalidLetter ?tX_InvalidLetter ?sub_InvalidNumber_InvalidLetter ?subB_InvalidNumber_ValueError ?caX_InvalidNumber ?cgX ?ctX ?moX_InvalidNumber ?icX_InvalidNumber ?gaX_InvalidNumber ?ggX_InvalidNumber ?hdX_InvalidNumber ?sub_NoRoom_ServeError ?ne_NoRoom_InvalidNumber ?sub_NoRoom_InvalidNumber ?ne_NoRoom_NotAlone ?sub_NoRoom_NotAlone ?ne_NoRoom_NotHeld ?sub_NoRoom_NotHeld ?ne_NoRoom_TooLarge ?sub_NoRoom_TooLarge ?ne_NoRoom_NoRequest ?sub_NoRoom_NoRequest ?ne_NoRoom_NoHouse ?sub_NoRoom_NoHouse ?ne_NoRoom_InvalidLetter ?sub_NoRoom_InvalidLetter ?subB_NoRoom_ValueError ?caX_NoRoom ?moX_NoRoom ?gaX_NoRoom ?ggX_NoRoom ?hdX_NoRoom ?sub_NotAlone_ServeError ?ne_NotAlone_InvalidNumber ?sub_NotAlone_InvalidNumber ?ne_NotAlone_NoRoom ?sub_NotAlone_NoRoom ?ne_NotAlone_NotHeld ?sub_NotAlone_NotHeld ?ne_NotAlone_TooLarge ?sub_NotAlone_TooLarge ?ne_NotAlone_NoRequest ?sub_NotAlone_NoRequest ?ne_NotAlone_NoHouse ?sub_NotAlone_NoHouse ?ne_NotAlone_InvalidLetter ?sub_NotAlone_InvalidLetter ?subB_NotAlone_ValueError ?caX_NotAlone ?moX_NotAlone ?gaX_NotAlone ?ggX_NotAlone ?hdX_NotAlone ?sub_NotHeld_ServeError ?ne_NotHeld_InvalidNumber ?sub_NotHeld_InvalidNumber ?ne_NotHeld_NoRoom ?sub_NotHeld_NoRoom ?ne_NotHeld_NotAlone ?sub_NotHeld_NotAlone ?ne_NotHeld_TooLarge ?sub_NotHeld_TooLarge ?ne_NotHeld_NoRequest ?sub_NotHeld_NoRequest ?ne_NotHeld_NoHouse ?sub_NotHeld_NoHouse ?ne_NotHeld_InvalidLetter ?sub_NotHeld_InvalidLetter ?subB_NotHeld_ValueError ?caX_NotHeld ?moX_NotHeld ?gaX_NotHeld ?ggX_NotHeld ?hdX_NotHeld ?a5 ?l5 ?c5 ?k5 ?a6 ?l6 ?c6 ?k6 ?a7 ?i7 ?l7 ?c7 ?k7 ?a8 ?pg8 ?pt8 ?pc8 ?l8 ?c8 ?k8 ?a9 ?i9 ?l9 ?c9 ?k9 ?a10 ?i10 ?l10 ?c10 ?k10 ?a11 ?i11 ?l11 ?c11 ?k11 ?a12 ?i12 ?l12 ?c12 ?k12 ?a13 ?i13 ?l13 ?c13 ?k13 ?a14 ?i14 ?l14 ?c14 ?k14 ?a15 ?i15 ?l15 ?c15 ?k15 ?a16 ?i16 ?l16 ?c16 ?k16 ?a17 ?i17 ?l17 ?c17 ?k17 ?a18 ?l18 ?c18 ?k18 ?a19 ?l19 ?c19 ?k19 ?a20 ?l20 ?c20 ?k20 ?a21 ?l21 ?c21 ?k21 ?a22 ?l22 ?c22 ?k22 ?a23 ?l23 ?c23 ?k23 ?a24 ?l24 ?c24 ?k24 ?a25 ?l25 ?c25 ?k25 ?a26 ?l26 ?c26 ?k26 ?a27 ?l27 ?c27 ?k27 ?a28 ?l28 ?c28 ?k28 ?a29 ?l29 ?c29 ?k29 ?a30 ?l30 ?c30 ?k30 ?a31 ?l31 ?c31 ?k31 ?a32 ?l32 ?c32 ?k32 ?a33 ?l33 ?c33 ?k33 ?a34 ?l34 ?c34 ?k34 ?a35 ?l35 ?c35 ?k35 ?a36 ?l36 ?c36 ?k36 ?a37 ?l37 ?c37 ?k37 ?a38 ?l38 ?c38 ?k38 ?a39 ?l39 ?c39 ?k39 ?a40 ?l40 ?c40 ?k40 ?a41 ?l41 ?c41 ?k41 ?pgC0 ?hdC0 ?poC0 ?saC0 ?mkC0 ?kcC0 ?z_ValueError ?z_abs ?z_bool ?z_int ?z_isinstance ?z_len ?z_list ?z_min ?z_range ?z_repr ?z_str ?z_tuple ?na_Store_many ?na_Store_size ?na_Store_counts ?na_Store_kept
    (case aC0 => k_is)
    (case aX_ServeError => k_is)
    (case aX_InvalidNumber => k_is)
    (case aX_InvalidLetter => k_is)
    (case aX_NoHouse => k_is)
    (case aX_NoRequest => k_is)
    (case aX_NoRoom => k_is)
    (case aX_NotAlone => k_is)
    (case aX_NotHeld => k_is)
    (case aX_TooLarge => k_is)
    (case xL1 => k_is)
    (case saX_InvalidNumber => k_is)
    (case kcX_InvalidNumber => k_is)
    (case iX_InvalidNumber => k_is)
    (case tfX_InvalidNumber => k_is)
    (case l1 => k_is)
    (case c1 => k_is)
    (case k1 => k_is)
    (case eX_InvalidNumber => k_is)
    (case tX_InvalidNumber => k_is)
    (case nfX_InvalidNumber_number => k_is)
    (case xL2 => k_is)
    (case saX_NoRoom => k_is)
    (case kcX_NoRoom => k_is)
    (case iX_NoRoom => k_is)
    (case tfX_NoRoom => k_is)
    (case l2 => k_is)
    (case c2 => k_is)
    (case k2 => k_is)
    (case eX_NoRoom => k_is)
    (case tX_NoRoom => k_is)
    (case nfX_NoRoom_many => k_is)
    (case xL3 => k_is)
    (case saX_NotAlone => k_is)
    (case kcX_NotAlone => k_is)
    (case iX_NotAlone => k_is)
    (case tfX_NotAlone => k_is)
    (case l3 => k_is)
    (case c3 => k_is)
    (case k3 => k_is)
    (case eX_NotAlone => k_is)
    (case tX_NotAlone => k_is)
    (case nfX_NotAlone_block => k_is)
    (case xL4 => k_is)
    (case saX_NotHeld => k_is)
    (case kcX_NotHeld => k_is)
    (case iX_NotHeld => k_is)
    (case tfX_NotHeld => k_is)
    (case l4 => k_is)
    (case c4 => k_is)
    (case k4 => k_is)
    (case eX_NotHeld => k_is)
    (case tX_NotHeld => k_is)
    (case nfX_NotHeld_block => k_is)
    (case cn_MOST_BLOCKS => k_is)
    (case cn_MOST_ROWS => k_is)
    (case eX_ServeError => k_is)
    (case icX_ServeError => k_is)
    (case tX_ServeError => k_is)
    (case sub_InvalidNumber_ServeError => k_is)
    (case ne_InvalidNumber_NoRoom => decide)
    (case icX_NoRoom => k_is)
    (case sub_InvalidNumber_NoRoom => k_is)
    (case ne_InvalidNumber_NotAlone => decide)
    (case icX_NotAlone => k_is)
    (case sub_InvalidNumber_NotAlone => k_is)
    (case ne_InvalidNumber_NotHeld => decide)
    (case icX_NotHeld => k_is)
    (case sub_InvalidNumber_NotHeld => k_is)
    (case ne_InvalidNumber_TooLarge => decide)
    (case icX_TooLarge => k_is)
    (case tX_TooLarge => k_is)
    (case sub_InvalidNumber_TooLarge => k_is)
    (case ne_InvalidNumber_NoRequest => decide)
    (case icX_NoRequest => k_is)
    (case tX_NoRequest => k_is)
    (case sub_InvalidNumber_NoRequest => k_is)
    (case ne_InvalidNumber_NoHouse => decide)
    (case icX_NoHouse => k_is)
    (case tX_NoHouse => k_is)
    (case sub_InvalidNumber_NoHouse => k_is)
    (case ne_InvalidNumber_InvalidLetter => decide)
    (case icX_InvalidLetter => k_is)
    (case tX_InvalidLetter => k_is)
    (case sub_InvalidNumber_InvalidLetter => k_is)
    (case subB_InvalidNumber_ValueError => k_is)
    (case caX_InvalidNumber => k_is)
    (case cgX => k_is)
    (case ctX => k_is)
    (case moX_InvalidNumber => k_is)
    (case icX_InvalidNumber => k_is)
    (case gaX_InvalidNumber => k_is)
    (case ggX_InvalidNumber => k_is)
    (case hdX_InvalidNumber => k_is)
    (case sub_NoRoom_ServeError => k_is)
    (case ne_NoRoom_InvalidNumber => decide)
    (case sub_NoRoom_InvalidNumber => k_is)
    (case ne_NoRoom_NotAlone => decide)
    (case sub_NoRoom_NotAlone => k_is)
    (case ne_NoRoom_NotHeld => decide)
    (case sub_NoRoom_NotHeld => k_is)
    (case ne_NoRoom_TooLarge => decide)
    (case sub_NoRoom_TooLarge => k_is)
    (case ne_NoRoom_NoRequest => decide)
    (case sub_NoRoom_NoRequest => k_is)
    (case ne_NoRoom_NoHouse => decide)
    (case sub_NoRoom_NoHouse => k_is)
    (case ne_NoRoom_InvalidLetter => decide)
    (case sub_NoRoom_InvalidLetter => k_is)
    (case subB_NoRoom_ValueError => k_is)
    (case caX_NoRoom => k_is)
    (case moX_NoRoom => k_is)
    (case gaX_NoRoom => k_is)
    (case ggX_NoRoom => k_is)
    (case hdX_NoRoom => k_is)
    (case sub_NotAlone_ServeError => k_is)
    (case ne_NotAlone_InvalidNumber => decide)
    (case sub_NotAlone_InvalidNumber => k_is)
    (case ne_NotAlone_NoRoom => decide)
    (case sub_NotAlone_NoRoom => k_is)
    (case ne_NotAlone_NotHeld => decide)
    (case sub_NotAlone_NotHeld => k_is)
    (case ne_NotAlone_TooLarge => decide)
    (case sub_NotAlone_TooLarge => k_is)
    (case ne_NotAlone_NoRequest => decide)
    (case sub_NotAlone_NoRequest => k_is)
    (case ne_NotAlone_NoHouse => decide)
    (case sub_NotAlone_NoHouse => k_is)
    (case ne_NotAlone_InvalidLetter => decide)
    (case sub_NotAlone_InvalidLetter => k_is)
    (case subB_NotAlone_ValueError => k_is)
    (case caX_NotAlone => k_is)
    (case moX_NotAlone => k_is)
    (case gaX_NotAlone => k_is)
    (case ggX_NotAlone => k_is)
    (case hdX_NotAlone => k_is)
    (case sub_NotHeld_ServeError => k_is)
    (case ne_NotHeld_InvalidNumber => decide)
    (case sub_NotHeld_InvalidNumber => k_is)
    (case ne_NotHeld_NoRoom => decide)
    (case sub_NotHeld_NoRoom => k_is)
    (case ne_NotHeld_NotAlone => decide)
    (case sub_NotHeld_NotAlone => k_is)
    (case ne_NotHeld_TooLarge => decide)
    (case sub_NotHeld_TooLarge => k_is)
    (case ne_NotHeld_NoRequest => decide)
    (case sub_NotHeld_NoRequest => k_is)
    (case ne_NotHeld_NoHouse => decide)
    (case sub_NotHeld_NoHouse => k_is)
    (case ne_NotHeld_InvalidLetter => decide)
    (case sub_NotHeld_InvalidLetter => k_is)
    (case subB_NotHeld_ValueError => k_is)
    (case caX_NotHeld => k_is)
    (case moX_NotHeld => k_is)
    (case gaX_NotHeld => k_is)
    (case ggX_NotHeld => k_is)
    (case hdX_NotHeld => k_is)
    (case a5 => k_is)
    (case l5 => k_is)
    (case c5 => k_is)
    (case k5 => k_is)
    (case a6 => k_is)
    (case l6 => k_is)
    (case c6 => k_is)
    (case k6 => k_is)
    (case a7 => k_is)
    (case i7 => k_is)
    (case l7 => k_is)
    (case c7 => k_is)
    (case k7 => k_is)
    (case a8 => k_is)
    (case pg8 => k_is)
    (case pt8 => k_is)
    (case pc8 => k_is)
    (case l8 => k_is)
    (case c8 => k_is)
    (case k8 => k_is)
    (case a9 => k_is)
    (case i9 => k_is)
    (case l9 => k_is)
    (case c9 => k_is)
    (case k9 => k_is)
    (case a10 => k_is)
    (case i10 => k_is)
    (case l10 => k_is)
    (case c10 => k_is)
    (case k10 => k_is)
    (case a11 => k_is)
    (case i11 => k_is)
    (case l11 => k_is)
    (case c11 => k_is)
    (case k11 => k_is)
    (case a12 => k_is)
    (case i12 => k_is)
    (case l12 => k_is)
    (case c12 => k_is)
    (case k12 => k_is)
    (case a13 => k_is)
    (case i13 => k_is)
    (case l13 => k_is)
    (case c13 => k_is)
    (case k13 => k_is)
    (case a14 => k_is)
    (case i14 => k_is)
    (case l14 => k_is)
    (case c14 => k_is)
    (case k14 => k_is)
    (case a15 => k_is)
    (case i15 => k_is)
    (case l15 => k_is)
    (case c15 => k_is)
    (case k15 => k_is)
    (case a16 => k_is)
    (case i16 => k_is)
    (case l16 => k_is)
    (case c16 => k_is)
    (case k16 => k_is)
    (case a17 => k_is)
    (case i17 => k_is)
    (case l17 => k_is)
    (case c17 => k_is)
    (case k17 => k_is)
    (case a18 => k_is)
    (case l18 => k_is)
    (case c18 => k_is)
    (case k18 => k_is)
    (case a19 => k_is)
    (case l19 => k_is)
    (case c19 => k_is)
    (case k19 => k_is)
    (case a20 => k_is)
    (case l20 => k_is)
    (case c20 => k_is)
    (case k20 => k_is)
    (case a21 => k_is)
    (case l21 => k_is)
    (case c21 => k_is)
    (case k21 => k_is)
    (case a22 => k_is)
    (case l22 => k_is)
    (case c22 => k_is)
    (case k22 => k_is)
    (case a23 => k_is)
    (case l23 => k_is)
    (case c23 => k_is)
    (case k23 => k_is)
    (case a24 => k_is)
    (case l24 => k_is)
    (case c24 => k_is)
    (case k24 => k_is)
    (case a25 => k_is)
    (case l25 => k_is)
    (case c25 => k_is)
    (case k25 => k_is)
    (case a26 => k_is)
    (case l26 => k_is)
    (case c26 => k_is)
    (case k26 => k_is)
    (case a27 => k_is)
    (case l27 => k_is)
    (case c27 => k_is)
    (case k27 => k_is)
    (case a28 => k_is)
    (case l28 => k_is)
    (case c28 => k_is)
    (case k28 => k_is)
    (case a29 => k_is)
    (case l29 => k_is)
    (case c29 => k_is)
    (case k29 => k_is)
    (case a30 => k_is)
    (case l30 => k_is)
    (case c30 => k_is)
    (case k30 => k_is)
    (case a31 => k_is)
    (case l31 => k_is)
    (case c31 => k_is)
    (case k31 => k_is)
    (case a32 => k_is)
    (case l32 => k_is)
    (case c32 => k_is)
    (case k32 => k_is)
    (case a33 => k_is)
    (case l33 => k_is)
    (case c33 => k_is)
    (case k33 => k_is)
    (case a34 => k_is)
    (case l34 => k_is)
    (case c34 => k_is)
    (case k34 => k_is)
    (case a35 => k_is)
    (case l35 => k_is)
    (case c35 => k_is)
    (case k35 => k_is)
    (case a36 => k_is)
    (case l36 => k_is)
    (case c36 => k_is)
    (case k36 => k_is)
    (case a37 => k_is)
    (case l37 => k_is)
    (case c37 => k_is)
    (case k37 => k_is)
    (case a38 => k_is)
    (case l38 => k_is)
    (case c38 => k_is)
    (case k38 => k_is)
    (case a39 => k_is)
    (case l39 => k_is)
    (case c39 => k_is)
    (case k39 => k_is)
    (case a40 => k_is)
    (case l40 => k_is)
    (case c40 => k_is)
    (case k40 => k_is)
    (case a41 => k_is)
    (case l41 => k_is)
    (case c41 => k_is)
    (case k41 => k_is)
    (case pgC0 => k_is)
    (case hdC0 => k_is)
    (case poC0 => k_is)
    (case saC0 => k_is)
    (case mkC0 => k_is)
    (case kcC0 => k_is)
    (case z_ValueError => k_is)
    (case z_abs => k_is)
    (case z_bool => k_is)
    (case z_int => k_is)
    (case z_isinstance => k_is)
    (case z_len => k_is)
    (case z_list => k_is)
    (case z_min => k_is)
    (case z_range => k_is)
    (case z_repr => k_is)
    (case z_str => k_is)
    (case z_tuple => k_is)
    (case na_Store_many => k_is)
    (case na_Store_size => k_is)
    (case na_Store_counts => k_is)
    (case na_Store_kept => k_is)
