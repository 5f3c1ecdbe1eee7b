import PyProof.Rows.All
import Wide.All
import OpenK.AllK
import Wide.FinOn
import HandS.ForMost
import HandS.ForExc
import HandS.IsInst
import KE.KeyNested
import HandS.Wide
import HandS.SortInts
import HandS.TupAny
import KE.GoesMore
import HandS.TupMul
import HandS.ExcInit
import HandS.ExcField
import HandS.ExcIs
import KE.KExcIs
import HandS.Small
import PyProof.Rows.TupDisplay
import HandS.TupLen
import KE.DataEq
import PyProof.SeqIndex
import KE.DataCmp
import HandS.Ends
import HandS.HotCalls
import KE.KTupSum
import KE.DataMinMax
import HandS.Zip
import KE.GoesEnum
import HandS.Defaults
import PySem.Challenge.RW_everyasked_k07_whole_what_the_net_writes
set_option Elab.async false
set_option linter.all false
set_option maxRecDepth 100000
set_option maxHeartbeats 2000000
/-! The data layer, part a: data trees, the abstract store, what stands for what. -/
namespace DL
open PySem PySem.Spec PyProof.Rows L2

/-- data: trees that never change; ref a: a mutable object of the store -/
inductive D where
  | non | bl (b : Bool) | int (i : Int) | str (x : Str) | ref (a : Addr)
  | lst (xs : List D) | tup (xs : List D) | fro (xs : List D) | obj (C : Addr) (N : List Str) (xs : List D)
  | exc (a dd C : Addr) (f : Str) (x : D)
/-- mutable objects; an instance: the names of its fields, their values -/
inductive MO where
  | lst (xs : List D) | ins (C : Addr) (N : List Str) (xs : List (Option D)) | dK (kvs : List (Key × D)) | dN (a : Addr) (kvs : List (D × D))
abbrev DE := List (Option D)
abbrev Sto := Addr → Option MO
def put (S : Sto) (a : Addr) (m : MO) : Sto := fun b => if b = a then some m else S b
def del (S : Sto) (a : Addr) : Sto := fun b => if b = a then none else S b
theorem put_same {S : Sto} {a : Addr} {m : MO} : put S a m a = some m := if_pos rfl
theorem put_ne {S : Sto} {a b : Addr} {m : MO} (h : b ≠ a) : put S a m b = S b := if_neg h
theorem put_put {S : Sto} {a : Addr} {m n : MO} : put (put S a m) a n = put S a n := by
  funext b; unfold put; split <;> rfl
theorem put_self {S : Sto} {a : Addr} {m : MO} (h : S a = some m) : put S a m = S := by
  funext b; unfold put; split
  · next e => rw [e, h]
  · rfl
theorem del_put {S : Sto} {a : Addr} {m : MO} (h : S a = none) : del (put S a m) a = S := by
  funext b; unfold del put
  by_cases e : b = a
  · rw [if_pos e, e, h]
  · rw [if_neg e, if_neg e]
theorem put_comm {S : Sto} {a b : Addr} {m n : MO} (h : a ≠ b) : put (put S a m) b n = put (put S b n) a m := by
  funext c; unfold put
  by_cases e1 : c = a
  · subst e1; rw [if_pos rfl, if_neg h]; rw [if_pos rfl]
  · by_cases e2 : c = b
    · rw [if_pos e2, if_neg e1, if_pos e2]
    · rw [if_neg e2, if_neg e1, if_neg e1, if_neg e2]
theorem ne_of_S {S : Sto} {a b : Addr} {m : MO} (h : S a = some m) (h' : S b = none) : a ≠ b := by
  intro e; subst e; rw [h] at h'; cases h'

mutual
def Rep (K : PySem.W.Frag) (W : Hp) : D → V → Prop
  | .non, v => v = .non
  | .bl b, v => v = .bl b
  | .int i, v => v = .int i
  | .str x, v => v = .str x
  | .ref a, v => v = .ref a
  | .lst xs, v => ∃ a vs, v = .ref a ∧ W a = some (.lst vs) ∧ Reps K W xs vs
  | .tup xs, v => ∃ a vs, v = .ref a ∧ SqT K W a vs ∧ Reps K W xs vs
  | .fro xs, v => ∃ a vs, v = .ref a ∧ SqL K W a vs ∧ Reps K W xs vs
  | .obj C N xs, v => ∃ a dx gs vs, v = .ref a ∧ W a = some (.ins C dx gs) ∧ (∀ (i : Nat) (f : Str), N[i]? = some f → gs.lookup f = vs[i]?) ∧ (∀ f : Str, f ∉ N → gs.lookup f = none) ∧ Reps K W xs vs
  | .exc a dd C f x, v => v = .ref a ∧ ∃ gs u, W dd = some (.xd gs) ∧ gs.lookup f = some u ∧ Rep K W x u
def Reps (K : PySem.W.Frag) (W : Hp) : List D → List V → Prop
  | [], vs => vs = []
  | d :: ds, vs => ∃ v r, vs = v :: r ∧ Rep K W d v ∧ Reps K W ds r
end
abbrev Repf (K : PySem.W.Frag) (W : Hp) (fs : List (Str × D)) (gs : List (Str × V)) : Prop := ∀ f d, fs.lookup f = some d → ∃ v, gs.lookup f = some v ∧ Rep K W d v
def Repk {κ : Type} (K : PySem.W.Frag) (W : Hp) : List (κ × D) → List (κ × V) → Prop
  | [], gs => gs = []
  | (f, d) :: ds, gs => ∃ v r, gs = (f, v) :: r ∧ Rep K W d v ∧ Repk K W ds r

section
variable {K : PySem.W.Frag} {W W' : Hp}
theorem sqL_mono (e : Same W W') {a : Addr} {vs : List V} (h : SqL K W a vs) : SqL K W' a vs := e.seq h
theorem sqT_mono (e : Same W W') {a : Addr} {vs : List V} (h : SqT K W a vs) : SqT K W' a vs := by
  rcases h with (h | ⟨o, h⟩) | h
  · exact .inl (.inl (e _ _ h))
  · exact .inl (.inr ⟨o, e _ _ h⟩)
  · exact .inr h
mutual
theorem Rep.mono (e : Same W W') : ∀ {d : D} {v : V}, Rep K W d v → Rep K W' d v
  | .non, _, h => h
  | .bl _, _, h => h
  | .int _, _, h => h
  | .str _, _, h => h
  | .ref _, _, h => h
  | .lst _, _, ⟨a, vs, e1, e2, e3⟩ => ⟨a, vs, e1, e _ _ e2, Reps.mono e e3⟩
  | .tup _, _, ⟨a, vs, e1, e2, e3⟩ => ⟨a, vs, e1, sqT_mono e e2, Reps.mono e e3⟩
  | .fro _, _, ⟨a, vs, e1, e2, e3⟩ => ⟨a, vs, e1, sqL_mono e e2, Reps.mono e e3⟩
  | .obj _ _ _, _, ⟨a, dx, gs, vs, e1, e2, e4, e5, e3⟩ => ⟨a, dx, gs, vs, e1, e _ _ e2, e4, e5, Reps.mono e e3⟩
  | .exc _ _ _ _ _, _, ⟨e1, gs, u, e2, e3, e4⟩ => ⟨e1, gs, u, e _ _ e2, e3, Rep.mono e e4⟩
theorem Reps.mono (e : Same W W') : ∀ {ds : List D} {vs : List V}, Reps K W ds vs → Reps K W' ds vs
  | [], _, h => h
  | _ :: _, _, ⟨v, r, e1, e2, e3⟩ => ⟨v, r, e1, Rep.mono e e2, Reps.mono e e3⟩
end
theorem Repk.mono {κ : Type} (e : Same W W') : ∀ {ds : List (κ × D)} {vs : List (κ × V)}, Repk K W ds vs → Repk K W' ds vs
  | [], _, h => h
  | (_, _) :: _, _, ⟨v, r, e1, e2, e3⟩ => ⟨v, r, e1, Rep.mono e e2, Repk.mono e e3⟩
theorem Reps.length : ∀ {ds : List D} {vs : List V}, Reps K W ds vs → vs.length = ds.length
  | [], _, h => by rw [show _ = [] from h]; rfl
  | _ :: ds, _, ⟨v, r, e1, e2, e3⟩ => by
    subst e1
    show r.length + 1 = ds.length + 1
    rw [Reps.length e3]
theorem Reps.get : ∀ {ds : List D} {vs : List V} {i : Nat} {d : D}, Reps K W ds vs → ds[i]? = some d → ∃ v, vs[i]? = some v ∧ Rep K W d v
  | [], _, _, _, _, e => by simp at e
  | _ :: _, _, 0, _, ⟨v, r, e1, e2, e3⟩, e => by
    subst e1
    have e' := Option.some.inj e
    subst e'
    exact ⟨v, rfl, e2⟩
  | _ :: _, _, i + 1, _, ⟨v, r, e1, e2, e3⟩, e => by
    subst e1
    exact Reps.get (i := i) e3 e
theorem Reps.append : ∀ {ds es : List D} {vs ws : List V}, Reps K W ds vs → Reps K W es ws → Reps K W (ds ++ es) (vs ++ ws)
  | [], _, _, _, h, h' => by
    rw [show _ = [] from h]
    exact h'
  | _ :: _, _, _, _, ⟨v, r, e1, e2, e3⟩, h' => by
    subst e1
    exact ⟨v, _, rfl, e2, Reps.append e3 h'⟩
theorem Reps.one {d : D} {v : V} (h : Rep K W d v) : Reps K W [d] [v] := ⟨v, [], rfl, h, rfl⟩
theorem Reps.take : ∀ {ds : List D} {vs : List V} (n : Nat), Reps K W ds vs → Reps K W (ds.take n) (vs.take n)
  | [], _, n, h => by
    rw [show _ = [] from h, List.take_nil, List.take_nil]; rfl
  | _ :: _, _, 0, _ => by rw [List.take_zero, List.take_zero]; rfl
  | _ :: _, _, n + 1, ⟨v, r, e1, e2, e3⟩ => by
    subst e1
    exact ⟨v, _, rfl, e2, Reps.take n e3⟩
theorem Reps.drop : ∀ {ds : List D} {vs : List V} (n : Nat), Reps K W ds vs → Reps K W (ds.drop n) (vs.drop n)
  | [], _, n, h => by
    rw [show _ = [] from h, List.drop_nil, List.drop_nil]; rfl
  | _ :: _, _, 0, h => h
  | _ :: _, _, n + 1, ⟨v, r, e1, e2, e3⟩ => by
    subst e1
    exact Reps.drop n e3
theorem Reps.set {d : D} {v : V} (h : Rep K W d v) : ∀ {ds : List D} {vs : List V} (i : Nat), Reps K W ds vs → Reps K W (ds.set i d) (vs.set i v)
  | [], _, _, h' => by
    rw [show _ = [] from h']; rfl
  | _ :: _, _, 0, ⟨_, r, e1, e2, e3⟩ => by
    subst e1
    exact ⟨v, r, rfl, h, e3⟩
  | _ :: _, _, i + 1, ⟨w, r, e1, e2, e3⟩ => by
    subst e1
    exact ⟨w, _, rfl, e2, Reps.set h i e3⟩
theorem Repf.mono (e : Same W W') {fs : List (Str × D)} {gs : List (Str × V)} (h : Repf K W fs gs) : Repf K W' fs gs := fun f d q => by
  obtain ⟨v, a, b⟩ := h f d q
  exact ⟨v, a, b.mono e⟩
/-- slots of an environment, fields of an instance -/
def getV : DE → Nat → Option D
  | [], _ => none
  | x :: _, 0 => x
  | _ :: r, i + 1 => getV r i
def setV : DE → Nat → D → DE
  | [], _, _ => []
  | _ :: r, 0, d => some d :: r
  | x :: r, i + 1, d => x :: setV r i d
def cntV : DE → Nat
  | [] => 0
  | none :: r => cntV r
  | some _ :: r => cntV r + 1
theorem getV_setV : ∀ {e : DE} {i j : Nat} {d x : D}, getV (setV e i d) j = some x → (j = i ∧ x = d) ∨ (j ≠ i ∧ getV e j = some x)
  | [], _, _, _, _, h => by cases h
  | _ :: r, 0, 0, d, x, h => .inl ⟨rfl, (Option.some.inj h).symm⟩
  | _ :: r, 0, j + 1, d, x, h => .inr ⟨Nat.succ_ne_zero j, h⟩
  | y :: r, i + 1, 0, d, x, h => .inr ⟨(Nat.succ_ne_zero i).symm, h⟩
  | y :: r, i + 1, j + 1, d, x, h => by
    rcases getV_setV (e := r) (i := i) (j := j) h with ⟨a, b⟩ | ⟨a, b⟩
    · exact .inl ⟨by rw [a], b⟩
    · exact .inr ⟨fun z => a (Nat.succ.inj z), b⟩
theorem getV_set_ne : ∀ {e : DE} {i j : Nat} {d : D}, j ≠ i → getV (setV e i d) j = getV e j
  | [], _, _, _, _ => rfl
  | _ :: r, 0, 0, d, h => absurd rfl h
  | _ :: r, 0, j + 1, d, h => rfl
  | y :: r, i + 1, 0, d, h => rfl
  | y :: r, i + 1, j + 1, d, h => getV_set_ne (e := r) (i := i) (j := j) fun z => h (by rw [z])
theorem getV_set_same : ∀ {e : DE} {i : Nat} {d : D}, i < e.length → getV (setV e i d) i = some d
  | [], _, _, h => absurd h (Nat.not_lt_zero _)
  | _ :: r, 0, d, _ => rfl
  | y :: r, i + 1, d, h => getV_set_same (e := r) (i := i) (Nat.lt_of_succ_lt_succ h)
theorem setV_length : ∀ {e : DE} {i : Nat} {d : D}, (setV e i d).length = e.length
  | [], _, _ => rfl
  | _ :: r, 0, d => rfl
  | y :: r, i + 1, d => congrArg (· + 1) (setV_length (e := r) (i := i))
theorem cntV_le : ∀ e : DE, cntV e ≤ e.length
  | [] => Nat.le_refl _
  | none :: r => Nat.le_succ_of_le (cntV_le r)
  | some _ :: r => Nat.succ_le_succ (cntV_le r)
theorem cntV_none : ∀ {e : DE} {i : Nat} {d : D}, i < e.length → getV e i = none → cntV (setV e i d) = cntV e + 1
  | [], _, _, h, _ => absurd h (Nat.not_lt_zero _)
  | none :: r, 0, d, _, _ => rfl
  | some _ :: r, 0, d, _, h => by cases h
  | none :: r, i + 1, d, h, q => cntV_none (e := r) (i := i) (Nat.lt_of_succ_lt_succ h) q
  | some _ :: r, i + 1, d, h, q => congrArg (· + 1) (cntV_none (e := r) (i := i) (Nat.lt_of_succ_lt_succ h) q)
theorem cntV_some : ∀ {e : DE} {i : Nat} {d x : D}, getV e i = some x → cntV (setV e i d) = cntV e
  | [], _, _, _, h => by cases h
  | none :: r, 0, d, _, h => by cases h
  | some _ :: r, 0, d, _, h => rfl
  | none :: r, i + 1, d, _, q => cntV_some (e := r) (i := i) q
  | some _ :: r, i + 1, d, _, q => congrArg (· + 1) (cntV_some (e := r) (i := i) q)
theorem putF_len {f : Str} {v w : V} : ∀ {gs : List (Str × V)}, gs.lookup f = some w → (putF f v gs).length = gs.length
  | [], h => by cases h
  | (g, x) :: r, h => by
    show (if g = f then (g, v) :: r else (g, x) :: putF f v r).length = r.length + 1
    by_cases q : g = f
    · rw [if_pos q]; rfl
    · rw [if_neg q]
      have hb : (f == g) = false := beq_eq_false_iff_ne.mpr fun z => q z.symm
      rw [List.lookup_cons, hb] at h
      show (putF f v r).length + 1 = r.length + 1
      rw [putF_len (gs := r) h]
/-- an instance's fields -/
structure FRep (K : PySem.W.Frag) (W : Hp) (N : List Str) (xs : DE) (gs : List (Str × V)) : Prop where
  nd : N.Nodup
  few : N.length ≤ 900
  len : xs.length = N.length
  is : ∀ (i : Nat) (f : Str) (d : D), N[i]? = some f → getV xs i = some d → ∃ v, gs.lookup f = some v ∧ Rep K W d v
  no : ∀ (i : Nat) (f : Str), N[i]? = some f → getV xs i = none → gs.lookup f = none
  out : ∀ f : Str, f ∉ N → gs.lookup f = none
  cnt : gs.length ≤ cntV xs
theorem FRep.mono (e : Same W W') {N : List Str} {xs : DE} {gs : List (Str × V)} (h : FRep K W N xs gs) : FRep K W' N xs gs :=
  ⟨h.nd, h.few, h.len, fun i f d a b => by
    obtain ⟨v, c, r⟩ := h.is i f d a b
    exact ⟨v, c, r.mono e⟩, h.no, h.out, h.cnt⟩
theorem FRep.lt {N : List Str} {xs : DE} {gs : List (Str × V)} (h : FRep K W N xs gs) : gs.length < 1000 := by
  have a := h.cnt
  have b := cntV_le xs
  have c := h.len
  have d := h.few
  omega
theorem FRep.put {N : List Str} {xs : DE} {gs : List (Str × V)} (h : FRep K W N xs gs) {i : Nat} {f : Str} {d : D} {v : V} (hi : N[i]? = some f) (r : Rep K W d v) : FRep K W N (setV xs i d) (putF f v gs) := by
  have hlt : i < N.length := (List.getElem?_eq_some_iff.mp hi).1
  have hlx : i < xs.length := by rw [h.len]; exact hlt
  refine ⟨h.nd, h.few, by rw [setV_length]; exact h.len, fun j g x hj hx => ?_, fun j g hj hx => ?_, fun g hg => ?_, ?_⟩
  · rw [lookup_putF]
    rcases getV_setV hx with ⟨a, b⟩ | ⟨a, b⟩
    · subst a b
      rw [hi] at hj
      cases hj
      exact ⟨v, if_pos rfl, r⟩
    · have ne : g ≠ f := fun z => a (by subst z; exact nodup_ix h.nd hj hi)
      obtain ⟨w, c, rr⟩ := h.is j g x hj b
      exact ⟨w, by rw [if_neg ne]; exact c, rr⟩
  · rw [lookup_putF]
    by_cases e : j = i
    · subst e
      rw [getV_set_same hlx] at hx
      cases hx
    · rw [getV_set_ne e] at hx
      have ne : g ≠ f := fun z => e (by subst z; exact nodup_ix h.nd hj hi)
      rw [if_neg ne]
      exact h.no j g hj hx
  · have ne : g ≠ f := fun z => hg (by subst z; exact List.mem_of_getElem? hi)
    rw [lookup_putF, if_neg ne]
    exact h.out g hg
  · cases q : getV xs i with
    | none =>
      rw [cntV_none hlx q]
      exact Nat.le_trans (length_putF f v gs) (Nat.succ_le_succ h.cnt)
    | some x =>
      obtain ⟨w, c, _⟩ := h.is i f x hi q
      rw [cntV_some q, putF_len c]
      exact h.cnt
end

/-! ### keys: tuples of ints, bools, None and of such tuples -/
mutual
def nkD : D → Option NestedKey
  | .non => some .none
  | .bl b => some (.num (if b = true then 1 else 0))
  | .int i => some (.num i)
  | .tup xs => (nksD xs).map NestedKey.tup
  | _ => none
def nksD : List D → Option (List NestedKey)
  | [] => some []
  | d :: r => (nkD d).bind fun k => (nksD r).map (k :: ·)
end
mutual
def khash : NestedKey → Int
  | .none => reduceHash 0xFCA86420
  | .num i => hashInt i
  | .text _ => 0
  | .tup ks => reduceHash (Builtin.Tuple.tupleHashOf (khashes ks))
def khashes : List NestedKey → List Int
  | [] => []
  | k :: ks => khash k :: khashes ks
end
/-- a dict's object: its entries -/
def dnP (a : Addr) (xs : List (NestedKey × Addr × Value)) : Heap → Prop := fun h => ∃ ob es ep, h.get? a = some ob ∧ ob.ExactDict ∧ ob.data = .dict es ep ∧ es.toList = xs.map fun x => ⟨khash x.1, .ref x.2.1, x.2.2⟩
def DN (K : PySem.W.Frag) (W : Hp) : List (D × D) → List (NestedKey × Addr × Value) → Prop
  | [], xs => xs = []
  | p :: r, xs => ∃ k b u v r', xs = (k, b, u) :: r' ∧ (nkD p.1 = some k ∧ k.depth ≤ 8) ∧ Rep K W p.1 (.ref b) ∧ (Rep K W p.2 v ∧ RelV v u) ∧ DN K W r r'
theorem DN.mono {K : PySem.W.Frag} {W W' : Hp} (e : Same W W') : ∀ {ds : List (D × D)} {xs : List (NestedKey × Addr × Value)}, DN K W ds xs → DN K W' ds xs
  | [], _, h => h
  | _ :: _, _, ⟨k, b, u, v, r', e1, e2, e3, ⟨e4, e5⟩, e6⟩ => ⟨k, b, u, v, r', e1, e2, e3.mono e, ⟨e4.mono e, e5⟩, DN.mono e e6⟩
/-- what stands at a mutable object's address -/
def MRep (K : PySem.W.Frag) (W : Hp) : MO → HO → Prop
  | .lst xs, o => ∃ vs, o = .lst vs ∧ Reps K W xs vs
  | .ins C N xs, o => ∃ dx gs, o = .ins C dx gs ∧ FRep K W N xs gs
  | .dK kvs, o => ∃ ws, o = .dK ws ∧ Repk K W kvs ws
  | .dN a kvs, o => ∃ xs, o = .ext (dnP a xs) ∧ (kvs.length ≤ sizeLine ∧ (a == sysModules) = false ∧ (xs.map (·.1)).Nodup) ∧ DN K W kvs xs
theorem MRep.mono {K : PySem.W.Frag} {W W' : Hp} (e : Same W W') : ∀ {m : MO} {o : HO}, MRep K W m o → MRep K W' m o
  | .lst _, _, ⟨vs, e1, e2⟩ => ⟨vs, e1, Reps.mono e e2⟩
  | .ins _ _ _, _, ⟨dx, gs, e1, e2⟩ => ⟨dx, gs, e1, e2.mono e⟩
  | .dK _, _, ⟨ws, e1, e2⟩ => ⟨ws, e1, Repk.mono e e2⟩
  | .dN _ _, _, ⟨xs, e1, z, e2⟩ => ⟨xs, e1, z, DN.mono e e2⟩
/-- the heap: what is seen and never changes (W), the store (S) -/
structure Ok (K : PySem.W.Frag) (W : Hp) (S : Sto) (H : Hp) : Prop where
  vis : Same W H
  sto : ∀ a m, S a = some m → ∃ o, H a = some o ∧ MRep K W m o
  sep : ∀ a m, S a = some m → W a = none
def delV : DE → Nat → DE
  | [], _ => []
  | _ :: r, 0 => none :: r
  | x :: r, i + 1 => x :: delV r i
def Sl (K : PySem.W.Frag) (W : Hp) (e : DE) (σ : L2.St) : Prop := ∀ i d, getV e i = some d → ∃ v, σ[i]? = some (some v) ∧ Rep K W d v
theorem getV_delV : ∀ {e : DE} {i j : Nat} {x : D}, getV (delV e i) j = some x → j ≠ i ∧ getV e j = some x
  | [], _, _, _, h => by cases h
  | _ :: r, 0, 0, x, h => by cases h
  | _ :: r, 0, j + 1, x, h => ⟨Nat.succ_ne_zero j, h⟩
  | y :: r, i + 1, 0, x, h => ⟨(Nat.succ_ne_zero i).symm, h⟩
  | y :: r, i + 1, j + 1, x, h => by
    obtain ⟨a, b⟩ := getV_delV (e := r) (i := i) (j := j) h
    exact ⟨fun z => a (Nat.succ.inj z), b⟩
section
variable {K : PySem.W.Frag} {W W' : Hp} {S : Sto} {H : Hp} {e : DE} {σ : L2.St}
theorem Sl.mono (z : Same W W') (h : Sl K W e σ) : Sl K W' e σ := fun i d q => by
  obtain ⟨v, a, b⟩ := h i d q
  exact ⟨v, a, b.mono z⟩
theorem lt_of_some {α : Type} {l : List α} {i : Nat} {x : α} (h : l[i]? = some x) : i < l.length := (List.getElem?_eq_some_iff.mp h).1
theorem Sl.set {i : Nat} {d : D} {v : V} (h : Sl K W e σ) (hi : i < σ.length) (r : Rep K W d v) : Sl K W (setV e i d) (σ.set i (some v)) := fun j x q => by
  rcases getV_setV q with ⟨a, b⟩ | ⟨a, b⟩
  · subst a b
    exact ⟨v, List.getElem?_set_self hi, r⟩
  · obtain ⟨w, c, f⟩ := h j x b
    exact ⟨w, by rw [List.getElem?_set_ne (Ne.symm a)]; exact c, f⟩
theorem Ok.fresh (ok : Ok K W S H) {p : Addr} (h : H p = none) : W p = none ∧ S p = none := by
  constructor
  · cases q : W p with
    | none => rfl
    | some o => rw [ok.vis _ _ q] at h; cases h
  · cases q : S p with
    | none => rfl
    | some m =>
      obtain ⟨o, e, _⟩ := ok.sto _ _ q
      rw [e] at h; cases h
theorem same_new {p : Addr} {o : HO} (h : W p = none) : Same W (upd W p o) := fun b x e => by
  rw [upd_ne (ne_of_none e h)]
  exact e
/-- a new object that never changes -/
theorem Ok.newW (ok : Ok K W S H) {p : Addr} {o : HO} (h : H p = none) : Ok K (upd W p o) S (upd H p o) := by
  obtain ⟨hW, hS⟩ := ok.fresh h
  refine ⟨fun b x e => ?_, fun a m e => ?_, fun a m e => ?_⟩
  · by_cases q : b = p
    · subst q; rw [upd_same] at e ⊢; exact e
    · rw [upd_ne q] at e ⊢; exact ok.vis _ _ e
  · obtain ⟨x, e1, e2⟩ := ok.sto _ _ e
    refine ⟨x, ?_, e2.mono (same_new hW)⟩
    rw [upd_ne (ne_of_S e hS)]; exact e1
  · rw [upd_ne (ne_of_S e hS)]; exact ok.sep _ _ e
/-- a new mutable object -/
theorem Ok.newS (ok : Ok K W S H) {p : Addr} {o : HO} {m : MO} (h : H p = none) (r : MRep K W m o) : Ok K W (put S p m) (upd H p o) := by
  obtain ⟨hW, hS⟩ := ok.fresh h
  refine ⟨fun b x e => ?_, fun a n e => ?_, fun a n e => ?_⟩
  · rw [upd_ne (ne_of_none e hW)]; exact ok.vis _ _ e
  · by_cases q : a = p
    · subst q
      rw [put_same] at e
      cases e
      exact ⟨o, upd_same, r⟩
    · rw [put_ne q] at e
      obtain ⟨x, e1, e2⟩ := ok.sto _ _ e
      exact ⟨x, by rw [upd_ne q]; exact e1, e2⟩
  · by_cases q : a = p
    · subst q; exact hW
    · rw [put_ne q] at e; exact ok.sep _ _ e
/-- a mutable object changes -/
theorem Ok.chg (ok : Ok K W S H) {p : Addr} {o : HO} {m m0 : MO} (h : S p = some m0) (r : MRep K W m o) : Ok K W (put S p m) (upd H p o) := by
  have hW := ok.sep _ _ h
  refine ⟨fun b x e => ?_, fun a n e => ?_, fun a n e => ?_⟩
  · rw [upd_ne (ne_of_none e hW)]; exact ok.vis _ _ e
  · by_cases q : a = p
    · subst q
      rw [put_same] at e
      cases e
      exact ⟨o, upd_same, r⟩
    · rw [put_ne q] at e
      obtain ⟨x, e1, e2⟩ := ok.sto _ _ e
      exact ⟨x, by rw [upd_ne q]; exact e1, e2⟩
  · by_cases q : a = p
    · subst q; exact hW
    · rw [put_ne q] at e; exact ok.sep _ _ e
/-- a mutable object is thrown out of the store -/
theorem Ok.less (ok : Ok K W S H) {S' : Sto} (h : ∀ a m, S' a = some m → S a = some m) : Ok K W S' H :=
  ⟨ok.vis, fun a m e => ok.sto a m (h a m e), fun a m e => ok.sep a m (h a m e)⟩
theorem Ok.del (ok : Ok K W S H) (a : Addr) : Ok K W (del S a) H := ok.less fun b m e => by
  unfold DL.del at e
  by_cases q : b = a
  · rw [if_pos q] at e; cases e
  · rw [if_neg q] at e; exact e
/-- a mutable object never changes again -/
theorem Ok.frz (ok : Ok K W S H) {a : Addr} {m : MO} {o : HO} (h : S a = some m) (ho : H a = some o) : Ok K (upd W a o) (DL.del S a) H := by
  have hW := ok.sep _ _ h
  refine ⟨fun b x e => ?_, fun b n e => ?_, fun b n e => ?_⟩
  · by_cases q : b = a
    · subst q; rw [upd_same] at e; cases e; exact ho
    · rw [upd_ne q] at e; exact ok.vis _ _ e
  · unfold DL.del at e
    by_cases q : b = a
    · rw [if_pos q] at e; cases e
    · rw [if_neg q] at e
      obtain ⟨x, e1, e2⟩ := ok.sto _ _ e
      exact ⟨x, e1, e2.mono (same_new hW)⟩
  · unfold DL.del at e
    by_cases q : b = a
    · rw [if_pos q] at e; cases e
    · rw [if_neg q] at e
      rw [upd_ne q]; exact ok.sep _ _ e
end
end DL
set_option Elab.async false
set_option linter.all false
set_option maxRecDepth 100000
set_option maxHeartbeats 2000000
/-! The data layer, part b: judgements over data, expressions, statements, calls. -/
namespace DL
open PySem PySem.Spec PyProof.Rows L2

/-- what a step keeps: what is seen, and what belongs to nobody here -/
structure Stp (W : Hp) (S : Sto) (H : Hp) (W' : Hp) (S' : Sto) (H' : Hp) : Prop where
  vis : Same W W'
  frm : ∀ a o, H a = some o → W a = none → S a = none → H' a = some o ∧ W' a = none ∧ S' a = none
theorem Stp.refl {W : Hp} {S : Sto} {H : Hp} : Stp W S H W S H := ⟨Same.refl W, fun _ _ h1 h2 h3 => ⟨h1, h2, h3⟩⟩
theorem Stp.trans {W W1 W2 : Hp} {S S1 S2 : Sto} {H H1 H2 : Hp} (a : Stp W S H W1 S1 H1) (b : Stp W1 S1 H1 W2 S2 H2) : Stp W S H W2 S2 H2 :=
  ⟨a.vis.trans b.vis, fun p o h1 h2 h3 => let ⟨x, y, z⟩ := a.frm p o h1 h2 h3; b.frm p o x y z⟩
section
variable {K : PySem.W.Frag} {W : Hp} {S : Sto} {H : Hp} {p : Addr} {o : HO} {m m0 : MO}
theorem Ok.stW (ok : Ok K W S H) (h : H p = none) : Stp W S H (upd W p o) S (upd H p o) :=
  ⟨same_new (ok.fresh h).1, fun a x h1 h2 h3 => by
    have ne : a ≠ p := ne_of_none h1 h
    exact ⟨by rw [upd_ne ne]; exact h1, by rw [upd_ne ne]; exact h2, h3⟩⟩
theorem Ok.stS (ok : Ok K W S H) (h : H p = none) : Stp W S H W (put S p m) (upd H p o) :=
  ⟨Same.refl W, fun a x h1 h2 h3 => by
    have ne : a ≠ p := ne_of_none h1 h
    exact ⟨by rw [upd_ne ne]; exact h1, h2, by rw [put_ne ne]; exact h3⟩⟩
theorem Ok.stJ (ok : Ok K W S H) (h : H p = none) : Stp W S H W S (upd H p o) :=
  ⟨Same.refl W, fun a x h1 h2 h3 => ⟨by rw [upd_ne (ne_of_none h1 h)]; exact h1, h2, h3⟩⟩
theorem Ok.stC (ok : Ok K W S H) (h : S p = some m0) : Stp W S H W (put S p m) (upd H p o) :=
  ⟨Same.refl W, fun a x h1 h2 h3 => by
    have ne : a ≠ p := fun e => by subst e; rw [h] at h3; cases h3
    exact ⟨by rw [upd_ne ne]; exact h1, h2, by rw [put_ne ne]; exact h3⟩⟩
theorem Ok.stF (ok : Ok K W S H) (h : S p = some m0) : Stp W S H (upd W p o) (DL.del S p) H :=
  ⟨same_new (ok.sep _ _ h), fun a x h1 h2 h3 => by
    have ne : a ≠ p := fun e => by subst e; rw [h] at h3; cases h3
    exact ⟨h1, by rw [upd_ne ne]; exact h2, by unfold DL.del; rw [if_neg ne]; exact h3⟩⟩
end
abbrev XQ := Addr → List (Str × D) → Sto → Prop
abbrev Qd := D → Sto → Prop
abbrev WPe := DE → Sto → Qd → XQ → Prop
abbrev WPt := DE → Sto → (Bool → Sto → Prop) → XQ → Prop
abbrev WPa := DE → Sto → (List D → Sto → Prop) → XQ → Prop
structure QS where
  nx : DE → Sto → Prop
  rt : D → Sto → Prop
  bk : DE → Sto → Prop
  ct : DE → Sto → Prop
  xc : Addr → List (Str × D) → DE → Sto → Prop
abbrev WPs := DE → Sto → QS → Prop
abbrev Ctr := List D → Sto → Qd → XQ → Prop
def X0 : XQ := fun _ _ _ => False
def some! {α : Type} (o : Option α) (k : α → Prop) : Prop := match o with | some a => k a | none => False
theorem some!_ex {α : Type} {o : Option α} {k : α → Prop} (h : some! o k) : ∃ a, o = some a ∧ k a := by
  cases o with
  | none => exact h.elim
  | some a => exact ⟨a, rfl, h⟩

section
variable (K : PySem.W.Frag)
def CV (W : Hp) (S : Sto) (H : Hp) (Q0 : Qd) (Q : VK) : Prop := ∀ d S' v W' H', Q0 d S' → Stp W S H W' S' H' → Ok K W' S' H' → Rep K W' d v → Q v H'
def CVs (W : Hp) (S : Sto) (H : Hp) (Q0 : List D → Sto → Prop) (Q : List V → Hp → Prop) : Prop := ∀ d S' v W' H', Q0 d S' → Stp W S H W' S' H' → Ok K W' S' H' → Reps K W' d v → Q v H'
def CB (W : Hp) (S : Sto) (H : Hp) (Q0 : Bool → Sto → Prop) (Q : Bool → Hp → Prop) : Prop := ∀ b S' W' H', Q0 b S' → Stp W S H W' S' H' → Ok K W' S' H' → Q b H'
def CXc (W : Hp) (S : Sto) (H : Hp) (X0 : XQ) (E : XK) : Prop := ∀ C fs S' dd gs W' H', X0 C fs S' → Stp W S H W' S' H' → Ok K W' S' H' → W' dd = some (.xd gs) → Repf K W' fs gs → E (.ref C) (some dd) H'
def lE (Wx : WX) (w : WPe) : TE := fun σ H Q => ∃ W env S Q0 X0, Ok K W S H ∧ Sl K W env σ ∧ w env S Q0 X0 ∧ CV K W S H Q0 Q ∧ CXc K W S H X0 (fun c d H' => Wx c d σ H')
def lT (Wx : WX) (w : WPt) : TT := fun σ H Q => ∃ W env S Q0 X0, Ok K W S H ∧ Sl K W env σ ∧ w env S Q0 X0 ∧ CB K W S H Q0 Q ∧ CXc K W S H X0 (fun c d H' => Wx c d σ H')
def lA (Wx : WX) (w : WPa) : TA := fun σ H Q => ∃ W env S Q0 X0, Ok K W S H ∧ Sl K W env σ ∧ w env S Q0 X0 ∧ CVs K W S H Q0 Q ∧ CXc K W S H X0 (fun c d H' => Wx c d σ H')
structure CS (Wx : WX) (W : Hp) (S : Sto) (H : Hp) (q : QS) (D : Ends) : Prop where
  nx : ∀ e S' σ' W' H', q.nx e S' → Stp W S H W' S' H' → Ok K W' S' H' → Sl K W' e σ' → D.nx σ' H'
  rt : ∀ d S' v W' H', q.rt d S' → Stp W S H W' S' H' → Ok K W' S' H' → Rep K W' d v → D.rt v H'
  bk : ∀ e S' σ' W' H', q.bk e S' → Stp W S H W' S' H' → Ok K W' S' H' → Sl K W' e σ' → D.bk σ' H'
  ct : ∀ e S' σ' W' H', q.ct e S' → Stp W S H W' S' H' → Ok K W' S' H' → Sl K W' e σ' → D.ct σ' H'
  xc : ∀ C fs e S' dd gs σ' W' H', q.xc C fs e S' → Stp W S H W' S' H' → Ok K W' S' H' → Sl K W' e σ' → W' dd = some (.xd gs) → Repf K W' fs gs → Wx (.ref C) (some dd) σ' H'
def lS (Wx : WX) (n : Nat) (w : WPs) : TS := fun D σ H => ∃ W env S q, Ok K W S H ∧ Sl K W env σ ∧ σ.length = n ∧ w env S q ∧ CS K Wx W S H q { D with nx := fun σ' H' => σ'.length = n → D.nx σ' H', bk := fun σ' H' => σ'.length = n → D.bk σ' H', ct := fun σ' H' => σ'.length = n → D.ct σ' H' }
def lSp (spec : Ctr) : Sp := fun vs H Q E => ∃ W S ds Q0 X0, Ok K W S H ∧ Reps K W ds vs ∧ spec ds S Q0 X0 ∧ CV K W S H Q0 Q ∧ CXc K W S H X0 E
/-- an operation on two values -/
abbrev O2 := Sto → D → D → Qd → Prop
def lOp (o : O2) : R2 := fun x y H Q => ∃ W S a b Q0, Ok K W S H ∧ Rep K W a x ∧ Rep K W b y ∧ o S a b Q0 ∧ CV K W S H Q0 Q
/-- a call of a built-in on values -/
abbrev OC := Sto → List D → Qd → Prop
def lC (o : OC) : List V → Hp → VK → Prop := fun xs H Q => ∃ W S ds Q0, Ok K W S H ∧ Reps K W ds xs ∧ o S ds Q0 ∧ CV K W S H Q0 Q
/-- a method of a built-in type: may change the store -/
abbrev OM := Sto → D → List D → Qd → Prop
end
section
variable {K : PySem.W.Frag} {W W' : Hp} {S S2 : Sto} {H H2 : Hp}
theorem CV.mono {Q0 : Qd} {Q : VK} (e : Stp W S H W' S2 H2) (h : CV K W S H Q0 Q) : CV K W' S2 H2 Q0 Q := fun d S' v W2 H' q s => h d S' v W2 H' q (e.trans s)
theorem CXc.mono {X0 : XQ} {E : XK} (e : Stp W S H W' S2 H2) (h : CXc K W S H X0 E) : CXc K W' S2 H2 X0 E := fun C fs S' dd gs W2 H' q s => h C fs S' dd gs W2 H' q (e.trans s)
theorem CXc.no {E : XK} : CXc K W S H X0 E := fun _ _ _ _ _ _ _ h => h.elim
theorem CS.mono {Wx : WX} {q : QS} {D : Ends} (e : Stp W S H W' S2 H2) (h : CS K Wx W S H q D) : CS K Wx W' S2 H2 q D :=
  ⟨fun a b c d f g s => h.nx a b c d f g (e.trans s), fun a b c d f g s => h.rt a b c d f g (e.trans s), fun a b c d f g s => h.bk a b c d f g (e.trans s), fun a b c d f g s => h.ct a b c d f g (e.trans s),
    fun a b c d f g i j k l s => h.xc a b c d f g i j k l (e.trans s)⟩
end

section
variable (X : Cx)
structure PD (e : Expr) (w : WPe) : Prop where
  run : ∀ Wx, Takes X Wx → PE X e (lE X.K Wx w)
structure PDt (e : Expr) (w : WPt) : Prop where
  run : ∀ Wx, Takes X Wx → PT X e (lT X.K Wx w)
structure PDw (e : Expr) (w : WPt) : Prop where
  run : ∀ Wx, Takes X Wx → PW X e (lT X.K Wx w)
structure PDa (es : List Expr) (w : WPa) : Prop where
  run : ∀ Wx, Takes X Wx → PA X es (lA X.K Wx w)
structure PDs (st : Stmt) (w : WPs) : Prop where
  run : ∀ Wx, Takes X Wx → PS X st (lS X.K Wx X.N.length w)
structure PDss (st : List Stmt) (w : WPs) : Prop where
  run : ∀ Wx, Takes X Wx → PSs X st (lS X.K Wx X.N.length w)
end
section
variable {X : Cx} {e a b c : Expr} {es : List Expr} {pos : Pos}
theorem PE.imp {t t' : TE} (h : PE X e t) (i : ∀ σ H Q, t' σ H Q → t σ H Q) : PE X e t' := ⟨fun pins s σ H Q I q => h.run pins s σ H Q I (i σ H Q q)⟩
theorem PT.imp {t t' : TT} (h : PT X e t) (i : ∀ σ H Q, t' σ H Q → t σ H Q) : PT X e t' := ⟨fun pins s σ H Q I q => h.run pins s σ H Q I (i σ H Q q)⟩
theorem PW.imp {t t' : TT} (h : PW X e t) (i : ∀ σ H Q, t' σ H Q → t σ H Q) : PW X e t' := ⟨fun wh pins s σ H Q I q => h.run wh pins s σ H Q I (i σ H Q q)⟩
theorem PA.imp {t t' : TA} (h : PA X es t) (i : ∀ σ H Q, t' σ H Q → t σ H Q) : PA X es t' := ⟨fun po pins s σ H Q I q => h.run po pins s σ H Q I (i σ H Q q)⟩
theorem PS.imp {st : Stmt} {t t' : TS} (h : PS X st t) (i : ∀ D σ H, t' D σ H → t D σ H) : PS X st t' := ⟨fun pins s σ H D I q => h.run pins s σ H D I (i D σ H q)⟩
theorem PSs.imp {st : List Stmt} {t t' : TS} (h : PSs X st t) (i : ∀ D σ H, t' D σ H → t D σ H) : PSs X st t' := ⟨fun pins s σ H D I q => h.run pins s σ H D I (i D σ H q)⟩

/-! ### names, constants -/
def wVar (i : Nat) : WPe := fun env S Q _ => some! (getV env i) fun d => Q d S
def wC (d : D) : WPe := fun _ S Q _ => Q d S
theorem pd_var (i : Nat) {x : Str} (hN : X.N[i]? = some x := by rfl) (hv : Vis X.env.scope x := by first | exact Or.inl rfl | exact Or.inr (Or.inl rfl) | exact Or.inr (Or.inr rfl)) (hd : (x == ("__debug__" : Str)) = false := by decide)
    (hcd : (x == ("__classdict__" : Str)) = false := by decide) : PD X (.Name x pos) (wVar i) := ⟨fun Wx tk => PE.imp (pe_var hN hv hd hcd) fun σ H Q ⟨W, env, S, Q0, X1, ok, sl, hw, cv, cx⟩ => by
  obtain ⟨d, hd, q⟩ := some!_ex hw
  obtain ⟨v, hv, r⟩ := sl i d hd
  exact ⟨v, hv, cv d S v W H q Stp.refl ok r⟩⟩
theorem pd_c {d : D} {v : V} (h : PE X e (tC v)) (r : ∀ W, Rep X.K W d v) : PD X e (wC d) := ⟨fun Wx tk => PE.imp h fun σ H Q ⟨W, env, S, Q0, X1, ok, sl, hw, cv, cx⟩ => cv d S v W H hw Stp.refl ok (r W)⟩
theorem pd_int {i : Int} {j : Nat} : PD X (.Constant (.int i) j pos) (wC (.int i)) := pd_c pe_int fun _ => rfl
theorem pd_bl {i : Bool} {j : Nat} : PD X (.Constant (.bool i) j pos) (wC (.bl i)) := pd_c pe_bl fun _ => rfl
theorem pd_non {j : Nat} : PD X (.Constant .none j pos) (wC .non) := pd_c pe_non fun _ => rfl
theorem pd_str {x : Str} {j : Nat} : PD X (.Constant (.str x) j pos) (wC (.str x)) := pd_c pe_str fun _ => rfl

/-! ### two places, one place -/
def wBin (o : O2) (wa wb : WPe) : WPe := fun env S Q X => wa env S (fun x S1 => wb env S1 (fun y S2 => o S2 x y Q) X) X
theorem bin_go {K : PySem.W.Frag} {Wx : WX} {o : O2} {wa wb : WPe} {σ : L2.St} {H : Hp} {Q : VK} (h : lE K Wx (wBin o wa wb) σ H Q) : tOp (lOp K o) (lE K Wx wa) (lE K Wx wb) σ H Q := by
  obtain ⟨W, env, S, Q0, X1, ok, sl, hw, cv, cx⟩ := h
  refine ⟨W, env, S, _, X1, ok, sl, hw, fun x S1 v W1 H1 h1 s1 ok1 r1 => ?_, cx⟩
  refine ⟨W1, env, S1, _, X1, ok1, sl.mono s1.vis, h1, fun y S2 u W2 H2 h2 s2 ok2 r2 => ?_, cx.mono s1⟩
  exact ⟨W2, S2, x, y, Q0, ok2, r1.mono s2.vis, r2, h2, cv.mono (s1.trans s2)⟩
theorem pd_op {op : Operator} {o : O2} {wa wb : WPe} (ho : OpR X (binaryOp op) (lOp X.K o)) (ha : PD X a wa) (hb : PD X b wb) : PD X (.BinOp a op b pos) (wBin o wa wb) :=
  ⟨fun Wx tk => PE.imp (pe_op ho (ha.run Wx tk) (hb.run Wx tk)) fun _ _ _ h => bin_go h⟩
theorem pd_cmp {op : CmpOp} {o : O2} {wa wb : WPe} (ho : OpR X (compareOp op) (lOp X.K o)) (ha : PD X a wa) (hb : PD X b wb) (hm : behindInMarks op b = false) : PD X (.Compare a [op] [b] pos) (wBin o wa wb) :=
  ⟨fun Wx tk => PE.imp (pe_cmpR ho (ha.run Wx tk) (hb.run Wx tk) hm) fun _ _ _ h => bin_go h⟩
theorem pd_ix {o : O2} {wa wb : WPe} (hr : IxR X (lOp X.K o)) (ha : PD X a wa) (hb : PD X b wb) (hs : PlainIx b := by exact fun _ _ => rfl) : PD X (.Subscript a b pos) (wBin o wa wb) :=
  ⟨fun Wx tk => PE.imp (pe_ix hr (ha.run Wx tk) (hb.run Wx tk) hs) fun _ _ _ h => bin_go h⟩
abbrev O1 := Sto → D → Qd → Prop
def lU (K : PySem.W.Frag) (o : O1) : V → Hp → VK → Prop := fun x H Q => ∃ W S a Q0, Ok K W S H ∧ Rep K W a x ∧ o S a Q0 ∧ CV K W S H Q0 Q
def wUn (o : O1) (wa : WPe) : WPe := fun env S Q X => wa env S (fun x S1 => o S1 x Q) X
theorem pd_un {op : UnaryOp} {o : O1} {wa : WPe} (ho : UnR X (unaryOp op) (lU X.K o)) (ha : PD X a wa) : PD X (.UnaryOp op a pos) (wUn o wa) :=
  ⟨fun Wx tk => PE.imp (pe_un ho (ha.run Wx tk)) fun σ H Q ⟨W, env, S, Q0, X1, ok, sl, hw, cv, cx⟩ => ⟨W, env, S, _, X1, ok, sl, hw, fun x S1 v W1 H1 h1 s1 ok1 r1 => ⟨W1, S1, x, Q0, ok1, r1, h1, cv.mono s1⟩, cx⟩⟩
/-! ### tests -/
def wTest (w : WPe) : WPt := fun env S Q X => w env S (fun d S' => match d with | .bl b => Q b S' | _ => False) X
/-- a comparison as a test -/
theorem pdt_cmp {op : CmpOp} {o : O2} {wa wb : WPe} (ho : OpR X (compareOp op) (lOp X.K o)) (ha : PD X a wa) (hb : PD X b wb) (hm : behindInMarks op b = false) : PDt X (.Compare a [op] [b] pos) (wTest (wBin o wa wb)) :=
  ⟨fun Wx tk => PT.imp (pt_cmpR ho (ha.run Wx tk) (hb.run Wx tk) hm) fun σ H Q ⟨W, env, S, Q0, X1, ok, sl, hw, cv, cx⟩ => bin_go ⟨W, env, S, _, X1, ok, sl, hw, fun d S1 v W1 H1 h1 s1 ok1 r1 => by
    cases d with
    | bl k =>
      have e : v = .bl k := r1
      exact ⟨k, e, cv k S1 W1 H1 h1 s1 ok1⟩
    | _ => exact h1.elim, cx⟩⟩
/-- an expression whose value is a bool -/
theorem pdt_val {w : WPe} (h : PD X e w) (he : ∀ whole, isTrue e X.env whole = (do let v ← whole; standAt e.pos; holding [v] (truthy v)) := by intro _; rfl) : PDt X e (wTest w) :=
  ⟨fun Wx tk => PT.imp (pt_val (h.run Wx tk) he) fun σ H Q ⟨W, env, S, Q0, X1, ok, sl, hw, cv, cx⟩ => ⟨W, env, S, _, X1, ok, sl, hw, fun d S1 v W1 H1 h1 s1 ok1 r1 => by
    cases d with
    | bl k =>
      have e : v = .bl k := r1
      exact ⟨k, e, cv k S1 W1 H1 h1 s1 ok1⟩
    | _ => exact h1.elim, cx⟩⟩
def wAnd (w u : WPt) : WPt := fun env S Q X => w env S (fun b S1 => if b = true then u env S1 Q X else Q false S1) X
def wOr (w u : WPt) : WPt := fun env S Q X => w env S (fun b S1 => if b = true then Q true S1 else u env S1 Q X) X
def wNot (w : WPt) : WPt := fun env S Q X => w env S (fun b S1 => Q (!b) S1) X
variable {wa wb wc : WPe} {ta tb : WPt} {rest : List Expr}
theorem pdw_and1 (ha : PDt X a ta) : PDw X (.BoolOp .And [a] pos) ta := ⟨fun Wx tk => pw_and1 (ha.run Wx tk)⟩
theorem pdw_or1 (ha : PDt X a ta) : PDw X (.BoolOp .Or [a] pos) ta := ⟨fun Wx tk => pw_or1 (ha.run Wx tk)⟩
theorem pdw_and (ha : PDt X a ta) (hb : PDw X (.BoolOp .And (b :: rest) pos) tb) : PDw X (.BoolOp .And (a :: b :: rest) pos) (wAnd ta tb) :=
  ⟨fun Wx tk => PW.imp (pw_and (ha.run Wx tk) (hb.run Wx tk)) fun σ H Q ⟨W, env, S, Q0, X1, ok, sl, hw, cv, cx⟩ => ⟨W, env, S, _, X1, ok, sl, hw, fun k S1 W1 H1 h1 s1 ok1 => by
    cases k with
    | true => exact iteT ⟨W1, env, S1, Q0, X1, ok1, sl.mono s1.vis, (if_pos rfl).mp h1, fun b2 S2 W2 H2 q2 s2 => cv b2 S2 W2 H2 q2 (s1.trans s2), cx.mono s1⟩
    | false => exact iteF (cv false S1 W1 H1 ((if_neg Bool.false_ne_true).mp h1) s1 ok1), cx⟩⟩
theorem pdw_or (ha : PDt X a ta) (hb : PDw X (.BoolOp .Or (b :: rest) pos) tb) : PDw X (.BoolOp .Or (a :: b :: rest) pos) (wOr ta tb) :=
  ⟨fun Wx tk => PW.imp (pw_or (ha.run Wx tk) (hb.run Wx tk)) fun σ H Q ⟨W, env, S, Q0, X1, ok, sl, hw, cv, cx⟩ => ⟨W, env, S, _, X1, ok, sl, hw, fun k S1 W1 H1 h1 s1 ok1 => by
    cases k with
    | true => exact iteT (cv true S1 W1 H1 ((if_pos rfl).mp h1) s1 ok1)
    | false => exact iteF ⟨W1, env, S1, Q0, X1, ok1, sl.mono s1.vis, (if_neg Bool.false_ne_true).mp h1, fun b2 S2 W2 H2 q2 s2 => cv b2 S2 W2 H2 q2 (s1.trans s2), cx.mono s1⟩, cx⟩⟩
theorem PDw.pt (h : PDw X e ta) : PDt X e ta := ⟨fun Wx tk => (h.run Wx tk).pt⟩
theorem pdt_not (ha : PDt X a ta) : PDt X (.UnaryOp .Not a pos) (wNot ta) :=
  ⟨fun Wx tk => PT.imp (pt_not (ha.run Wx tk)) fun σ H Q ⟨W, env, S, Q0, X1, ok, sl, hw, cv, cx⟩ => ⟨W, env, S, _, X1, ok, sl, hw, fun k S1 W1 H1 h1 s1 ok1 => cv (!k) S1 W1 H1 h1 s1 ok1, cx⟩⟩
/-- and, or, not as values: bools -/
def wAndV (wa wb : WPe) : WPe := fun env S Q X => wa env S (fun d S1 => match d with | .bl b => if b = true then wb env S1 Q X else Q (.bl false) S1 | _ => False) X
def wOrV (wa wb : WPe) : WPe := fun env S Q X => wa env S (fun d S1 => match d with | .bl b => if b = true then Q (.bl true) S1 else wb env S1 Q X | _ => False) X
def wNotV (wa : WPe) : WPe := fun env S Q X => wa env S (fun d S1 => match d with | .bl b => Q (.bl (!b)) S1 | _ => False) X
theorem pd_one {op} (ha : PD X a wa) : PD X (.BoolOp op [a] pos) wa := ⟨fun Wx tk => pe_one (ha.run Wx tk)⟩
theorem pd_and (ha : PD X a wa) (hb : PD X (.BoolOp .And (b :: rest) pos) wb) : PD X (.BoolOp .And (a :: b :: rest) pos) (wAndV wa wb) :=
  ⟨fun Wx tk => PE.imp (pe_and (ha.run Wx tk) (hb.run Wx tk)) fun σ H Q ⟨W, env, S, Q0, X1, ok, sl, hw, cv, cx⟩ => ⟨W, env, S, _, X1, ok, sl, hw, fun k S1 v W1 H1 h1 s1 ok1 r1 => by
    cases k with
    | bl k =>
      refine ⟨k, r1, ?_⟩
      cases k with
      | true => exact iteT ⟨W1, env, S1, Q0, X1, ok1, sl.mono s1.vis, (if_pos rfl).mp h1, cv.mono s1, cx.mono s1⟩
      | false => exact iteF (cv _ S1 _ W1 H1 ((if_neg Bool.false_ne_true).mp h1) s1 ok1 rfl)
    | _ => exact h1.elim, cx⟩⟩
theorem pd_or (ha : PD X a wa) (hb : PD X (.BoolOp .Or (b :: rest) pos) wb) : PD X (.BoolOp .Or (a :: b :: rest) pos) (wOrV wa wb) :=
  ⟨fun Wx tk => PE.imp (pe_or (ha.run Wx tk) (hb.run Wx tk)) fun σ H Q ⟨W, env, S, Q0, X1, ok, sl, hw, cv, cx⟩ => ⟨W, env, S, _, X1, ok, sl, hw, fun k S1 v W1 H1 h1 s1 ok1 r1 => by
    cases k with
    | bl k =>
      refine ⟨k, r1, ?_⟩
      cases k with
      | true => exact iteT (cv _ S1 _ W1 H1 ((if_pos rfl).mp h1) s1 ok1 rfl)
      | false => exact iteF ⟨W1, env, S1, Q0, X1, ok1, sl.mono s1.vis, (if_neg Bool.false_ne_true).mp h1, cv.mono s1, cx.mono s1⟩
    | _ => exact h1.elim, cx⟩⟩
theorem pd_not (ha : PD X a wa) : PD X (.UnaryOp .Not a pos) (wNotV wa) :=
  ⟨fun Wx tk => PE.imp (pe_not (ha.run Wx tk)) fun σ H Q ⟨W, env, S, Q0, X1, ok, sl, hw, cv, cx⟩ => ⟨W, env, S, _, X1, ok, sl, hw, fun k S1 v W1 H1 h1 s1 ok1 r1 => by
    cases k with
    | bl k => exact ⟨k, r1, cv _ S1 _ W1 H1 h1 s1 ok1 rfl⟩
    | _ => exact h1.elim, cx⟩⟩
def wIfE (t : WPt) (wa wb : WPe) : WPe := fun env S Q X => t env S (fun k S1 => if k = true then wa env S1 Q X else wb env S1 Q X) X
theorem pd_ifE (hc : PDt X c ta) (ha : PD X a wa) (hb : PD X b wb) : PD X (.IfExp c a b pos) (wIfE ta wa wb) :=
  ⟨fun Wx tk => PE.imp (pe_ifExp (hc.run Wx tk) (ha.run Wx tk) (hb.run Wx tk)) fun σ H Q ⟨W, env, S, Q0, X1, ok, sl, hw, cv, cx⟩ => ⟨W, env, S, _, X1, ok, sl, hw, fun k S1 W1 H1 h1 s1 ok1 => by
    cases k with
    | true => exact iteT ⟨W1, env, S1, Q0, X1, ok1, sl.mono s1.vis, (if_pos rfl).mp h1, cv.mono s1, cx.mono s1⟩
    | false => exact iteF ⟨W1, env, S1, Q0, X1, ok1, sl.mono s1.vis, (if_neg Bool.false_ne_true).mp h1, cv.mono s1, cx.mono s1⟩, cx⟩⟩
/-- a < b < c -/
def wChain (o o' : O2) (wa wb wc : WPe) : WPe := fun env S Q X => wa env S (fun x S1 => wb env S1 (fun y S2 => o S2 x y fun k S3 => match k with | .bl k => if k = true then wc env S3 (fun z S4 => o' S4 y z Q) X else Q (.bl false) S3 | _ => False) X) X
end
end DL
set_option Elab.async false
set_option linter.all false
set_option maxRecDepth 100000
set_option maxHeartbeats 2000000
/-! The data layer, part c: calls, displays, fields, statements. -/
namespace DL
open PySem PySem.Spec PyProof.Rows L2

section
variable {X : Cx} {CX : CXT} {k : Nat} {f C : Addr} {fd : FuncData} {ps : List Str} {sp : Sp} {E : L2.St → XK} {x m : Str} {p pos apos : Pos} {e o : Expr} {es : List Expr} {ta : TE} {t : TA}
def tMethS (C : Addr) (m : Str) (sp : Sp) (E : L2.St → XK) (ta : TE) (t : TA) : TE := fun σ H Q => ta σ H fun x H1 => ∃ a dx fs, x = .ref a ∧ H1 a = some (.ins C dx fs) ∧ fs.lookup m = none ∧
  t σ H1 fun vs H2 => sp (x :: vs) H2 Q (E σ)
theorem run_fnN {pins : List (Addr × Obj)} {σ : L2.St} {H : Hp} {s : Shared} {Q : VK} {us : List Value} {vs : List V} (F : FnOk X.prog X.w X.K X.mg X.base CX k f fd ps sp) (hr : Room k X.A) (hb : Binds X.K fd ps []) (hx : PassesAt CX X σ (E σ))
    (I : Inv X pins σ H s) (r : Vals vs us) (h : sp vs H Q (E σ)) : wpAny (model X.prog X.w) X.A (call (.ref f) us) (EP X pins σ Q) X.xe s := run_fnS F hr hb hx I r h
theorem pe_methS {pl : Sem Bool} (he : PE X o ta) (c : Cls X.K C) (hm : Meth X.K C m f) (F : FnOk X.prog X.w X.K X.mg X.base CX k f fd ps sp) (hr : Room k X.A) (hb : Binds X.K fd ps []) (hx : ∀ σ, PassesAt CX X σ (E σ)) (ha : PA X (e :: es) t)
    (hst : starEach (e :: es) X.env = (false, eval e X.env) :: starEach es X.env := by rfl) (hpl : (backTo pos (starEach es X.env)).any (·.1) = false := by rfl)
    (ht : eval (.Call (.Attribute o m apos) (e :: es) [] pos) X.env = (do
      let ov ← eval o X.env
      standAt apos.atName
      let (f, first) ← holding [ov] (getMethod ov m pl)
      callWith pos f first (backTo pos (starEach (e :: es) X.env)) (backToKw pos (keywordEach [] X.env))) := by rfl) :
    PE X (.Call (.Attribute o m apos) (e :: es) [] pos) (tMethS C m sp E ta t) := by
  refine ⟨fun pins s σ H Q I h => ?_⟩
  refine PySem.W.methodCall_KW (pl := pl) (thn (he.run pins s σ H _ I h) fun u s1 ⟨x, H1, I1, rx, a, dx, fs, ex, ea, l, q⟩ => ?_) ht
  subst ex
  obtain rfl : u = Value.ref a := rx
  refine getmeth_ok I1 ea c hm l ?_
  refine PySem.W.callWith_K (first := [.ref a]) (h₀ := X.base) I.ok.mod.kin hm.kp (thn (ha.run pos pins s1 σ H1 _ I1 q) fun us s2 ⟨vs, H2, I2, r, q2⟩ => ⟨I2.kIn, ?_⟩) hst hpl
  exact run_fnN (us := .ref a :: us) (vs := .ref a :: vs) F hr hb (hx σ) I2 (.cons rfl r) q2
theorem pe_meth0S {pl : Sem Bool} (he : PE X o ta) (c : Cls X.K C) (hm : Meth X.K C m f) (F : FnOk X.prog X.w X.K X.mg X.base CX k f fd ps sp) (hr : Room k X.A) (hb : Binds X.K fd ps []) (hx : ∀ σ, PassesAt CX X σ (E σ))
    (ht : eval (.Call (.Attribute o m apos) [] [] pos) X.env = (do
      let ov ← eval o X.env
      standAt apos.atName
      let (f, first) ← holding [ov] (getMethod ov m pl)
      callWith pos f first (backTo pos (starEach [] X.env)) (backToKw pos (keywordEach [] X.env))) := by rfl) :
    PE X (.Call (.Attribute o m apos) [] [] pos) (tMethS C m sp E ta tNil) := by
  refine ⟨fun pins s σ H Q I h => ?_⟩
  refine PySem.W.methodCall_KW (pl := pl) (thn (he.run pins s σ H _ I h) fun u s1 ⟨x, H1, I1, rx, a, dx, fs, ex, ea, l, q⟩ => ?_) ht
  subst ex
  obtain rfl : u = Value.ref a := rx
  refine getmeth_ok I1 ea c hm l ?_
  exact PySem.W.callWith_K0 (first := [.ref a]) I1.kIn hm.kp (run_fnN (us := [.ref a]) (vs := [.ref a]) F hr hb (hx σ) I1 (.cons rfl .nil) q)
theorem pe_call0S (F : FnOk X.prog X.w X.K X.mg X.base CX k f fd ps sp) (hr : Room k X.A) (hg : Gl X x) (hm : X.mg x = some (.ref f)) (hk : PySem.W.keepIn X.K (.ref f) = true) (hb : Binds X.K fd ps []) (hx : ∀ σ, PassesAt CX X σ (E σ))
    (hdb : (x == ("__debug__" : Str)) = false := by decide) : PE X (.Call (.Name x p) [] [] pos) (tCallS sp E tNil) := by
  refine ⟨fun pins s σ H Q I h => ?_⟩
  refine wpAny_Call_Name_kw (ld_glob I hg hm ?_ hdb)
  exact PySem.W.callWith_K0 I.kIn hk (run_fnN (us := []) F hr hb (hx σ) I .nil h)
def tMakeS (C : Addr) (sp : Sp) (E : L2.St → XK) (t : TA) : TE := fun σ H Q => t σ H fun vs H1 => ∀ x dx, H1 x = none → H1 dx = none → dx ≠ x →
  sp (.ref x :: vs) (upd (upd H1 dx (.own x)) x (.ins C dx [])) (fun v H2 => v = .non ∧ Q (.ref x) H2) (E σ)
theorem run_makeS {pins : List (Addr × Obj)} {σ : L2.St} {H : Hp} {s : Shared} {Q : VK} {us : List Value} {vs : List V} (M : Mk X.K C f) (F : FnOk X.prog X.w X.K X.mg X.base CX k f fd ps sp) (hr : Room (k + 1) X.A) (hb : Binds X.K fd ps [])
    (hx : PassesAt CX X σ (E σ)) (I : Inv X pins σ H s) (r : Vals vs us)
    (h : ∀ x dx, H x = none → H dx = none → dx ≠ x → sp (.ref x :: vs) (upd (upd H dx (.own x)) x (.ins C dx [])) (fun v H2 => v = .non ∧ Q (.ref x) H2) (E σ)) :
    wpAny (model X.prog X.w) X.A (call (.ref C) us) (EP X pins σ Q) X.xe s := by
  have hq := h (s.heap.objs.size + 1) s.heap.objs.size (I.hok.fresh (Nat.le_succ _)) (I.hok.fresh (Nat.le_refl _)) (Nat.ne_of_lt (Nat.lt_succ_self _))
  have I2 := Inv.made (C := C) I
  have r2 : Vals (V.ref (s.heap.objs.size + 1) :: vs) (Value.ref (s.heap.objs.size + 1) :: us) := .cons rfl r
  have hl : (Value.ref (s.heap.objs.size + 1) :: us ++ []).length = ps.length := by
    have e := r2.length
    rw [F.len _ _ _ _ hq] at e
    rw [List.append_nil]
    exact e.symm
  have hbb := hb { s with heap := (s.heap.push PySem.W.emptyDict).push (PySem.W.instObj C s.heap.objs.size) } (Value.ref (s.heap.objs.size + 1) :: us) I2.kIn hl
  rw [List.append_nil] at hbb
  refine wpAny_call (make_map (f := f) I.kIn M.makes M.init (beq_iff_eq.mp M.fn) (codeAny_mono (F.run _ X.stack _ _ ⟨Value.ref (s.heap.objs.size + 1) :: us, []⟩ (Value.ref (s.heap.objs.size + 1) :: us) _ _ (E σ) (hr.make C us [])
    (I2.env0.make C us []) hbb r2 hq) fun r s' hq' => ?_))
  cases r with
  | error e => exact hx pins _ _ e s' I2 hq'
  | ok fl =>
    cases fl with
    | ret u =>
      obtain ⟨v, H', I3, rv, ev, q3⟩ := I2.after hq'
      subst ev
      exact ⟨rv, ⟨V.ref (s.heap.objs.size + 1), H', I3, rfl, q3⟩⟩
    | next => exact False.elim hq'
    | brk => exact False.elim hq'
    | cont => exact False.elim hq'
theorem pe_makeS (M : Mk X.K C f) (F : FnOk X.prog X.w X.K X.mg X.base CX k f fd ps sp) (hr : Room (k + 1) X.A) (hg : Gl X x) (hm : X.mg x = some (.ref C)) (hb : Binds X.K fd ps []) (hx : ∀ σ, PassesAt CX X σ (E σ))
    (ha : PA X (e :: es) t) (hdb : (x == ("__debug__" : Str)) = false := by decide) (he : starEach (e :: es) X.env = (false, eval e X.env) :: starEach es X.env := by rfl) (hpl : (backTo pos (starEach es X.env)).any (·.1) = false := by rfl) :
    PE X (.Call (.Name x p) (e :: es) [] pos) (tMakeS C sp E t) := by
  refine ⟨fun pins s σ H Q I h => ?_⟩
  refine wpAny_Call_Name_kw (ld_glob I hg hm ?_ hdb)
  refine PySem.W.callWith_K (h₀ := X.base) I.ok.mod.kin M.kp (thn (ha.run pos pins s σ H _ I h) fun us s1 ⟨vs, H1, I1, r, q⟩ => ⟨I1.kIn, ?_⟩) he hpl
  exact run_makeS M F hr hb (hx σ) I1 r q
end

/-! ### arguments, displays -/
def wNil : WPa := fun _ S Q _ => Q [] S
def wCons (w : WPe) (r : WPa) : WPa := fun env S Q X => w env S (fun d S1 => r env S1 (fun ds S2 => Q (d :: ds) S2) X) X
def wLst (w : WPa) : WPe := fun env S Q X => w env S (fun ds S1 => ds.length ≤ sizeLine ∧ Q (.lst ds) S1) X
def wLstM (w : WPa) : WPe := fun env S Q X => w env S (fun ds S1 => ds.length ≤ sizeLine ∧ ∀ p, S1 p = none → Q (.ref p) (put S1 p (.lst ds))) X
def wTup (w : WPa) : WPe := fun env S Q X => w env S (fun ds S1 => ds.length ≤ sizeLine ∧ Q (.tup ds) S1) X
section
variable {X : Cx} {e : Expr} {es : List Expr} {pos : Pos} {w : WPe} {r : WPa}
theorem pda_nil : PDa X [] wNil := ⟨fun Wx tk => PA.imp pa_nil fun σ H Q ⟨W, env, S, Q0, X1, ok, sl, hw, cv, cx⟩ => cv [] S [] W H hw Stp.refl ok rfl⟩
theorem pda_cons (he : PD X e w) (hr : PDa X es r) (hs : starEach (e :: es) X.env = (false, eval e X.env) :: starEach es X.env := by rfl) : PDa X (e :: es) (wCons w r) :=
  ⟨fun Wx tk => PA.imp (pa_cons (he.run Wx tk) (hr.run Wx tk) hs) fun σ H Q ⟨W, env, S, Q0, X1, ok, sl, hw, cv, cx⟩ => ⟨W, env, S, _, X1, ok, sl, hw, fun d S1 v W1 H1 h1 s1 ok1 r1 =>
    ⟨W1, env, S1, _, X1, ok1, sl.mono s1.vis, h1, fun ds S2 vs W2 H2 h2 s2 ok2 r2 => cv (d :: ds) S2 (v :: vs) W2 H2 h2 (s1.trans s2) ok2 ⟨v, vs, rfl, r1.mono s2.vis, r2⟩, cx.mono s1⟩, cx⟩⟩
theorem pd_lst (h : PDa X es r) : PD X (.List es pos) (wLst r) :=
  ⟨fun Wx tk => PE.imp (pe_lst (h.run Wx tk)) fun σ H Q ⟨W, env, S, Q0, X1, ok, sl, hw, cv, cx⟩ => ⟨W, env, S, _, X1, ok, sl, hw, fun ds S1 vs W1 H1 ⟨hz, h1⟩ s1 ok1 r1 =>
    ⟨by rw [r1.length]; exact hz, fun p hp => cv _ S1 _ _ _ h1 (s1.trans (ok1.stW hp)) (ok1.newW hp) ⟨p, vs, rfl, upd_same, r1.mono (same_new (ok1.fresh hp).1)⟩⟩, cx⟩⟩
theorem pd_lstM (h : PDa X es r) : PD X (.List es pos) (wLstM r) :=
  ⟨fun Wx tk => PE.imp (pe_lst (h.run Wx tk)) fun σ H Q ⟨W, env, S, Q0, X1, ok, sl, hw, cv, cx⟩ => ⟨W, env, S, _, X1, ok, sl, hw, fun ds S1 vs W1 H1 ⟨hz, h1⟩ s1 ok1 r1 =>
    ⟨by rw [r1.length]; exact hz, fun p hp => cv _ _ _ _ _ (h1 p (ok1.fresh hp).2) (s1.trans (ok1.stS hp)) (ok1.newS hp ⟨vs, rfl, r1⟩) rfl⟩, cx⟩⟩
theorem pd_tup {z : Nat} (h : PDa X es r) : PD X (.Tuple es z pos) (wTup r) :=
  ⟨fun Wx tk => PE.imp (pe_tup (h.run Wx tk)) fun σ H Q ⟨W, env, S, Q0, X1, ok, sl, hw, cv, cx⟩ => ⟨W, env, S, _, X1, ok, sl, hw, fun ds S1 vs W1 H1 ⟨hz, h1⟩ s1 ok1 r1 =>
    ⟨by rw [r1.length]; exact hz, fun p hp => cv _ S1 _ _ _ h1 (s1.trans (ok1.stW hp)) (ok1.newW hp) ⟨p, vs, rfl, SqT.of upd_same, r1.mono (same_new (ok1.fresh hp).1)⟩⟩, cx⟩⟩
end

/-! ### calls of own defs -/
abbrev FnD (P : Program) (w : World) (K : PySem.W.Frag) (mg : Str → Option Value) (base : Heap) (k : Nat) (f : Addr) (fd : FuncData) (ps : List Str) (spec : Ctr) : Prop := FnOk P w K mg base (L2.CX P w) k f fd ps (lSp K spec)
def wCall (spec : Ctr) (wa : WPa) : WPe := fun env S Q X => wa env S (fun ds S1 => spec ds S1 Q X) X
/-- an instance of C whose fields are N -/
def isIns (C : Addr) (N : List Str) (S : Sto) (d : D) : Prop := match d with
  | .ref a => match S a with
    | some (.ins C' N' _) => C' = C ∧ N' = N
    | _ => False
  | .obj C' N' _ => C' = C ∧ N' = N
  | _ => False
def wMeth (C : Addr) (N : List Str) (spec : Ctr) (wo : WPe) (wa : WPa) : WPe := fun env S Q X => wo env S (fun o S1 => isIns C N S1 o ∧ wa env S1 (fun ds S2 => spec (o :: ds) S2 Q X) X) X
def noneV : List Str → DE
  | [] => []
  | _ :: r => none :: noneV r
def wMake (C : Addr) (N : List Str) (spec : Ctr) (wa : WPa) : WPe := fun env S Q X => wa env S (fun ds S1 => ∀ x, S1 x = none → spec (.ref x :: ds) (put S1 x (.ins C N (noneV N))) (fun r S2 => r = .non ∧ Q (.ref x) S2) X) X
theorem getV_noneV : ∀ {N : List Str} {i : Nat}, getV (noneV N) i = none
  | [], _ => rfl
  | _ :: _, 0 => rfl
  | _ :: r, i + 1 => getV_noneV (N := r) (i := i)
theorem noneV_length : ∀ {N : List Str}, (noneV N).length = N.length
  | [] => rfl
  | _ :: r => congrArg (· + 1) (noneV_length (N := r))
theorem frep_new {K : PySem.W.Frag} {W : Hp} {N : List Str} (hn : N.Nodup) (hf : N.length ≤ 900) : FRep K W N (noneV N) [] :=
  ⟨hn, hf, noneV_length, (fun i f d _ h => by
    rw [getV_noneV] at h
    cases h), (fun _ _ _ _ => rfl), (fun _ _ => rfl), Nat.zero_le _⟩
theorem Ok.junk {K : PySem.W.Frag} {W : Hp} {S : Sto} {H : Hp} {p : Addr} {o : HO} (ok : Ok K W S H) (h : H p = none) : Ok K W S (upd H p o) :=
  ⟨fun b x e => by rw [upd_ne (ne_of_none (ok.vis _ _ e) h)]; exact ok.vis _ _ e, fun a m e => by
    obtain ⟨x, e1, e2⟩ := ok.sto _ _ e
    exact ⟨x, by rw [upd_ne (ne_of_none e1 h)]; exact e1, e2⟩, ok.sep⟩
theorem isIns_rep {K : PySem.W.Frag} {W : Hp} {S : Sto} {H : Hp} {C : Addr} {N : List Str} {d : D} {v : V} (ok : Ok K W S H) (r : Rep K W d v) (h : isIns C N S d) {m : Str} (hm : m ∉ N) : ∃ a dx fs, v = .ref a ∧ H a = some (.ins C dx fs) ∧ fs.lookup m = none := by
  cases d with
  | ref a =>
    have h' : (match S a with | some (.ins C' N' _) => C' = C ∧ N' = N | _ => False) := h
    cases q : S a with
    | none => rw [q] at h'; exact h'.elim
    | some mo =>
      rw [q] at h'
      cases mo with
      | ins C' N' xs =>
        obtain ⟨e1, e2⟩ := h'
        subst e1 e2
        obtain ⟨o, e3, dx, gs, e4, fr⟩ := ok.sto _ _ q
        subst e4
        exact ⟨a, dx, gs, r, e3, fr.out m hm⟩
      | _ => exact h'.elim
  | obj C' N' xs =>
    obtain ⟨e1, e2⟩ := h
    subst e1 e2
    obtain ⟨a, dx, gs, vs, e1, e2, _, e4, _⟩ := r
    exact ⟨a, dx, gs, e1, ok.vis _ _ e2, e4 m hm⟩
  | _ => exact h.elim
section
variable {X : Cx} {k : Nat} {f C : Addr} {fd : FuncData} {ps : List Str} {spec : Ctr} {x m : Str} {p pos apos : Pos} {e o : Expr} {es : List Expr} {wo : WPe} {wa : WPa}
theorem call_go {Wx : WX} {σ : L2.St} {H : Hp} {Q : VK} {K : PySem.W.Frag} (h : lE K Wx (wCall spec wa) σ H Q) : tCallS (lSp K spec) (WE Wx) (lA K Wx wa) σ H Q := by
  obtain ⟨W, env, S, Q0, X1, ok, sl, hw, cv, cx⟩ := h
  exact ⟨W, env, S, _, X1, ok, sl, hw, fun ds S1 vs W1 H1 h1 s1 ok1 r1 => ⟨W1, S1, ds, Q0, X1, ok1, r1, h1, cv.mono s1, cx.mono s1⟩, cx⟩
theorem pd_call (F : FnD X.prog X.w X.K X.mg X.base k f fd ps spec) (hr : Room k X.A) (hm : X.mg x = some (.ref f)) (hk : PySem.W.keepIn X.K (.ref f) = true) (hb : Binds X.K fd ps [])
    (ha : PDa X (e :: es) wa) (hg : Gl X x := by rfl) (hdb : (x == ("__debug__" : Str)) = false := by decide) (he : starEach (e :: es) X.env = (false, eval e X.env) :: starEach es X.env := by rfl) (hpl : (backTo pos (starEach es X.env)).any (·.1) = false := by rfl) :
    PD X (.Call (.Name x p) (e :: es) [] pos) (wCall spec wa) :=
  ⟨fun Wx tk => PE.imp (pe_callS F hr hg hm hk hb (fun σ => passAt tk σ) (ha.run Wx tk) hdb he hpl) fun _ _ _ h => call_go h⟩
theorem pd_call0 (F : FnD X.prog X.w X.K X.mg X.base k f fd ps spec) (hr : Room k X.A) (hm : X.mg x = some (.ref f)) (hk : PySem.W.keepIn X.K (.ref f) = true) (hb : Binds X.K fd ps [])
    (hg : Gl X x := by rfl) (hdb : (x == ("__debug__" : Str)) = false := by decide) : PD X (.Call (.Name x p) [] [] pos) (wCall spec wNil) :=
  ⟨fun Wx tk => PE.imp (pe_call0S F hr hg hm hk hb (fun σ => passAt tk σ) hdb) fun σ H Q h => by
    obtain ⟨W, env, S, Q0, X1, ok, sl, hw, cv, cx⟩ := h
    exact ⟨W, S, [], Q0, X1, ok, rfl, hw, cv, cx⟩⟩
theorem pd_meth {N : List Str} {pl : Sem Bool} (c : Cls X.K C) (hm : Meth X.K C m f) (hN : m ∉ N) (F : FnD X.prog X.w X.K X.mg X.base k f fd ps spec) (hr : Room k X.A) (hb : Binds X.K fd ps []) (ho : PD X o wo) (ha : PDa X (e :: es) wa)
    (hst : starEach (e :: es) X.env = (false, eval e X.env) :: starEach es X.env := by rfl) (hpl : (backTo pos (starEach es X.env)).any (·.1) = false := by rfl)
    (ht : eval (.Call (.Attribute o m apos) (e :: es) [] pos) X.env = (do
      let ov ← eval o X.env
      standAt apos.atName
      let (f, first) ← holding [ov] (getMethod ov m pl)
      callWith pos f first (backTo pos (starEach (e :: es) X.env)) (backToKw pos (keywordEach [] X.env))) := by rfl) : PD X (.Call (.Attribute o m apos) (e :: es) [] pos) (wMeth C N spec wo wa) :=
  ⟨fun Wx tk => PE.imp (pe_methS (E := WE Wx) (ho.run Wx tk) c hm F hr hb (fun σ => passAt tk σ) (ha.run Wx tk) hst hpl ht) fun σ H Q ⟨W, env, S, Q0, X1, ok, sl, hw, cv, cx⟩ => ⟨W, env, S, _, X1, ok, sl, hw, fun d S1 v W1 H1 ⟨hi, h1⟩ s1 ok1 r1 => by
    obtain ⟨a, dx, fs, e1, e2, e3⟩ := isIns_rep ok1 r1 hi hN
    exact ⟨a, dx, fs, e1, e2, e3, W1, env, S1, _, X1, ok1, sl.mono s1.vis, h1, fun ds S2 vs W2 H2 h2 s2 ok2 r2 => ⟨W2, S2, d :: ds, Q0, X1, ok2, ⟨v, vs, rfl, r1.mono s2.vis, r2⟩, h2, cv.mono (s1.trans s2), cx.mono (s1.trans s2)⟩, cx.mono s1⟩, cx⟩⟩
theorem pd_meth0 {N : List Str} {pl : Sem Bool} (c : Cls X.K C) (hm : Meth X.K C m f) (hN : m ∉ N) (F : FnD X.prog X.w X.K X.mg X.base k f fd ps spec) (hr : Room k X.A) (hb : Binds X.K fd ps []) (ho : PD X o wo)
    (ht : eval (.Call (.Attribute o m apos) [] [] pos) X.env = (do
      let ov ← eval o X.env
      standAt apos.atName
      let (f, first) ← holding [ov] (getMethod ov m pl)
      callWith pos f first (backTo pos (starEach [] X.env)) (backToKw pos (keywordEach [] X.env))) := by rfl) : PD X (.Call (.Attribute o m apos) [] [] pos) (wMeth C N spec wo wNil) :=
  ⟨fun Wx tk => PE.imp (pe_meth0S (E := WE Wx) (ho.run Wx tk) c hm F hr hb (fun σ => passAt tk σ) ht) fun σ H Q ⟨W, env, S, Q0, X1, ok, sl, hw, cv, cx⟩ => ⟨W, env, S, _, X1, ok, sl, hw, fun d S1 v W1 H1 ⟨hi, h1⟩ s1 ok1 r1 => by
    obtain ⟨a, dx, fs, e1, e2, e3⟩ := isIns_rep ok1 r1 hi hN
    exact ⟨a, dx, fs, e1, e2, e3, W1, S1, [d], Q0, X1, ok1, ⟨v, [], rfl, r1, rfl⟩, h1, cv.mono s1, cx.mono s1⟩, cx⟩⟩
theorem pd_make {N : List Str} (M : Mk X.K C f) (hN : N.Nodup) (hl : N.length ≤ 900) (F : FnD X.prog X.w X.K X.mg X.base k f fd ps spec) (hr : Room (k + 1) X.A) (hm : X.mg x = some (.ref C)) (hb : Binds X.K fd ps [])
    (ha : PDa X (e :: es) wa) (hg : Gl X x := by rfl) (hdb : (x == ("__debug__" : Str)) = false := by decide) (he : starEach (e :: es) X.env = (false, eval e X.env) :: starEach es X.env := by rfl) (hpl : (backTo pos (starEach es X.env)).any (·.1) = false := by rfl) :
    PD X (.Call (.Name x p) (e :: es) [] pos) (wMake C N spec wa) :=
  ⟨fun Wx tk => PE.imp (pe_makeS (E := WE Wx) M F hr hg hm hb (fun σ => passAt tk σ) (ha.run Wx tk) hdb he hpl) fun σ H Q ⟨W, env, S, Q0, X1, ok, sl, hw, cv, cx⟩ => ⟨W, env, S, _, X1, ok, sl, hw, fun ds S1 vs W1 H1 h1 s1 ok1 r1 y dy hy hdy hne => by
    have hy2 : (upd H1 dy (HO.own y)) y = none := by rw [upd_ne (Ne.symm hne)]; exact hy
    have ok2 := (ok1.junk (o := .own y) hdy).newS (m := .ins C N (noneV N)) (o := .ins C dy []) hy2 ⟨dy, [], rfl, frep_new hN hl⟩
    have st := (ok1.stJ (o := .own y) hdy).trans (Ok.stS (m := .ins C N (noneV N)) (o := .ins C dy []) (ok1.junk (o := .own y) hdy) hy2)
    exact ⟨W1, _, .ref y :: ds, _, X1, ok2, ⟨_, _, rfl, rfl, r1⟩, h1 y (ok1.fresh hy).2, fun d S2 v W2 H2 ⟨hd, h2⟩ s2 ok3 r2 => by
      subst hd
      exact ⟨r2, cv _ S2 _ W2 H2 h2 (s1.trans (st.trans s2)) ok3 rfl⟩, cx.mono (s1.trans st)⟩, cx⟩⟩
end

/-! ### a mutable object as data from now on; a mutable list lent as data -/
def allV : DE → Option (List D)
  | [] => some []
  | none :: _ => none
  | some d :: r => (allV r).map (d :: ·)
def frzD (S : Sto) (d : D) (Q : Qd) : Prop := match d with
  | .ref a => match S a with
    | some (.lst xs) => Q (.lst xs) (del S a)
    | some (.ins C N xs) => some! (allV xs) fun ys => Q (.obj C N ys) (del S a)
    | _ => False
  | _ => Q d S
def wFrz (w : WPe) : WPe := fun env S Q X => w env S (fun d S1 => frzD S1 d Q) X
theorem allV_get : ∀ {xs : DE} {ys : List D}, allV xs = some ys → ys.length = xs.length ∧ ∀ i, getV xs i = ys[i]?
  | [], ys, h => by
    cases h
    exact ⟨rfl, fun i => by simp [getV]⟩
  | none :: _, ys, h => by cases h
  | some d :: r, ys, h => by
    have h' : (allV r).map (d :: ·) = some ys := h
    cases q : allV r with
    | none => rw [q] at h'; cases h'
    | some zs =>
      rw [q] at h'
      cases h'
      obtain ⟨a, b⟩ := allV_get q
      refine ⟨congrArg (· + 1) a, fun i => ?_⟩
      cases i with
      | zero => rfl
      | succ i => exact b i
theorem reps_of_get {K : PySem.W.Frag} {W : Hp} : ∀ {ys : List D} {g : Nat → Option V}, (∀ i d, ys[i]? = some d → ∃ v, g i = some v ∧ Rep K W d v) → (∀ i, ys.length ≤ i → g i = none) → ∃ vs : List V, Reps K W ys vs ∧ ∀ i, g i = vs[i]?
  | [], g, _, h2 => ⟨[], rfl, fun i => by rw [h2 i (Nat.zero_le _)]; simp⟩
  | d :: r, g, h1, h2 => by
    obtain ⟨v, e, rv⟩ := h1 0 d rfl
    obtain ⟨vs, rr, q⟩ := reps_of_get (ys := r) (g := fun i => g (i + 1)) (fun i d h => h1 (i + 1) d h) (fun i h => h2 (i + 1) (Nat.succ_le_succ h))
    refine ⟨v :: vs, ⟨v, vs, rfl, rv, rr⟩, fun i => ?_⟩
    cases i with
    | zero => exact e
    | succ i => exact q i
theorem frz_go {K : PySem.W.Frag} {W : Hp} {S : Sto} {H : Hp} {d : D} {v : V} {Q0 : Qd} {Q : VK} (ok : Ok K W S H) (r : Rep K W d v) (h : frzD S d Q0) (cv : CV K W S H Q0 Q) : Q v H := by
  cases d with
  | ref a =>
    have r' : v = .ref a := r
    subst r'
    cases q : S a with
    | none => unfold frzD at h; simp only [q] at h
    | some mo =>
      obtain ⟨o, e1, e2⟩ := ok.sto _ _ q
      have hW := ok.sep _ _ q
      cases mo with
      | lst xs =>
        unfold frzD at h
        simp only [q] at h
        obtain ⟨vs, e3, e4⟩ := e2
        subst e3
        exact cv _ _ _ _ _ h (ok.stF q) (ok.frz q e1) ⟨a, vs, rfl, upd_same, e4.mono (same_new hW)⟩
      | ins C N xs =>
        unfold frzD at h
        simp only [q] at h
        obtain ⟨ys, e5, h⟩ := some!_ex h
        obtain ⟨dx, gs, e3, fr⟩ := e2
        subst e3
        obtain ⟨l1, g1⟩ := allV_get e5
        have hlen : N.length = ys.length := by rw [l1, fr.len]
        obtain ⟨vs, rv, gv⟩ := reps_of_get (K := K) (W := W) (ys := ys) (g := fun i => (N[i]?).bind fun f => gs.lookup f) (fun i d hd => by
          have hi : i < N.length := by rw [hlen]; exact lt_of_some hd
          obtain ⟨v, c, rr⟩ := fr.is i N[i] d (List.getElem?_eq_getElem hi) (by rw [g1]; exact hd)
          exact ⟨v, by rw [List.getElem?_eq_getElem hi]; exact c, rr⟩) (fun i hi => by
          rw [List.getElem?_eq_none (by omega)]; rfl)
        refine cv _ _ _ _ _ h (ok.stF q) (ok.frz q e1) ⟨a, dx, gs, vs, rfl, upd_same, fun i f hf => ?_, fr.out, rv.mono (same_new hW)⟩
        rw [← gv i]
        show _ = (N[i]?).bind _
        rw [hf]; rfl
      | _ =>
        unfold frzD at h
        simp only [q] at h
  | _ => exact cv _ _ _ _ _ h Stp.refl ok r
section
variable {X : Cx} {e : Expr} {w : WPe}
theorem pd_frz (h : PD X e w) : PD X e (wFrz w) := ⟨fun Wx tk => PE.imp (h.run Wx tk) fun σ H Q ⟨W, env, S, Q0, X1, ok, sl, hw, cv, cx⟩ => ⟨W, env, S, _, X1, ok, sl, hw, fun d S1 v W1 H1 h1 s1 ok1 r1 => frz_go ok1 r1 h1 (cv.mono s1), cx⟩⟩
end
end DL
set_option Elab.async false
set_option linter.all false
set_option maxRecDepth 100000
set_option maxHeartbeats 2000000
/-! The data layer, part d: operations of values. -/
namespace DL
open PySem PySem.Spec PyProof.Rows L2

/-! ### lists and tuples, however held -/
def seqM (S : Sto) (d : D) : Option (List D) := match d with
  | .lst xs => some xs
  | .ref a => match S a with
    | some (.lst xs) => some xs
    | _ => none
  | _ => none
def seqL (S : Sto) (d : D) : Option (List D) := match d with
  | .fro xs => some xs
  | d => seqM S d
/-- a list or a tuple -/
def seqA (S : Sto) (d : D) : Option (List D) := match d with
  | .tup xs => some xs
  | d => seqL S d
section
variable {K : PySem.W.Frag} {W : Hp} {S : Sto} {H : Hp} {d : D} {v : V} {xs : List D}
theorem seqM_rep (ok : Ok K W S H) (r : Rep K W d v) (h : seqM S d = some xs) : ∃ a vs, v = .ref a ∧ H a = some (.lst vs) ∧ Reps K W xs vs := by
  cases d with
  | lst ys =>
    cases h
    obtain ⟨a, vs, e1, e2, e3⟩ := r
    exact ⟨a, vs, e1, ok.vis _ _ e2, e3⟩
  | ref a =>
    have h' : (match S a with | some (.lst xs) => some xs | _ => none) = some xs := h
    cases q : S a with
    | none => rw [q] at h'; cases h'
    | some m =>
      rw [q] at h'
      cases m with
      | lst ys =>
        cases h'
        obtain ⟨o, e1, vs, e2, e3⟩ := ok.sto _ _ q
        subst e2
        exact ⟨a, vs, r, e1, e3⟩
      | _ => cases h'
  | _ => cases h
theorem seqL_rep (ok : Ok K W S H) (r : Rep K W d v) (h : seqL S d = some xs) : ∃ a vs, v = .ref a ∧ SqL K H a vs ∧ Reps K W xs vs := by
  cases d with
  | fro ys =>
    cases h
    obtain ⟨a, vs, e1, e2, e3⟩ := r
    exact ⟨a, vs, e1, sqL_mono ok.vis e2, e3⟩
  | lst ys =>
    obtain ⟨a, vs, e1, e2, e3⟩ := seqM_rep ok r h
    exact ⟨a, vs, e1, SqL.of e2, e3⟩
  | ref a =>
    obtain ⟨a, vs, e1, e2, e3⟩ := seqM_rep ok r h
    exact ⟨a, vs, e1, SqL.of e2, e3⟩
  | _ => cases h
theorem seqA_rep (ok : Ok K W S H) (r : Rep K W d v) (h : seqA S d = some xs) : ∃ a vs, v = .ref a ∧ (SqL K H a vs ∨ SqT K H a vs) ∧ Reps K W xs vs := by
  cases d with
  | tup ys =>
    cases h
    obtain ⟨a, vs, e1, e2, e3⟩ := r
    exact ⟨a, vs, e1, .inr (sqT_mono ok.vis e2), e3⟩
  | fro ys =>
    obtain ⟨a, vs, e1, e2, e3⟩ := seqL_rep ok r h
    exact ⟨a, vs, e1, .inl e2, e3⟩
  | lst ys =>
    obtain ⟨a, vs, e1, e2, e3⟩ := seqL_rep ok r h
    exact ⟨a, vs, e1, .inl e2, e3⟩
  | ref a =>
    obtain ⟨a, vs, e1, e2, e3⟩ := seqL_rep ok r h
    exact ⟨a, vs, e1, .inl e2, e3⟩
  | _ => cases h
theorem seqM_put {p : Addr} {m : MO} (h : seqM S d = some xs) (hp : S p = none) : seqM (put S p m) d = some xs := by
  cases d with
  | ref a =>
    have h' : (match S a with | some (.lst xs) => some xs | _ => none) = some xs := h
    have ne : a ≠ p := fun e => by subst e; rw [hp] at h'; cases h'
    show (match put S p m a with | some (.lst xs) => some xs | _ => none) = some xs
    rw [put_ne ne]; exact h'
  | _ => exact h
theorem seqL_put {p : Addr} {m : MO} (h : seqL S d = some xs) (hp : S p = none) : seqL (put S p m) d = some xs := by
  cases d with
  | fro ys => exact h
  | ref a => exact seqM_put (d := .ref a) h hp
  | lst ys => exact h
  | _ => cases h
theorem seqA_put {p : Addr} {m : MO} (h : seqA S d = some xs) (hp : S p = none) : seqA (put S p m) d = some xs := by
  cases d with
  | tup ys => exact h
  | fro ys => exact h
  | ref a => exact seqM_put (d := .ref a) h hp
  | lst ys => exact h
  | _ => cases h
/-- a change at p, which is not this list -/
theorem seqA_chg {p : Addr} {m : MO} (h : seqA S d = some xs) (hp : ∀ a, d = .ref a → a ≠ p) : seqA (put S p m) d = some xs := by
  cases d with
  | ref a =>
    have h' : (match S a with | some (.lst xs) => some xs | _ => none) = some xs := h
    show (match put S p m a with | some (.lst xs) => some xs | _ => none) = some xs
    rw [put_ne (hp a rfl)]; exact h'
  | _ => exact h
theorem vals_le {P : Program} {w : World} {h : Heap} {a : Addr} {vs : List V} (hok : HOk P w H h) (e : H a = some (.lst vs)) : vs.length ≤ sizeLine := (hok a _ e).1
end

/-! ### ints in data -/
def toInts : List D → Option (List Int)
  | [] => some []
  | .int i :: r => (toInts r).map (i :: ·)
  | _ :: _ => none
theorem toInts_map : ∀ ns : List Int, toInts (ns.map D.int) = some ns
  | [] => rfl
  | i :: r => by
    show (toInts (r.map D.int)).map (i :: ·) = some (i :: r)
    rw [toInts_map r]; rfl
theorem toInts_rep {K : PySem.W.Frag} {W : Hp} : ∀ {xs : List D} {ns : List Int} {vs : List V}, toInts xs = some ns → Reps K W xs vs → vs = ns.map V.int
  | [], ns, vs, h, r => by
    cases h
    exact r
  | .int i :: xs, ns, vs, h, ⟨v, q, e1, e2, e3⟩ => by
    have h' : (toInts xs).map (i :: ·) = some ns := h
    cases z : toInts xs with
    | none => rw [z] at h'; cases h'
    | some ms =>
      rw [z] at h'
      cases h'
      subst e1
      have e2' : v = .int i := e2
      rw [toInts_rep z e3, e2']; rfl
  | .non :: _, _, _, h, _ => by cases h
  | .bl _ :: _, _, _, h, _ => by cases h
  | .str _ :: _, _, _, h, _ => by cases h
  | .ref _ :: _, _, _, h, _ => by cases h
  | .lst _ :: _, _, _, h, _ => by cases h
  | .tup _ :: _, _, _, h, _ => by cases h
  | .fro _ :: _, _, _, h, _ => by cases h
  | .obj _ _ _ :: _, _, _, h, _ => by cases h
  | .exc _ _ _ _ _ :: _, _, _, h, _ => by cases h
def toBls : List D → Option (List Bool)
  | [] => some []
  | .bl i :: r => (toBls r).map (i :: ·)
  | _ :: _ => none
theorem toBls_map : ∀ ns : List Bool, toBls (ns.map D.bl) = some ns
  | [] => rfl
  | i :: r => by
    show (toBls (r.map D.bl)).map (i :: ·) = some (i :: r)
    rw [toBls_map r]; rfl
theorem toBls_rep {K : PySem.W.Frag} {W : Hp} : ∀ {xs : List D} {ns : List Bool} {vs : List V}, toBls xs = some ns → Reps K W xs vs → vs = ns.map V.bl
  | [], ns, vs, h, r => by
    cases h
    exact r
  | .bl i :: xs, ns, vs, h, ⟨v, q, e1, e2, e3⟩ => by
    have h' : (toBls xs).map (i :: ·) = some ns := h
    cases z : toBls xs with
    | none => rw [z] at h'; cases h'
    | some ms =>
      rw [z] at h'
      cases h'
      subst e1
      have e2' : v = .bl i := e2
      rw [toBls_rep z e3, e2']; rfl
  | .non :: _, _, _, h, _ => by cases h
  | .int _ :: _, _, _, h, _ => by cases h
  | .str _ :: _, _, _, h, _ => by cases h
  | .ref _ :: _, _, _, h, _ => by cases h
  | .lst _ :: _, _, _, h, _ => by cases h
  | .tup _ :: _, _, _, h, _ => by cases h
  | .fro _ :: _, _, _, h, _ => by cases h
  | .obj _ _ _ :: _, _, _, h, _ => by cases h
  | .exc _ _ _ _ _ :: _, _, _, h, _ => by cases h

/-! ### operators on ints -/
section
variable {X : Cx}
def oI (C : Int → Int → Prop) (g : Int → Int → D) : O2 := fun S x y Q => match x, y with
  | .int i, .int j => C i j ∧ Q (g i j) S
  | _, _ => False
def oI0 (g : Int → Int → D) : O2 := fun S x y Q => match x, y with
  | .int i, .int j => Q (g i j) S
  | _, _ => False
theorem OpR.imp {f : Value → Value → Sem Value} {r r' : R2} (h : OpR X f r) (i : ∀ x y H Q, r' x y H Q → r x y H Q) : OpR X f r' := fun pins s σ H x y v u Q I rx ry q => h pins s σ H x y v u Q I rx ry (i _ _ _ _ q)
theorem opI_of {f : Value → Value → Sem Value} {C : Int → Int → Prop} {g : Int → Int → D} {gv : Int → Int → V} (h : OpR X f (rI C gv)) (r : ∀ i j W, Rep X.K W (g i j) (gv i j)) : OpR X f (lOp X.K (oI C g)) :=
  OpR.imp h fun x y H Q ⟨W, S, a, b, Q0, ok, ra, rb, ho, cv⟩ => by
    cases a with
    | int i =>
      cases b with
      | int j => exact ⟨i, j, ra, rb, ho.1, cv _ S _ W H ho.2 Stp.refl ok (r i j W)⟩
      | _ => exact ho.elim
    | _ => exact ho.elim
theorem opI0_of {f : Value → Value → Sem Value} {g : Int → Int → D} {gv : Int → Int → V} (h : OpR X f (rI0 gv)) (r : ∀ i j W, Rep X.K W (g i j) (gv i j)) : OpR X f (lOp X.K (oI0 g)) :=
  OpR.imp h fun x y H Q ⟨W, S, a, b, Q0, ok, ra, rb, ho, cv⟩ => by
    cases a with
    | int i =>
      cases b with
      | int j => exact ⟨i, j, ra, rb, cv _ S _ W H ho Stp.refl ok (r i j W)⟩
      | _ => exact ho.elim
    | _ => exact ho.elim
abbrev oSub : O2 := oI0 fun i j => .int (i - j)
abbrev oMul : O2 := oI CMulW fun i j => .int (i * j)
abbrev oDiv : O2 := oI CDivW fun i j => .int (i / j)
abbrev oMod : O2 := oI (fun _ j => 0 < j) fun i j => .int (i % j)
abbrev oPow : O2 := oI CPow fun i j => .int (i ^ j.toNat)
abbrev oLt : O2 := oI0 fun i j => .bl (decide (i < j))
abbrev oLe : O2 := oI0 fun i j => .bl (decide (i ≤ j))
abbrev oGt : O2 := oI0 fun i j => .bl (decide (j < i))
abbrev oGe : O2 := oI0 fun i j => .bl (decide (j ≤ i))
theorem opd_sub : OpR X (binaryOp .Sub) (lOp X.K oSub) := opI0_of op_sub fun _ _ _ => rfl
theorem opd_mul : OpR X (binaryOp .Mult) (lOp X.K oMul) := opI_of op_mulW fun _ _ _ => rfl
theorem opd_div : OpR X (binaryOp .FloorDiv) (lOp X.K oDiv) := opI_of op_fdivW fun _ _ _ => rfl
theorem opd_mod : OpR X (binaryOp .Mod) (lOp X.K oMod) := opI_of op_mod fun _ _ _ => rfl
theorem opd_pow : OpR X (binaryOp .Pow) (lOp X.K oPow) := opI_of op_pow fun _ _ _ => rfl
theorem opd_lt : OpR X (compareOp .Lt) (lOp X.K oLt) := opI0_of op_lt fun _ _ _ => rfl
theorem opd_le : OpR X (compareOp .LtE) (lOp X.K oLe) := opI0_of op_le fun _ _ _ => rfl
theorem opd_gt : OpR X (compareOp .Gt) (lOp X.K oGt) := opI0_of op_gt fun _ _ _ => rfl
theorem opd_ge : OpR X (compareOp .GtE) (lOp X.K oGe) := opI0_of op_ge fun _ _ _ => rfl
theorem iopd_add : OpR X (inplaceOp .Add) (lOp X.K (oI0 fun i j => .int (i + j))) := opI0_of iop_add fun _ _ _ => rfl
theorem iopd_sub : OpR X (inplaceOp .Sub) (lOp X.K oSub) := opI0_of iop_sub fun _ _ _ => rfl
/-- -i -/
def oNeg : O1 := fun S x Q => match x with
  | .int i => Q (.int (-i)) S
  | _ => False
theorem und_neg : UnR X (unaryOp .USub) (lU X.K oNeg) := fun pins s σ H x v Q I rx h => by
  obtain ⟨W, S, a, Q0, ok, ra, ho, cv⟩ := h
  cases a with
  | int i => exact un_neg pins s σ H x v Q I rx ⟨i, ra, cv _ S _ W H ho Stp.refl ok rfl⟩
  | _ => exact ho.elim

/-! ### + of ints, texts, lists, tuples -/
def oCatL : O2 := fun S x y Q => some! (seqM S x) fun xs => some! (seqM S y) fun ys => xs.length + ys.length ≤ sizeLine ∧ Q (.lst (xs ++ ys)) S
def oAdd : O2 := fun S x y Q => match x, y with
  | .int i, .int j => Q (.int (i + j)) S
  | .str a, .str b => a.length + b.length ≤ sizeLine ∧ Q (.str (a ++ b)) S
  | .tup xs, .tup ys => xs.length + ys.length ≤ sizeLine ∧ Q (.tup (xs ++ ys)) S
  | x, y => oCatL S x y Q
theorem opd_add : OpR X (binaryOp .Add) (lOp X.K oAdd) := fun pins s σ H x y v u Q I rx ry h => by
  obtain ⟨W, S, a, b, Q0, ok, ra, rb, ho, cv⟩ := h
  have catL : oCatL S a b Q0 → wpAny (model X.prog X.w) X.A (binaryOp .Add v u) (EP X pins σ Q) X.xe s := fun z => by
    obtain ⟨xs, e1, z⟩ := some!_ex z
    obtain ⟨ys, e2, hz, z⟩ := some!_ex z
    obtain ⟨p, vs, rfl, hp, r1⟩ := seqM_rep ok ra e1
    obtain ⟨q, ws, rfl, hq, r2⟩ := seqM_rep ok rb e2
    refine op_cat pins s σ H _ _ v u Q I rx ry ⟨p, q, vs, ws, rfl, rfl, hp, hq, by rw [r1.length, r2.length]; exact hz, fun o no => ?_⟩
    have n := ok.fresh no
    exact cv _ S _ _ _ z (ok.stW no) (ok.newW no) ⟨o, _, rfl, upd_same, (r1.append r2).mono (same_new n.1)⟩
  cases a with
  | int i =>
    cases b with
    | int j => exact op_add pins s σ H _ _ v u Q I rx ry ⟨i, j, ra, rb, cv _ S _ W H ho Stp.refl ok rfl⟩
    | _ => exact catL ho
  | str i =>
    cases b with
    | str j => exact op_add_str pins s σ H _ _ v u Q I rx ry ⟨i, j, ra, rb, ho.1, cv _ S _ W H ho.2 Stp.refl ok rfl⟩
    | _ => exact catL ho
  | tup xs =>
    cases b with
    | tup ys =>
      obtain ⟨p, vs, rfl, hp, r1⟩ := id ra
      obtain ⟨q, ws, rfl, hq, r2⟩ := id rb
      have hp' := sqT_mono ok.vis hp
      have hq' := sqT_mono ok.vis hq
      refine op_catA pins s σ H _ _ v u Q I rx ry ⟨p, q, vs, ws, rfl, rfl, hp', hq', by rw [r1.length, r2.length]; exact ho.1, fun z => ?_, fun z1 z2 => ?_, fun z1 z2 o no => ?_⟩
      · subst z
        have e : xs = [] := List.eq_nil_of_length_eq_zero (by rw [← r1.length]; rfl)
        subst e
        exact cv _ S _ W H ho.2 Stp.refl ok ⟨q, ws, rfl, hq, r2⟩
      · subst z2
        have e : ys = [] := List.eq_nil_of_length_eq_zero (by rw [← r2.length]; rfl)
        subst e
        refine cv _ S _ W H ho.2 Stp.refl ok ⟨p, vs, rfl, hp, ?_⟩
        rw [List.append_nil]; exact r1
      · have n := ok.fresh no
        exact cv _ S _ _ _ ho.2 (ok.stW no) (ok.newW no) ⟨o, _, rfl, SqT.of upd_same, (r1.append r2).mono (same_new n.1)⟩
    | _ => exact catL ho
  | _ => exact catL ho

/-! ### == and != of data -/
mutual
def toP : D → PyData
  | .non => .none
  | .bl b => .bool b
  | .int i => .int i
  | .str x => .str x
  | .lst xs => .list (toPs xs)
  | .fro xs => .list (toPs xs)
  | .tup xs => .tuple (toPs xs)
  | .ref _ => .dict []
  | .obj _ _ _ => .dict []
  | .exc _ _ _ _ _ => .dict []
def toPs : List D → List PyData
  | [] => []
  | d :: r => toP d :: toPs r
end
mutual
theorem dp_of {K : PySem.W.Frag} {W H : Hp} (e : Same W H) : ∀ {d : D} {v : V}, Rep K W d v → (toP d).canLay0 = true → Dp K H v (toP d)
  | .non, _, h, _ => by rw [show _ = V.non from h]; exact .non
  | .bl b, _, h, _ => by rw [show _ = V.bl b from h]; exact .bl b
  | .int i, _, h, _ => by rw [show _ = V.int i from h]; exact .int i
  | .str x, _, h, _ => by rw [show _ = V.str x from h]; exact .str x
  | .lst xs, _, ⟨a, vs, e1, e2, e3⟩, c => by subst e1; exact .lst (SqL.of (e _ _ e2)) (dps_of e e3 c)
  | .fro xs, _, ⟨a, vs, e1, e2, e3⟩, c => by subst e1; exact .lst (sqL_mono e e2) (dps_of e e3 c)
  | .tup xs, _, ⟨a, vs, e1, e2, e3⟩, c => by subst e1; exact .tup (sqT_mono e e2) (dps_of e e3 c)
  | .ref _, _, _, c => by cases c
  | .obj _ _ _, _, _, c => by cases c
  | .exc _ _ _ _ _, _, _, c => by cases c
theorem dps_of {K : PySem.W.Frag} {W H : Hp} (e : Same W H) : ∀ {d : List D} {v : List V}, Reps K W d v → PyData.canLayAll0 (toPs d) = true → DpAll K H v (toPs d)
  | [], _, h, _ => by rw [show _ = ([] : List V) from h]; exact .nil
  | d :: ds, _, ⟨v, r, e1, e2, e3⟩, c => by
    subst e1
    have c' : ((toP d).canLay0 && PyData.canLayAll0 (toPs ds)) = true := c
    rw [Bool.and_eq_true] at c'
    exact .cons (dp_of e e2 c'.1) (dps_of e e3 c'.2)
end
/-- a mutable list by what it holds -/
def resD (S : Sto) (d : D) : D := match d with
  | .ref a => match S a with
    | some (.lst xs) => .lst xs
    | _ => .ref a
  | _ => d
theorem dp_res {K : PySem.W.Frag} {W H : Hp} {S : Sto} (ok : Ok K W S H) {d : D} {v : V} (r : Rep K W d v) (c : SeqAt.shaped (toP (resD S d)) = true) : Dp K H v (toP (resD S d)) := by
  have c0 := SeqAt.canLay_of_shaped c
  cases d with
  | ref a =>
    have e : resD S (.ref a) = (match S a with | some (.lst xs) => .lst xs | _ => .ref a) := rfl
    cases q : S a with
    | none => rw [e, q] at c0; cases c0
    | some m =>
      cases m with
      | lst xs =>
        rw [e, q] at c0 ⊢
        obtain ⟨o, e1, vs, e2, e3⟩ := ok.sto _ _ q
        subst e2
        have r' : v = .ref a := r
        subst r'
        exact .lst (SqL.of e1) (dps_of ok.vis e3 c0)
      | _ => rw [e, q] at c0; cases c0
  | _ => exact dp_of ok.vis r c0
def eqD (S : Sto) (x y : D) : Bool := PyData.eqv (toP (resD S x)) (toP (resD S y))
def shD (S : Sto) (x : D) : Bool := SeqAt.shaped (toP (resD S x))
def oEq : O2 := fun S x y Q => shD S x = true ∧ shD S y = true ∧ Q (.bl (eqD S x y)) S
def oNe : O2 := fun S x y Q => shD S x = true ∧ shD S y = true ∧ Q (.bl (!eqD S x y)) S
theorem opd_eq (hu : X.A.units + 64 < cLine) : OpR X (compareOp .Eq) (lOp X.K oEq) := OpR.imp (op_eqD hu) fun x y H Q ⟨W, S, a, b, Q0, ok, ra, rb, ho, cv⟩ =>
  ⟨_, _, dp_res ok ra ho.1, dp_res ok rb ho.2.1, ho.1, ho.2.1, cv _ S _ W H ho.2.2 Stp.refl ok rfl⟩
theorem opd_ne (hu : X.A.units + 64 < cLine) : OpR X (compareOp .NotEq) (lOp X.K oNe) := OpR.imp (op_neD hu) fun x y H Q ⟨W, S, a, b, Q0, ok, ra, rb, ho, cv⟩ =>
  ⟨_, _, dp_res ok ra ho.1, dp_res ok rb ho.2.1, ho.1, ho.2.1, cv _ S _ W H ho.2.2 Stp.refl ok rfl⟩
/-- x is None, x is not None -/
def isNon : D → Bool
  | .non => true
  | _ => false
def oIsN : O2 := fun S x y Q => match y with
  | .non => Q (.bl (isNon x)) S
  | _ => False
def oNotN : O2 := fun S x y Q => match y with
  | .non => Q (.bl (!isNon x)) S
  | _ => False
theorem isNon_rep {K : PySem.W.Frag} {W : Hp} {d : D} {v : V} (r : Rep K W d v) : decide (v = .non) = isNon d := by
  cases d with
  | non => rw [show v = V.non from r]; rfl
  | bl b => rw [show v = V.bl b from r]; rfl
  | int b => rw [show v = V.int b from r]; rfl
  | str b => rw [show v = V.str b from r]; rfl
  | ref b => rw [show v = V.ref b from r]; rfl
  | lst xs => obtain ⟨a, vs, e1, _⟩ := r; rw [e1]; rfl
  | fro xs => obtain ⟨a, vs, e1, _⟩ := r; rw [e1]; rfl
  | tup xs => obtain ⟨a, vs, e1, _⟩ := r; rw [e1]; rfl
  | obj C N xs => obtain ⟨a, dx, gs, vs, e1, _⟩ := r; rw [e1]; rfl
  | exc a dd C f x => rw [show v = V.ref a from r.1]; rfl
theorem opd_isN : OpR X (compareOp .Is) (lOp X.K oIsN) := OpR.imp op_isN fun x y H Q ⟨W, S, a, b, Q0, ok, ra, rb, ho, cv⟩ => by
  cases b with
  | non => exact ⟨rb, by rw [isNon_rep ra]; exact cv _ S _ W H ho Stp.refl ok rfl⟩
  | _ => exact ho.elim
theorem opd_notN : OpR X (compareOp .IsNot) (lOp X.K oNotN) := OpR.imp op_notN fun x y H Q ⟨W, S, a, b, Q0, ok, ra, rb, ho, cv⟩ => by
  cases b with
  | non => exact ⟨rb, by rw [isNon_rep ra]; exact cv _ S _ W H ho Stp.refl ok rfl⟩
  | _ => exact ho.elim

/-! ### items, slices -/
def oIx : O2 := fun S x y Q => match y with
  | .int i => some! (seqA S x) fun xs => some! (atI xs i) fun d => Q d S
  | _ => False
theorem reps_at {K : PySem.W.Frag} {W : Hp} {xs : List D} {vs : List V} {i : Int} {d : D} (r : Reps K W xs vs) (h : atI xs i = some d) : ∃ v, atI vs i = some v ∧ Rep K W d v := by
  unfold atI at h ⊢
  rw [r.length]
  cases q : ixN xs.length i with
  | none => rw [q] at h; cases h
  | some j =>
    rw [q] at h
    obtain ⟨v, e, rv⟩ := r.get (i := j) (d := d) h
    exact ⟨v, e, rv⟩
theorem IxR.imp {r r' : R2} (h : IxR X r) (i : ∀ x y H Q, r' x y H Q → r x y H Q) : IxR X r' := fun va sl pins s σ H x y v u Q I rx ry q hs => h va sl pins s σ H x y v u Q I rx ry (i _ _ _ _ q) hs
theorem ixd : IxR X (lOp X.K oIx) := IxR.imp (ix_list.or ix_tup) fun x y H Q ⟨W, S, a, b, Q0, ok, ra, rb, ho, cv⟩ => by
  cases b with
  | int i =>
    obtain ⟨xs, e1, ho⟩ := some!_ex ho
    obtain ⟨d, e2, ho⟩ := some!_ex ho
    obtain ⟨p, vs, rfl, hq, r1⟩ := seqA_rep ok ra e1
    obtain ⟨v, e3, rv⟩ := reps_at r1 e2
    rcases hq with hq | hq
    · exact .inl ⟨p, vs, i, v, rfl, rb, hq, e3, cv d S v W H ho Stp.refl ok rv⟩
    · exact .inr ⟨p, vs, i, v, rfl, rb, hq, e3, cv d S v W H ho Stp.refl ok rv⟩
  | _ => exact ho.elim
def cutD (xs : List D) (lo hi : Option Int) : List D := (xs.drop (HT.sIx xs.length 0 lo)).take (HT.sIx xs.length xs.length hi - HT.sIx xs.length 0 lo)
theorem reps_cut {K : PySem.W.Frag} {W : Hp} {xs : List D} {vs : List V} {lo hi : Option Int} (r : Reps K W xs vs) : Reps K W (cutD xs lo hi) (cutV vs lo hi) := by
  unfold cutD cutV
  rw [r.length]
  exact (r.drop _).take _
/-- a slice: of a list a new list, of a tuple a tuple -/
def oSl (S : Sto) (x : D) (lo hi : Option Int) (Q : Qd) : Prop := match x with
  | .tup xs => Q (.tup (cutD xs lo hi)) S
  | x => some! (seqL S x) fun xs => Q (.lst (cutD xs lo hi)) S
def lSl (K : PySem.W.Frag) : V → Option Int → Option Int → Hp → VK → Prop := fun x lo hi H Q => ∃ W S a Q0, Ok K W S H ∧ Rep K W a x ∧ oSl S a lo hi Q0 ∧ CV K W S H Q0 Q
theorem sld : SlR X (lSl X.K) := by
  intro pins s σ H x v vl vu lo hi sl Q I rx hs pl pu h
  obtain ⟨W, S, a, Q0, ok, ra, ho, cv⟩ := h
  have onL : some! (seqL S a) (fun xs => Q0 (.lst (cutD xs lo hi)) S) → ∃ T id, typeLookup (.type T) "__getitem__" = pure (some (.builtin id)) ∧ s.TypeIs v T ∧ wpAny (model X.prog X.w) X.A (getItem v (.ref sl)) (EP X pins σ Q) X.xe s := fun z => by
    obtain ⟨xs, e1, z⟩ := some!_ex z
    obtain ⟨p, vs, rfl, hp, r1⟩ := seqL_rep ok ra e1
    refine sl_list pins s σ H _ v vl vu lo hi sl Q I rx hs pl pu ⟨p, vs, rfl, hp, fun o no => ?_⟩
    have n := ok.fresh no
    exact cv _ S _ _ _ z (ok.stW no) (ok.newW no) ⟨o, _, rfl, upd_same, (reps_cut r1).mono (same_new n.1)⟩
  cases a with
  | tup xs =>
    obtain ⟨p, vs, rfl, hp, r1⟩ := id ra
    have hp' := sqT_mono ok.vis hp
    refine sl_tupA pins s σ H _ v vl vu lo hi sl Q I rx hs pl pu ⟨p, vs, rfl, hp', fun z => ?_, fun z o no => ?_⟩
    · refine cv _ S _ W H ho Stp.refl ok ⟨p, vs, rfl, hp, ?_⟩
      have e : cutD xs lo hi = xs := by
        unfold cutD
        rw [r1.length] at z
        rw [z.1, z.2, Nat.sub_zero, List.drop_zero, List.take_length]
      rw [e]; exact r1
    · have n := ok.fresh no
      exact cv _ S _ _ _ ho (ok.stW no) (ok.newW no) ⟨o, _, rfl, SqT.of upd_same, (reps_cut r1).mono (same_new n.1)⟩
  | _ => exact onL ho
end
end DL
set_option Elab.async false
set_option linter.all false
set_option maxRecDepth 100000
set_option maxHeartbeats 400000
/-! The data layer, part e: slices' parts, built-in functions. -/
namespace DL
open PySem PySem.Spec PyProof.Rows L2
section
variable {X : Cx}
/-- the parts of a slice -/
abbrev WPo := DE → Sto → (Option Int → Sto → Prop) → XQ → Prop
def lO (K : PySem.W.Frag) (Wx : WX) (w : WPo) : TO := fun σ H Q => ∃ W env S Q0 X0, Ok K W S H ∧ Sl K W env σ ∧ w env S Q0 X0 ∧ (∀ o S' W' H', Q0 o S' → Stp W S H W' S' H' → Ok K W' S' H' → Q o H') ∧ CXc K W S H X0 (fun c d H' => Wx c d σ H')
structure PDo (X : Cx) (e : Option Expr) (w : WPo) : Prop where
  run : ∀ Wx, Takes X Wx → PO X e (lO X.K Wx w)
def wNoP : WPo := fun _ S Q _ => Q none S
def wP (w : WPe) : WPo := fun env S Q X => w env S (fun d S1 => match d with | .int i => Q (some i) S1 | _ => False) X
theorem PO.imp {e : Option Expr} {t t' : TO} (h : PO X e t) (i : ∀ σ H Q, t' σ H Q → t σ H Q) : PO X e t' := ⟨fun pins s σ H Q I q => h.run pins s σ H Q I (i σ H Q q)⟩
theorem pdo_none : PDo X none wNoP := ⟨fun Wx tk => PO.imp po_none fun σ H Q ⟨W, env, S, Q0, X1, ok, sl, hw, cv, cx⟩ => cv none S W H hw Stp.refl ok⟩
variable {e : Expr} {w : WPe} {wl wu : WPo} {lo hi : Option Expr} {pos p2 : Pos}
theorem pdo_some (h : PD X e w) : PDo X (some e) (wP w) := ⟨fun Wx tk => PO.imp (po_some (h.run Wx tk)) fun σ H Q ⟨W, env, S, Q0, X1, ok, sl, hw, cv, cx⟩ => ⟨W, env, S, _, X1, ok, sl, hw, fun d S1 v W1 H1 h1 s1 ok1 r1 => by
  cases d with
  | int i => exact ⟨i, r1, cv (some i) S1 W1 H1 h1 s1 ok1⟩
  | _ => exact h1.elim, cx⟩⟩
def wSl (we : WPe) (wl wu : WPo) : WPe := fun env S Q X => we env S (fun x S1 => wl env S1 (fun lo S2 => wu env S2 (fun hi S3 => oSl S3 x lo hi Q) X) X) X
theorem pd_slice (he : PD X e w) (hl : PDo X lo wl) (hu : PDo X hi wu) : PD X (.Subscript e (.Slice lo hi none p2) pos) (wSl w wl wu) :=
  ⟨fun Wx tk => PE.imp (pe_slice sld (he.run Wx tk) (hl.run Wx tk) (hu.run Wx tk)) fun σ H Q ⟨W, env, S, Q0, X1, ok, sl, hw, cv, cx⟩ => ⟨W, env, S, _, X1, ok, sl, hw, fun d S1 v W1 H1 h1 s1 ok1 r1 =>
    ⟨W1, env, S1, _, X1, ok1, sl.mono s1.vis, h1, fun o S2 W2 H2 h2 s2 ok2 => ⟨W2, env, S2, _, X1, ok2, sl.mono (s1.trans s2).vis, h2, fun o2 S3 W3 H3 h3 s3 ok3 =>
      ⟨W3, S3, d, Q0, ok3, r1.mono (s2.trans s3).vis, h3, cv.mono (s1.trans (s2.trans s3))⟩, cx.mono (s1.trans s2)⟩, cx.mono s1⟩, cx⟩⟩

/-! ### built-in functions -/
def wCB (o : OC) (wa : WPa) : WPe := fun env S Q X => wa env S (fun ds S1 => o S1 ds Q) X
variable {x : Str} {p : Pos} {es : List Expr} {wa : WPa} {fid T : String} {o : OC}
theorem cb_go {K : PySem.W.Frag} {Wx : WX} {σ : L2.St} {H : Hp} {Q : VK} (h : lE K Wx (wCB o wa) σ H Q) : tCB (lC K o) (lA K Wx wa) σ H Q := by
  obtain ⟨W, env, S, Q0, X1, ok, sl, hw, cv, cx⟩ := h
  exact ⟨W, env, S, _, X1, ok, sl, hw, fun ds S1 vs W1 H1 h1 s1 ok1 r1 => ⟨W1, S1, ds, Q0, ok1, r1, h1, cv.mono s1⟩, cx⟩
theorem pd_callB (hc : CallR X (.builtin fid) (lC X.K o)) (hm : X.mg x = none) (hv : bootBuiltins x = some (.builtin fid)) (ha : PDa X (e :: es) wa) (hg : Gl X x := by rfl) (hn : x ≠ "__name__" := by decide) (hdb : (x == ("__debug__" : Str)) = false := by decide)
    (he : starEach (e :: es) X.env = (false, eval e X.env) :: starEach es X.env := by rfl) (hpl : (backTo pos (starEach es X.env)).any (·.1) = false := by rfl) : PD X (.Call (.Name x p) (e :: es) [] pos) (wCB o wa) :=
  ⟨fun Wx tk => PE.imp (pe_callB hc hg hm hv (ha.run Wx tk) hn hdb he hpl) fun _ _ _ h => cb_go h⟩
theorem pd_callTy (hc : CallR X (.type T) (lC X.K o)) (hm : X.mg x = none) (hv : bootBuiltins x = some (.type T)) (ha : PDa X (e :: es) wa) (hg : Gl X x := by rfl) (hn : x ≠ "__name__" := by decide) (hdb : (x == ("__debug__" : Str)) = false := by decide)
    (he : starEach (e :: es) X.env = (false, eval e X.env) :: starEach es X.env := by rfl) (hpl : (backTo pos (starEach es X.env)).any (·.1) = false := by rfl) : PD X (.Call (.Name x p) (e :: es) [] pos) (wCB o wa) :=
  ⟨fun Wx tk => PE.imp (pe_callTy hc hg hm hv (ha.run Wx tk) hn hdb he hpl) fun _ _ _ h => cb_go h⟩
theorem CallR.imp {f : Value} {r r' : List V → Hp → VK → Prop} (h : CallR X f r) (i : ∀ xs H Q, r' xs H Q → r xs H Q) : CallR X f r' := fun pins s σ H xs us Q I rv q => h pins s σ H xs us Q I rv (i _ _ _ q)
theorem reps1 {K : PySem.W.Frag} {W : Hp} {d : D} {vs : List V} (r : Reps K W [d] vs) : ∃ v, vs = [v] ∧ Rep K W d v := by
  obtain ⟨v, q, e1, e2, e3⟩ := r
  have e3' : q = [] := e3
  subst e1 e3'
  exact ⟨v, rfl, e2⟩
theorem reps2 {K : PySem.W.Frag} {W : Hp} {d e : D} {vs : List V} (r : Reps K W [d, e] vs) : ∃ v u, vs = [v, u] ∧ Rep K W d v ∧ Rep K W e u := by
  obtain ⟨v, q, e1, e2, e3⟩ := r
  obtain ⟨u, rfl, e4⟩ := reps1 e3
  exact ⟨v, u, e1, e2, e4⟩
def one (ds : List D) (k : D → Prop) : Prop := match ds with
  | [d] => k d
  | _ => False
def two (ds : List D) (k : D → D → Prop) : Prop := match ds with
  | [d, e] => k d e
  | _ => False
def asI (d : D) (k : Int → Prop) : Prop := match d with
  | .int i => k i
  | _ => False
theorem one_ex {ds : List D} {k : D → Prop} (h : one ds k) : ∃ d, ds = [d] ∧ k d := by
  cases ds with
  | nil => exact h.elim
  | cons d r =>
    cases r with
    | nil => exact ⟨d, rfl, h⟩
    | cons e r => exact h.elim
theorem two_ex {ds : List D} {k : D → D → Prop} (h : two ds k) : ∃ d e, ds = [d, e] ∧ k d e := by
  cases ds with
  | nil => exact h.elim
  | cons d r =>
    cases r with
    | nil => exact h.elim
    | cons e r =>
      cases r with
      | nil => exact ⟨d, e, rfl, h⟩
      | cons f r => exact h.elim
theorem asI_ex {d : D} {k : Int → Prop} (h : asI d k) : ∃ i, d = .int i ∧ k i := by
  cases d with
  | int i => exact ⟨i, rfl, h⟩
  | _ => exact h.elim
/-- len of a list, a tuple, a text -/
def oLen : OC := fun S ds Q => one ds fun d => match d with
  | .str x => x.length ≤ sizeLine ∧ Q (.int (x.length : Nat)) S
  | d => some! (seqA S d) fun xs => Q (.int (xs.length : Nat)) S
theorem cd_len : CallR X (.builtin "len") (lC X.K oLen) := CallR.imp (call_len_seq.or call_len_str) fun vs H Q ⟨W, S, ds, Q0, ok, r, ho, cv⟩ => by
  obtain ⟨d, rfl, ho⟩ := one_ex ho
  obtain ⟨v, rfl, rv⟩ := reps1 r
  have key : some! (seqA S d) (fun xs => Q0 (.int (xs.length : Nat)) S) → (∃ p ys, [v] = [.ref p] ∧ (SqL X.K H p ys ∨ SqT X.K H p ys) ∧ Q (.int ys.length) H) := fun z => by
    obtain ⟨xs, e1, z⟩ := some!_ex z
    obtain ⟨q, ws, rfl, hq, r1⟩ := seqA_rep ok rv e1
    refine ⟨q, ws, rfl, hq, ?_⟩
    rw [r1.length]
    exact cv _ S _ W H z Stp.refl ok rfl
  cases d with
  | str x => exact .inr ⟨x, by rw [show v = .str x from rv], ho.1, cv _ S _ W H ho.2 Stp.refl ok rfl⟩
  | _ => exact .inl (key ho)
/-- int(n) -/
def oInt : OC := fun S ds Q => one ds fun d => match d with
  | .int i => Q (.int i) S
  | .bl k => Q (.int (if k = true then 1 else 0)) S
  | _ => False
theorem cd_int : CallR X (.type "int") (lC X.K oInt) := CallR.imp call_int1 fun vs H Q ⟨W, S, ds, Q0, ok, r, ho, cv⟩ => by
  obtain ⟨d, rfl, ho⟩ := one_ex ho
  obtain ⟨v, rfl, rv⟩ := reps1 r
  cases d with
  | int i => exact .inl ⟨i, by rw [show v = .int i from rv], cv _ S _ W H ho Stp.refl ok rfl⟩
  | bl k =>
    refine .inr ⟨k, by rw [show v = .bl k from rv], cv _ S _ W H ho Stp.refl ok ?_⟩
    cases k <;> rfl
  | _ => exact ho.elim
/-- max, min of two ints -/
def oMax2 : OC := fun S ds Q => two ds fun a b => asI a fun i => asI b fun j => Q (.int (max i j)) S
def oMin2 : OC := fun S ds Q => two ds fun a b => asI a fun i => asI b fun j => Q (.int (min i j)) S
theorem cd_max2 (hc : X.calm = true) : CallR X (.builtin "max") (lC X.K oMax2) := CallR.imp (call_max2 hc) fun vs H Q ⟨W, S, ds, Q0, ok, r, ho, cv⟩ => by
  obtain ⟨a, b, rfl, ho⟩ := two_ex ho
  obtain ⟨i, rfl, ho⟩ := asI_ex ho
  obtain ⟨j, rfl, ho⟩ := asI_ex ho
  obtain ⟨v, u, rfl, rv, ru⟩ := reps2 r
  have e : (if j > i then j else i) = max i j := by
    by_cases h : j > i
    · rw [if_pos h]; omega
    · rw [if_neg h]; omega
  exact ⟨i, j, by rw [show v = .int i from rv, show u = .int j from ru], by rw [e]; exact cv _ S _ W H ho Stp.refl ok rfl⟩
theorem cd_min2 (hc : X.calm = true) : CallR X (.builtin "min") (lC X.K oMin2) := CallR.imp (call_min2 hc) fun vs H Q ⟨W, S, ds, Q0, ok, r, ho, cv⟩ => by
  obtain ⟨a, b, rfl, ho⟩ := two_ex ho
  obtain ⟨i, rfl, ho⟩ := asI_ex ho
  obtain ⟨j, rfl, ho⟩ := asI_ex ho
  obtain ⟨v, u, rfl, rv, ru⟩ := reps2 r
  have e : (if j < i then j else i) = min i j := by
    by_cases h : j < i
    · rw [if_pos h]; omega
    · rw [if_neg h]; omega
  exact ⟨i, j, by rw [show v = .int i from rv, show u = .int j from ru], by rw [e]; exact cv _ S _ W H ho Stp.refl ok rfl⟩
/-- list(xs), tuple(xs) -/
def oList : OC := fun S ds Q => one ds fun d => some! (seqA S d) fun xs => Q (.lst xs) S
def oListM : OC := fun S ds Q => one ds fun d => some! (seqA S d) fun xs => ∀ p, S p = none → Q (.ref p) (put S p (.lst xs))
def oTuple : OC := fun S ds Q => one ds fun d => some! (seqA S d) fun xs => Q (.tup xs) S
theorem cd_list : CallR X (.type "list") (lC X.K oList) := CallR.imp call_list_of fun vs H Q ⟨W, S, ds, Q0, ok, r, ho, cv⟩ => by
  obtain ⟨d, rfl, ho⟩ := one_ex ho
  obtain ⟨v, rfl, rv⟩ := reps1 r
  obtain ⟨xs, e1, z⟩ := some!_ex ho
  obtain ⟨q, ws, rfl, hq, r1⟩ := seqA_rep ok rv e1
  refine ⟨q, ws, rfl, hq, fun l hl => ?_⟩
  have n := ok.fresh hl
  exact cv _ S _ _ _ z (ok.stW hl) (ok.newW hl) ⟨l, ws, rfl, upd_same, r1.mono (same_new n.1)⟩
theorem cd_listM : CallR X (.type "list") (lC X.K oListM) := CallR.imp call_list_of fun vs H Q ⟨W, S, ds, Q0, ok, r, ho, cv⟩ => by
  obtain ⟨d, rfl, ho⟩ := one_ex ho
  obtain ⟨v, rfl, rv⟩ := reps1 r
  obtain ⟨xs, e1, z⟩ := some!_ex ho
  obtain ⟨q, ws, rfl, hq, r1⟩ := seqA_rep ok rv e1
  refine ⟨q, ws, rfl, hq, fun l hl => ?_⟩
  exact cv _ _ _ _ _ (z l (ok.fresh hl).2) (ok.stS hl) (ok.newS hl ⟨ws, rfl, r1⟩) rfl
theorem cd_tuple : CallR X (.type "tuple") (lC X.K oTuple) := CallR.imp call_tuple_of fun vs H Q ⟨W, S, ds, Q0, ok, r, ho, cv⟩ => by
  obtain ⟨d, rfl, ho⟩ := one_ex ho
  obtain ⟨v, rfl, rv⟩ := reps1 r
  obtain ⟨xs, e1, z⟩ := some!_ex ho
  have onL : seqL S d = some xs → ∃ p ys, [v] = [.ref p] ∧ ((SqL X.K H p ys ∧ ∀ l, H l = none → Q (.ref l) (upd H l (.tup ys))) ∨ (SqT X.K H p ys ∧ Q (.ref p) H)) := fun e2 => by
    obtain ⟨q, ws, rfl, hq, r1⟩ := seqL_rep ok rv e2
    refine ⟨q, ws, rfl, .inl ⟨hq, fun l hl => ?_⟩⟩
    have n := ok.fresh hl
    exact cv _ S _ _ _ z (ok.stW hl) (ok.newW hl) ⟨l, ws, rfl, SqT.of upd_same, r1.mono (same_new n.1)⟩
  cases d with
  | tup ys =>
    cases e1
    obtain ⟨q, ws, rfl, hq, r1⟩ := id rv
    exact ⟨q, ws, rfl, .inr ⟨sqT_mono ok.vis hq, cv _ S _ W H z Stp.refl ok rv⟩⟩
  | _ => exact onL e1
/-- all, any of a list of bools; sum, max, min, sorted of a list of ints -/
def oAll : OC := fun S ds Q => one ds fun d => some! (seqL S d) fun xs => some! (toBls xs) fun bs => Q (.bl (bs.all id)) S
def oAny : OC := fun S ds Q => one ds fun d => some! (seqL S d) fun xs => some! (toBls xs) fun bs => Q (.bl (bs.any id)) S
def oSum : OC := fun S ds Q => one ds fun d => some! (seqL S d) fun xs => some! (toInts xs) fun bs => Q (.int bs.sum) S
def oMaxL : OC := fun S ds Q => one ds fun d => some! (seqL S d) fun xs => some! (toInts xs) fun bs => 0 < bs.length ∧ ∀ m, m ∈ bs → (∀ y, y ∈ bs → y ≤ m) → Q (.int m) S
def oMinL : OC := fun S ds Q => one ds fun d => some! (seqL S d) fun xs => some! (toInts xs) fun bs => 0 < bs.length ∧ ∀ m, m ∈ bs → (∀ y, y ∈ bs → m ≤ y) → Q (.int m) S
def oSorted : OC := fun S ds Q => one ds fun d => some! (seqL S d) fun xs => some! (toInts xs) fun bs => ∀ ms : List Int, ms.Perm bs → ms.Pairwise (· ≤ ·) → Q (.lst (ms.map D.int)) S
theorem reps_ints {K : PySem.W.Frag} {W : Hp} : ∀ {ns : List Int}, Reps K W (ns.map D.int) (ns.map V.int)
  | [] => rfl
  | i :: r => ⟨_, _, rfl, rfl, reps_ints⟩
theorem listI {K : PySem.W.Frag} {W : Hp} {S : Sto} {H : Hp} {d : D} {v : V} {k : List Int → Prop} (ok : Ok K W S H) (r : Rep K W d v) (h : some! (seqL S d) fun xs => some! (toInts xs) k) : ∃ a ns, v = .ref a ∧ SqL K H a (ns.map V.int) ∧ k ns := by
  obtain ⟨xs, e1, h⟩ := some!_ex h
  obtain ⟨ns, e2, h⟩ := some!_ex h
  obtain ⟨q, ws, rfl, hq, r1⟩ := seqL_rep ok r e1
  rw [toInts_rep e2 r1] at hq
  exact ⟨q, ns, rfl, hq, h⟩
theorem listB {K : PySem.W.Frag} {W : Hp} {S : Sto} {H : Hp} {d : D} {v : V} {k : List Bool → Prop} (ok : Ok K W S H) (r : Rep K W d v) (h : some! (seqL S d) fun xs => some! (toBls xs) k) : ∃ a ns, v = .ref a ∧ SqL K H a (ns.map V.bl) ∧ k ns := by
  obtain ⟨xs, e1, h⟩ := some!_ex h
  obtain ⟨ns, e2, h⟩ := some!_ex h
  obtain ⟨q, ws, rfl, hq, r1⟩ := seqL_rep ok r e1
  rw [toBls_rep e2 r1] at hq
  exact ⟨q, ns, rfl, hq, h⟩
theorem cd_all (hc : X.calm = true) : CallR X (.builtin "all") (lC X.K oAll) := CallR.imp (cr_all hc) fun vs H Q ⟨W, S, ds, Q0, ok, r, ho, cv⟩ => by
  obtain ⟨d, rfl, ho⟩ := one_ex ho
  obtain ⟨v, rfl, rv⟩ := reps1 r
  obtain ⟨a, bs, rfl, h1, h2⟩ := listB ok rv ho
  exact ⟨a, bs, rfl, h1, cv _ S _ W H h2 Stp.refl ok rfl⟩
theorem cd_any (hc : X.calm = true) : CallR X (.builtin "any") (lC X.K oAny) := CallR.imp (cr_any hc) fun vs H Q ⟨W, S, ds, Q0, ok, r, ho, cv⟩ => by
  obtain ⟨d, rfl, ho⟩ := one_ex ho
  obtain ⟨v, rfl, rv⟩ := reps1 r
  obtain ⟨a, bs, rfl, h1, h2⟩ := listB ok rv ho
  exact ⟨a, bs, rfl, h1, cv _ S _ W H h2 Stp.refl ok rfl⟩
theorem cd_sum (hc : X.calm = true) : CallR X (.builtin "sum") (lC X.K oSum) := CallR.imp (cr_sum hc) fun vs H Q ⟨W, S, ds, Q0, ok, r, ho, cv⟩ => by
  obtain ⟨d, rfl, ho⟩ := one_ex ho
  obtain ⟨v, rfl, rv⟩ := reps1 r
  obtain ⟨a, bs, rfl, h1, h2⟩ := listI ok rv ho
  exact ⟨a, bs, rfl, h1, cv _ S _ W H h2 Stp.refl ok rfl⟩
theorem cd_maxL (hc : X.calm = true) : CallR X (.builtin "max") (lC X.K oMaxL) := CallR.imp (cr_max hc) fun vs H Q ⟨W, S, ds, Q0, ok, r, ho, cv⟩ => by
  obtain ⟨d, rfl, ho⟩ := one_ex ho
  obtain ⟨v, rfl, rv⟩ := reps1 r
  obtain ⟨a, bs, rfl, h1, h2, h3⟩ := listI ok rv ho
  exact ⟨a, bs, rfl, h1, h2, fun m q1 q2 => cv _ S _ W H (h3 m q1 q2) Stp.refl ok rfl⟩
theorem cd_minL (hc : X.calm = true) : CallR X (.builtin "min") (lC X.K oMinL) := CallR.imp (cr_min hc) fun vs H Q ⟨W, S, ds, Q0, ok, r, ho, cv⟩ => by
  obtain ⟨d, rfl, ho⟩ := one_ex ho
  obtain ⟨v, rfl, rv⟩ := reps1 r
  obtain ⟨a, bs, rfl, h1, h2, h3⟩ := listI ok rv ho
  exact ⟨a, bs, rfl, h1, h2, fun m q1 q2 => cv _ S _ W H (h3 m q1 q2) Stp.refl ok rfl⟩
theorem cd_sorted : CallR X (.builtin "sorted") (lC X.K oSorted) := CallR.imp cr_sortedI fun vs H Q ⟨W, S, ds, Q0, ok, r, ho, cv⟩ => by
  obtain ⟨d, rfl, ho⟩ := one_ex ho
  obtain ⟨v, rfl, rv⟩ := reps1 r
  obtain ⟨a, bs, rfl, h1, h2⟩ := listI ok rv ho
  refine ⟨a, bs, rfl, h1, fun ms p q1 q2 hp => ?_⟩
  have n := ok.fresh hp
  exact cv _ S _ _ _ (h2 ms q1 q2) (ok.stW hp) (ok.newW hp) ⟨p, _, rfl, upd_same, reps_ints⟩

/-! ### isinstance of a built-in class -/
/-- the name of a value's type -/
def tyN (S : Sto) (d : D) : Option String := match d with
  | .non => some "NoneType"
  | .bl _ => some "bool"
  | .int _ => some "int"
  | .str _ => some "str"
  | .tup _ => some "tuple"
  | d => (seqL S d).map fun _ => "list"
theorem tyN_rep {K : PySem.W.Frag} {W : Hp} {S : Sto} {H : Hp} {d : D} {v : V} {n : String} (ok : Ok K W S H) (r : Rep K W d v) (h : tyN S d = some n) : TyX K H v (.type n) := by
  have onL : (seqL S d).map (fun _ => "list") = some n → TyX K H v (.type n) := fun z => by
    cases q : seqL S d with
    | none => rw [q] at z; cases z
    | some xs =>
      rw [q] at z
      cases z
      obtain ⟨a, vs, rfl, hq, _⟩ := seqL_rep ok r q
      rcases hq with (hq | ⟨o, hq⟩) | ⟨o, its, m, hk, hc, _⟩
      · exact .base (.lst hq)
      · exact .base (.frz hq)
      · exact .kList hk hc
  cases d with
  | non => cases h; rw [show v = V.non from r]; exact .base .non
  | bl b => cases h; rw [show v = V.bl b from r]; exact .base (.bl b)
  | int b => cases h; rw [show v = V.int b from r]; exact .base (.int b)
  | str b => cases h; rw [show v = V.str b from r]; exact .base (.str b)
  | tup xs =>
    cases h
    obtain ⟨a, vs, rfl, hq, _⟩ := r
    have hq' := sqT_mono ok.vis hq
    rcases hq' with (hq | ⟨o, hq⟩) | ⟨o, its, m, hk, hc, _⟩
    · exact .base (.tup hq)
    · exact .fTuple hq
    · exact .kTuple hk hc
  | _ => exact onL h
/-- isinstance(e, T) -/
def wIsi (T : String) (w : WPe) : WPe := fun env S Q X => w env S (fun d S1 => some! (tyN S1 d) fun n => some! (kitB n T) fun b => Q (.bl b) S1) X
theorem pd_isi {e2 : Expr} (he : PD X e w) (hc : PE X e2 (tC (.ty T))) (hm : X.mg "isinstance" = none) (hg : Gl X "isinstance" := by rfl)
    (hs : starEach [e, e2] X.env = (false, eval e X.env) :: starEach [e2] X.env := by rfl) (hs2 : starEach [e2] X.env = [(false, eval e2 X.env)] := by rfl) (hpl : (backTo pos (starEach [e2] X.env)).any (·.1) = false := by rfl) :
    PD X (.Call (.Name "isinstance" p) [e, e2] [] pos) (wIsi T w) :=
  ⟨fun Wx tk => PE.imp (pe_callB call_isi hg hm (by decide +kernel) (pa_cons (he.run Wx tk) (pa_cons hc pa_nil hs2) hs) (by decide) (by decide) hs hpl) fun σ H Q ⟨W, env, S, Q0, X1, ok, sl, hw, cv, cx⟩ => ⟨W, env, S, _, X1, ok, sl, hw, fun d S1 v W1 H1 h1 s1 ok1 r1 => by
    obtain ⟨n, e1, h1⟩ := some!_ex h1
    obtain ⟨b, e2, h1⟩ := some!_ex h1
    exact ⟨v, .ty T, _, _, b, rfl, .ty T, tyN_rep ok1 r1 e1, kit_ty e2, cv _ S1 _ W1 H1 h1 s1 ok1 rfl⟩, cx⟩⟩
end
end DL
set_option Elab.async false
set_option linter.all false
set_option maxRecDepth 100000
set_option maxHeartbeats 1000000
/-! The data layer, part f: fields, methods of lists, statements, defs. -/
namespace DL
open PySem PySem.Spec PyProof.Rows L2

/-! ### chains -/
section
variable {X : Cx} {a b c : Expr} {pos : Pos} {wa wb wc : WPe} {o o' : O2} {op op' : CmpOp}
theorem chain_go {K : PySem.W.Frag} {Wx : WX} {σ : L2.St} {H : Hp} {Q : VK} (h : lE K Wx (wChain o o' wa wb wc) σ H Q) : tChain (lOp K o) (lOp K o') (lE K Wx wa) (lE K Wx wb) (lE K Wx wc) σ H Q := by
  obtain ⟨W, env, S, Q0, X1, ok, sl, hw, cv, cx⟩ := h
  refine ⟨W, env, S, _, X1, ok, sl, hw, fun x S1 v W1 H1 h1 s1 ok1 r1 => ?_, cx⟩
  refine ⟨W1, env, S1, _, X1, ok1, sl.mono s1.vis, h1, fun y S2 u W2 H2 h2 s2 ok2 r2 => ?_, cx.mono s1⟩
  refine ⟨W2, S2, x, y, _, ok2, r1.mono s2.vis, r2, h2, fun k S3 t W3 H3 h3 s3 ok3 r3 => ?_⟩
  cases k with
  | bl k =>
    refine ⟨k, r3, ?_⟩
    cases k with
    | true =>
      refine iteT ⟨W3, env, S3, _, X1, ok3, sl.mono (s1.trans (s2.trans s3)).vis, (if_pos rfl).mp h3, fun z S4 v4 W4 H4 h4 s4 ok4 r4 => ?_, cx.mono (s1.trans (s2.trans s3))⟩
      exact ⟨W4, S4, y, z, Q0, ok4, r2.mono (s3.trans s4).vis, r4, h4, cv.mono (s1.trans (s2.trans (s3.trans s4)))⟩
    | false => exact iteF (cv _ S3 _ W3 H3 ((if_neg Bool.false_ne_true).mp h3) (s1.trans (s2.trans s3)) ok3 rfl)
  | _ => exact h3.elim
theorem pd_chain (ho : OpR X (compareOp op) (lOp X.K o)) (ho' : OpR X (compareOp op') (lOp X.K o')) (ha : PD X a wa) (hb : PD X b wb) (hc : PD X c wc) (hm : lastMarks [op, op'] [b, c] = false := by with_unfolding_all rfl) :
    PD X (.Compare a [op, op'] [b, c] pos) (wChain o o' wa wb wc) := ⟨fun Wx tk => PE.imp (pe_chain ho ho' (ha.run Wx tk) (hb.run Wx tk) (hc.run Wx tk) hm) fun _ _ _ h => chain_go h⟩
theorem pdt_chain (ho : OpR X (compareOp op) (lOp X.K o)) (ho' : OpR X (compareOp op') (lOp X.K o')) (ha : PD X a wa) (hb : PD X b wb) (hc : PD X c wc) (hm : lastMarks [op, op'] [b, c] = false := by with_unfolding_all rfl) :
    PDt X (.Compare a [op, op'] [b, c] pos) (wTest (wChain o o' wa wb wc)) := ⟨fun Wx tk => PT.imp (pt_chain ho ho' (ha.run Wx tk) (hb.run Wx tk) (hc.run Wx tk) hm) fun σ H Q ⟨W, env, S, Q0, X1, ok, sl, hw, cv, cx⟩ => chain_go ⟨W, env, S, _, X1, ok, sl, hw, fun d S1 v W1 H1 h1 s1 ok1 r1 => by
    cases d with
    | bl k =>
      have e : v = .bl k := r1
      exact ⟨k, e, cv k S1 W1 H1 h1 s1 ok1⟩
    | _ => exact h1.elim, cx⟩⟩
end

/-! ### fields -/
/-- field i of an instance of C with the fields N -/
def fldD (C : Addr) (N : List Str) (i : Nat) (S : Sto) (d : D) (k : D → Prop) : Prop := match d with
  | .ref a => match S a with
    | some (.ins C' N' xs) => (C' = C ∧ N' = N) ∧ some! (getV xs i) k
    | _ => False
  | .obj C' N' xs => (C' = C ∧ N' = N) ∧ some! xs[i]? k
  | _ => False
theorem fldD_rep {K : PySem.W.Frag} {W : Hp} {S : Sto} {H : Hp} {C : Addr} {N : List Str} {i : Nat} {f : Str} {d : D} {v : V} {k : D → Prop} (ok : Ok K W S H) (r : Rep K W d v) (hi : N[i]? = some f) (h : fldD C N i S d k) :
    ∃ a dx gs x u, v = .ref a ∧ H a = some (.ins C dx gs) ∧ gs.lookup f = some u ∧ Rep K W x u ∧ k x := by
  cases d with
  | ref a =>
    have h' : (match S a with | some (.ins C' N' xs) => (C' = C ∧ N' = N) ∧ some! (getV xs i) k | _ => False) := h
    cases q : S a with
    | none => rw [q] at h'; exact h'.elim
    | some mo =>
      rw [q] at h'
      cases mo with
      | ins C' N' xs =>
        obtain ⟨⟨rfl, rfl⟩, h'⟩ := h'
        obtain ⟨x, e, h'⟩ := some!_ex h'
        obtain ⟨o, e3, dx, gs, rfl, fr⟩ := ok.sto _ _ q
        obtain ⟨u, e5, ru⟩ := fr.is i f x hi e
        exact ⟨a, dx, gs, x, u, r, e3, e5, ru, h'⟩
      | _ => exact h'.elim
  | obj C' N' xs =>
    obtain ⟨⟨rfl, rfl⟩, h'⟩ := h
    obtain ⟨x, e, h'⟩ := some!_ex h'
    obtain ⟨a, dx, gs, vs, rfl, e2, e3, _, rr⟩ := r
    obtain ⟨u, e5, ru⟩ := rr.get e
    exact ⟨a, dx, gs, x, u, rfl, ok.vis _ _ e2, (e3 i f hi).trans e5, ru, h'⟩
  | _ => exact h.elim
def wFld (C : Addr) (N : List Str) (i : Nat) (w : WPe) : WPe := fun env S Q X => w env S (fun o S1 => fldD C N i S1 o fun d => Q d S1) X
/-- o.f = e -/
def setD (C : Addr) (N : List Str) (i : Nat) (S : Sto) (o : D) (d : D) (k : Sto → Prop) : Prop := match o with
  | .ref a => match S a with
    | some (.ins C' N' xs) => (C' = C ∧ N' = N) ∧ k (put S a (.ins C N (setV xs i d)))
    | _ => False
  | _ => False
theorem setD_rep {K : PySem.W.Frag} {W : Hp} {S : Sto} {H : Hp} {C : Addr} {N : List Str} {i : Nat} {f : Str} {o d : D} {v u : V} {k : Sto → Prop} (ok : Ok K W S H) (r : Rep K W o v) (rd : Rep K W d u) (hi : N[i]? = some f) (h : setD C N i S o d k) :
    ∃ a dx gs S', v = .ref a ∧ H a = some (.ins C dx gs) ∧ gs.length < 1000 ∧ Stp W S H W S' (upd H a (.ins C dx (putF f u gs))) ∧ Ok K W S' (upd H a (.ins C dx (putF f u gs))) ∧ k S' := by
  cases o with
  | ref a =>
    have h' : (match S a with | some (.ins C' N' xs) => (C' = C ∧ N' = N) ∧ k (put S a (.ins C N (setV xs i d))) | _ => False) := h
    cases q : S a with
    | none => rw [q] at h'; exact h'.elim
    | some mo =>
      rw [q] at h'
      cases mo with
      | ins C' N' xs =>
        obtain ⟨⟨rfl, rfl⟩, h'⟩ := h'
        obtain ⟨o, e3, dx, gs, rfl, fr⟩ := ok.sto _ _ q
        exact ⟨a, dx, gs, _, r, e3, fr.lt, ok.stC (m := .ins C' N' (setV xs i d)) q, ok.chg (m := .ins C' N' (setV xs i d)) q ⟨dx, _, rfl, fr.put hi rd⟩, h'⟩
      | _ => exact h'.elim
  | _ => exact h.elim

/-! ### statements -/
def wSeq (w u : WPs) : WPs := fun env S q => w env S { q with nx := fun e s => u e s q }
def wNext : WPs := fun env S q => q.nx env S
def xcQ (q : QS) (env : DE) : XQ := fun C fs S => q.xc C fs env S
def wSet (i : Nat) (w : WPe) : WPs := fun env S q => w env S (fun d S1 => q.nx (setV env i d) S1) (xcQ q env)
def wDrop (w : WPe) : WPs := fun env S q => w env S (fun _ S1 => q.nx env S1) (xcQ q env)
def wRet (w : WPe) : WPs := fun env S q => w env S q.rt (xcQ q env)
def wRetN : WPs := fun _ S q => q.rt .non S
def wIf (t : WPt) (u v : WPs) : WPs := fun env S q => t env S (fun k S1 => if k = true then u env S1 q else v env S1 q) (xcQ q env)
def wBreak : WPs := fun env S q => q.bk env S
def wCont : WPs := fun env S q => q.ct env S
def wAug (i : Nat) (o : O2) (w : WPe) : WPs := fun env S q => some! (getV env i) fun x => w env S (fun y S1 => o S1 x y fun z S2 => q.nx (setV env i z) S2) (xcQ q env)
def wSetF (C : Addr) (N : List Str) (i : Nat) (wo we : WPe) : WPs := fun env S q => we env S (fun d S1 => wo env S1 (fun o S2 => setD C N i S2 o d fun S3 => q.nx env S3) (xcQ q env)) (xcQ q env)
def wAugF (C : Addr) (N : List Str) (i : Nat) (op : O2) (wo we : WPe) : WPs := fun env S q => wo env S (fun o S1 => fldD C N i S1 o fun x => we env S1 (fun y S2 => op S2 x y fun z S3 => setD C N i S3 o z fun S4 => q.nx env S4) (xcQ q env)) (xcQ q env)
/-- o[i] = e for a list -/
def setIx (S : Sto) (o i d : D) (k : Sto → Prop) : Prop := match o, i with
  | .ref a, .int j => match S a with
    | some (.lst xs) => some! (ixN xs.length j) fun n => k (put S a (.lst (xs.set n d)))
    | _ => False
  | _, _ => False
def wSetI (wo wi we : WPe) : WPs := fun env S q => we env S (fun d S1 => wo env S1 (fun o S2 => wi env S2 (fun i S3 => setIx S3 o i d fun S4 => q.nx env S4) (xcQ q env)) (xcQ q env)) (xcQ q env)
section
variable {X : Cx} {e o i' : Expr} {st : Stmt} {rest : List Stmt} {pos pos' tpos : Pos} {w we wo wi : WPe} {ws u v : WPs} {t : WPt} {i : Nat} {x f : Str} {C : Addr} {N : List Str}
theorem CXc.of {K : PySem.W.Frag} {W : Hp} {S : Sto} {H : Hp} {Wx : WX} {q : QS} {D : Ends} {env : DE} {σ : L2.St} (h : CS K Wx W S H q D) (sl : Sl K W env σ) : CXc K W S H (xcQ q env) (fun c d H' => Wx c d σ H') :=
  fun C fs S' dd gs W' H' q1 s1 ok1 e1 r1 => h.xc C fs env S' dd gs σ W' H' q1 s1 ok1 (sl.mono s1.vis) e1 r1
theorem pss_nilD : PDss X [] wNext := ⟨fun Wx tk => PSs.imp pss_nil fun D σ H ⟨W, env, S, q, ok, sl, hl, hw, cs⟩ => cs.nx env S σ W H hw Stp.refl ok sl hl⟩
theorem pss_consD (h1 : PDs X st ws) (h2 : PDss X rest u) : PDss X (st :: rest) (wSeq ws u) :=
  ⟨fun Wx tk => PSs.imp (pss_cons (h1.run Wx tk) (h2.run Wx tk)) fun D σ H ⟨W, env, S, q, ok, sl, hl, hw, cs⟩ =>
    ⟨W, env, S, _, ok, sl, hl, hw, fun e S1 σ1 W1 H1 h1 s1 ok1 sl1 hl1 => ⟨W1, e, S1, q, ok1, sl1, hl1, h1, cs.mono s1⟩, cs.rt, cs.bk, cs.ct, cs.xc⟩⟩
theorem pss_oneD (h1 : PDs X st ws) : PDss X [st] ws := ⟨fun Wx tk => pss_one (h1.run Wx tk)⟩
theorem pds_set (hN : X.N.Nodup) (hi : X.N[i]? = some x) (hx : Loc X.env.scope x) (he : PD X e w) (hs : swapsWith e (some (.Name x pos')) pos.line X.env = pure false := by rfl) (hf : X.fn x = true ∨ X.env.scope.names.lookup x = some .local := by first | exact .inl rfl | exact .inr rfl | assumption) :
    PDs X (.Assign [.Name x pos'] e pos) (wSet i w) :=
  ⟨fun Wx tk => PS.imp (ps_set hN hi hx (he.run Wx tk) hs hf) fun D σ H ⟨W, env, S, q, ok, sl, hl, hw, cs⟩ => ⟨W, env, S, _, _, ok, sl, hw, fun d S1 v W1 H1 h1 s1 ok1 r1 =>
    cs.nx _ S1 _ W1 H1 h1 s1 ok1 ((sl.mono s1.vis).set (by rw [hl]; exact lt_of_some hi) r1) (by rw [List.length_set]; exact hl), CXc.of cs sl⟩⟩
theorem pds_drop (he : PD X e w) (hs : swapsWith e none pos.line X.env = pure false := by rfl) : PDs X (.Expr e pos) (wDrop w) :=
  ⟨fun Wx tk => PS.imp (ps_expr (he.run Wx tk) hs) fun D σ H ⟨W, env, S, q, ok, sl, hl, hw, cs⟩ => ⟨W, env, S, _, _, ok, sl, hw, fun d S1 v W1 H1 h1 s1 ok1 r1 => cs.nx _ S1 _ W1 H1 h1 s1 ok1 (sl.mono s1.vis) hl, CXc.of cs sl⟩⟩
theorem pds_ret (he : PD X e w) : PDs X (.Return (some e) pos) (wRet w) :=
  ⟨fun Wx tk => PS.imp (ps_ret (he.run Wx tk)) fun D σ H ⟨W, env, S, q, ok, sl, hl, hw, cs⟩ => ⟨W, env, S, _, _, ok, sl, hw, fun d S1 v W1 H1 h1 s1 ok1 r1 => cs.rt d S1 v W1 H1 h1 s1 ok1 r1, CXc.of cs sl⟩⟩
theorem pds_retN : PDs X (.Return none pos) wRetN := ⟨fun Wx tk => PS.imp ps_retN fun D σ H ⟨W, env, S, q, ok, sl, hl, hw, cs⟩ => cs.rt .non S .non W H hw Stp.refl ok rfl⟩
theorem pds_pass : PDs X (.Pass pos) wNext := ⟨fun Wx tk => PS.imp ps_pass fun D σ H ⟨W, env, S, q, ok, sl, hl, hw, cs⟩ => cs.nx env S σ W H hw Stp.refl ok sl hl⟩
theorem pds_doc {y : Str} {j : Nat} : PDs X (.Expr (.Constant (.str y) j pos) pos') wNext := ⟨fun Wx tk => PS.imp ps_doc fun D σ H ⟨W, env, S, q, ok, sl, hl, hw, cs⟩ => cs.nx env S σ W H hw Stp.refl ok sl hl⟩
theorem pds_break : PDs X (.Break pos) wBreak := ⟨fun Wx tk => PS.imp ps_break fun D σ H ⟨W, env, S, q, ok, sl, hl, hw, cs⟩ => cs.bk env S σ W H hw Stp.refl ok sl hl⟩
theorem pds_cont : PDs X (.Continue pos) wCont := ⟨fun Wx tk => PS.imp ps_continue fun D σ H ⟨W, env, S, q, ok, sl, hl, hw, cs⟩ => cs.ct env S σ W H hw Stp.refl ok sl hl⟩
theorem pds_if {a b : List Stmt} (hc : PDt X e t) (ha : PDss X a u) (hb : PDss X b v) : PDs X (.If e a b pos) (wIf t u v) :=
  ⟨fun Wx tk => PS.imp (ps_if (hc.run Wx tk) (ha.run Wx tk) (hb.run Wx tk)) fun D σ H ⟨W, env, S, q, ok, sl, hl, hw, cs⟩ => ⟨W, env, S, _, _, ok, sl, hw, fun k S1 W1 H1 h1 s1 ok1 => by
    cases k with
    | true => exact iteT ⟨W1, env, S1, q, ok1, sl.mono s1.vis, hl, (if_pos rfl).mp h1, cs.mono s1⟩
    | false => exact iteF ⟨W1, env, S1, q, ok1, sl.mono s1.vis, hl, (if_neg Bool.false_ne_true).mp h1, cs.mono s1⟩, CXc.of cs sl⟩⟩
theorem pds_aug {op : Operator} {ob : O2} (hN : X.N.Nodup) (hi : X.N[i]? = some x) (hx : Loc X.env.scope x) (he : PD X e w) (ho : OpR X (inplaceOp op) (lOp X.K ob)) (hf : X.fn x = true ∨ X.env.scope.names.lookup x = some .local := by first | exact .inl rfl | exact .inr rfl | assumption) :
    PDs X (.AugAssign (.Name x pos') op e pos) (wAug i ob w) :=
  ⟨fun Wx tk => PS.imp (ps_aug hN hi hx (he.run Wx tk) ho hf) fun D σ H ⟨W, env, S, q, ok, sl, hl, hw, cs⟩ => by
    obtain ⟨d, e1, hw⟩ := some!_ex hw
    obtain ⟨v, e2, rv⟩ := sl i d e1
    refine ⟨v, e2, W, env, S, _, _, ok, sl, hw, fun y S1 u W1 H1 h1 s1 ok1 r1 => ?_, CXc.of cs sl⟩
    refine ⟨W1, S1, d, y, _, ok1, rv.mono s1.vis, r1, h1, fun z S2 t W2 H2 h2 s2 ok2 r2 => ?_⟩
    exact cs.nx _ S2 _ W2 H2 h2 (s1.trans s2) ok2 ((sl.mono (s1.trans s2).vis).set (by rw [hl]; exact lt_of_some hi) r2) (by rw [List.length_set]; exact hl)⟩
theorem pd_fld (c : Cls X.K C) (n : NoAttr X.K C f) (hi : N[i]? = some f) (he : PD X e w) (hb : attributeBase e f X.env (eval e X.env) = eval e X.env := by rfl) : PD X (.Attribute e f pos) (wFld C N i w) :=
  ⟨fun Wx tk => PE.imp (pe_fld (he.run Wx tk) hb) fun σ H Q ⟨W, env, S, Q0, X1, ok, sl, hw, cv, cx⟩ => ⟨W, env, S, _, X1, ok, sl, hw, fun d S1 v W1 H1 h1 s1 ok1 r1 => by
    obtain ⟨a, dx, gs, y, u, rfl, e1, e2, ru, h2⟩ := fldD_rep ok1 r1 hi h1
    exact ⟨a, C, dx, gs, u, rfl, e1, c, n, e2, cv y S1 u W1 H1 h2 s1 ok1 ru⟩, cx⟩⟩
theorem pds_setF (c : Cls X.K C) (n : NoAttr X.K C f) (hi : N[i]? = some f) (ho : PD X o wo) (he : PD X e we) (hs : swapsWith e (some (.Attribute o f pos')) pos.line X.env = pure false := by rfl) : PDs X (.Assign [.Attribute o f pos'] e pos) (wSetF C N i wo we) :=
  ⟨fun Wx tk => PS.imp (ps_fld (ho.run Wx tk) (he.run Wx tk) hs) fun D σ H ⟨W, env, S, q, ok, sl, hl, hw, cs⟩ => ⟨W, env, S, _, _, ok, sl, hw, fun d S1 v W1 H1 h1 s1 ok1 r1 =>
    ⟨W1, env, S1, _, _, ok1, sl.mono s1.vis, h1, fun y S2 u W2 H2 h2 s2 ok2 r2 => by
      obtain ⟨a, dx, gs, S3, rfl, e1, e2, st3, ok3, h3⟩ := setD_rep ok2 r2 (r1.mono s2.vis) hi h2
      exact ⟨a, C, dx, gs, rfl, e1, c, n, e2, cs.nx _ S3 _ W2 _ h3 (s1.trans (s2.trans st3)) ok3 (sl.mono (s1.trans s2).vis) hl⟩, CXc.of (cs.mono s1) (sl.mono s1.vis)⟩, CXc.of cs sl⟩⟩
theorem inop_of {op : Operator} {rd : V → V → Hp → VK → Prop} (h : OpR X (inplaceOp op) rd) : InOp X op rd := fun pins s σ H x y u v Q I rx ry q => h pins s σ H x y u v Q I rx ry q
theorem pds_augF {op : Operator} {ob : O2} (c : Cls X.K C) (n : NoAttr X.K C f) (hi : N[i]? = some f) (ho : PD X o wo) (he : PD X e we) (hop : OpR X (inplaceOp op) (lOp X.K ob)) : PDs X (.AugAssign (.Attribute o f tpos) op e pos) (wAugF C N i ob wo we) :=
  ⟨fun Wx tk => PS.imp (ps_fldaug (ho.run Wx tk) (he.run Wx tk) (inop_of hop)) fun D σ H ⟨W, env, S, q, ok, sl, hl, hw, cs⟩ => ⟨W, env, S, _, _, ok, sl, hw, fun d S1 v W1 H1 h1 s1 ok1 r1 => by
    obtain ⟨a, dx, gs, y, u, rfl, e1, e2, ru, h2⟩ := fldD_rep ok1 r1 hi h1
    refine ⟨a, C, dx, gs, u, rfl, e1, c, n, e2, W1, env, S1, _, _, ok1, sl.mono s1.vis, h2, fun z S2 t W2 H2 h3 s2 ok2 r2 => ?_, CXc.of (cs.mono s1) (sl.mono s1.vis)⟩
    refine ⟨W2, S2, y, z, _, ok2, ru.mono s2.vis, r2, h3, fun z2 S3 t2 W3 H3 h4 s3 ok3 r3 => ?_⟩
    obtain ⟨a2, dx2, gs2, S4, e3, e4, e5, st4, ok4, h5⟩ := setD_rep ok3 (r1.mono (s2.trans s3).vis) r3 hi h4
    cases e3
    exact ⟨dx2, gs2, e4, e5, cs.nx _ S4 _ W3 _ h5 (s1.trans (s2.trans (s3.trans st4))) ok4 (sl.mono (s1.trans (s2.trans s3)).vis) hl⟩, CXc.of cs sl⟩⟩
theorem setIx_rep {K : PySem.W.Frag} {W : Hp} {S : Sto} {H : Hp} {o i d : D} {v vi u : V} {k : Sto → Prop} (ok : Ok K W S H) (r : Rep K W o v) (ri : Rep K W i vi) (rd : Rep K W d u) (h : setIx S o i d k) :
    ∃ a xs n j S', v = .ref a ∧ vi = .int j ∧ H a = some (.lst xs) ∧ ixN xs.length j = some n ∧ Stp W S H W S' (upd H a (.lst (xs.set n u))) ∧ Ok K W S' (upd H a (.lst (xs.set n u))) ∧ k S' := by
  cases o with
  | ref a =>
    cases i with
    | int j =>
      have h' : (match S a with | some (.lst xs) => some! (ixN xs.length j) fun n => k (put S a (.lst (xs.set n d))) | _ => False) := h
      cases q : S a with
      | none => rw [q] at h'; exact h'.elim
      | some mo =>
        rw [q] at h'
        cases mo with
        | lst xs =>
          obtain ⟨n, e1, h'⟩ := some!_ex h'
          obtain ⟨o, e3, vs, rfl, rv⟩ := ok.sto _ _ q
          exact ⟨a, vs, n, j, _, r, ri, e3, by rw [rv.length]; exact e1, ok.stC (m := .lst (xs.set n d)) q, ok.chg (m := .lst (xs.set n d)) q ⟨_, rfl, rv.set rd n⟩, h'⟩
        | _ => exact h'.elim
    | _ => exact h.elim
  | _ => exact h.elim
theorem pds_setI {ip : Expr} {p2 : Pos} (ho : PD X o wo) (hi : PD X ip wi) (he : PD X e we) (hs : swapsWithSole [.Subscript o ip p2] e pos.line X.env = pure false := by rfl) (hw : swappedStores [.Subscript o ip p2] e X.env = pure none := by rfl)
    (h1 : (assignEach [.Subscript o ip p2] X.env).map (·.2) = [assign (.Subscript o ip p2) X.env] := by rfl)
    (ha : ∀ v, assign (.Subscript o ip p2) X.env v = (do
      let ov ← holding [v] (eval o X.env)
      let iv ← holding [v, ov] (eval ip X.env)
      standAt p2
      holding [v, ov, iv] (setItem ov iv v)
      release [v, ov, iv] []) := by intro _; rfl) : PDs X (.Assign [.Subscript o ip p2] e pos) (wSetI wo wi we) :=
  ⟨fun Wx tk => PS.imp (ps_asg (he.run Wx tk) (pg_sub (ho.run Wx tk) (hi.run Wx tk) set_list ha) hs hw h1) fun D σ H ⟨W, env, S, q, ok, sl, hl, hw, cs⟩ => ⟨W, env, S, _, _, ok, sl, hw, fun d S1 v W1 H1 h1 s1 ok1 r1 =>
    ⟨W1, env, S1, _, _, ok1, sl.mono s1.vis, h1, fun o1 S2 u W2 H2 h2 s2 ok2 r2 => ⟨W2, env, S2, _, _, ok2, sl.mono (s1.trans s2).vis, h2, fun i1 S3 t W3 H3 h3 s3 ok3 r3 => by
      obtain ⟨a, xs, n, j, S4, rfl, rfl, e1, e2, st4, ok4, h4⟩ := setIx_rep ok3 (r2.mono s3.vis) r3 (r1.mono (s2.trans s3).vis) h3
      exact ⟨a, xs, j, n, rfl, rfl, e1, e2, cs.nx _ S4 _ W3 _ h4 (s1.trans (s2.trans (s3.trans st4))) ok4 (sl.mono (s1.trans (s2.trans s3)).vis) hl⟩, CXc.of (cs.mono (s1.trans s2)) (sl.mono (s1.trans s2).vis)⟩, CXc.of (cs.mono s1) (sl.mono s1.vis)⟩, CXc.of cs sl⟩⟩
end

/-! ### methods of a mutable list -/
def mutL (S : Sto) (d : D) (k : Addr → List D → Prop) : Prop := match d with
  | .ref a => match S a with
    | some (.lst xs) => k a xs
    | _ => False
  | _ => False
theorem mutL_rep {K : PySem.W.Frag} {W : Hp} {S : Sto} {H : Hp} {d : D} {v : V} {k : Addr → List D → Prop} (ok : Ok K W S H) (r : Rep K W d v) (h : mutL S d k) : ∃ a xs vs, d = .ref a ∧ v = .ref a ∧ S a = some (.lst xs) ∧ H a = some (.lst vs) ∧ Reps K W xs vs ∧ k a xs := by
  cases d with
  | ref a =>
    have h' : (match S a with | some (.lst xs) => k a xs | _ => False) := h
    cases q : S a with
    | none => rw [q] at h'; exact h'.elim
    | some mo =>
      rw [q] at h'
      cases mo with
      | lst xs =>
        obtain ⟨o, e3, vs, rfl, rv⟩ := ok.sto _ _ q
        exact ⟨a, xs, vs, rfl, r, q, e3, rv, h'⟩
      | _ => exact h'.elim
  | _ => exact h.elim
def lM (K : PySem.W.Frag) (o : OM) : V → List V → Hp → VK → Prop := fun x xs H Q => ∃ W S d ds Q0, Ok K W S H ∧ Rep K W d x ∧ Reps K W ds xs ∧ o S d ds Q0 ∧ CV K W S H Q0 Q
def wMt (o : OM) (wo : WPe) (wa : WPa) : WPe := fun env S Q X => wo env S (fun x S1 => mutL S1 x fun _ _ => wa env S1 (fun ds S2 => o S2 x ds Q) X) X
theorem MtR.imp {X : Cx} {id : String} {r r' : V → List V → Hp → VK → Prop} (h : MtR X id r) (i : ∀ x xs H Q, r' x xs H Q → r x xs H Q) : MtR X id r' := fun pins s σ H x xs v us Q I rx rs q => h pins s σ H x xs v us Q I rx rs (i _ _ _ _ q)
section
variable {X : Cx} {o e : Expr} {es : List Expr} {name : Str} {apos cpos : Pos} {mid : String} {om : OM} {wo : WPe} {wa : WPa}
theorem pd_lm (slot : Slot "list" name mid) (hty : typeOf (.builtin mid) = pure (.type "method_descriptor")) (hm : MtR X mid (lM X.K om)) (ho : PD X o wo) (ha : PDa X (e :: es) wa)
    (hbase : attributeBase o name X.env (eval o X.env) = eval o X.env := by rfl)
    (hfew : ((backTo cpos (starEach (e :: es) X.env)).all (fun x => !x.1) && (backToKw cpos (keywordEach [] X.env)).all (fun x => x.1.isSome)
      && decide ((e :: es).length + ([] : List Keyword).length + (if ([] : List Keyword).isEmpty then 0 else 1) < 30)) = true := by rfl)
    (hline : (apos.endLine == cpos.line) = true := by rfl) (hs : starEach (e :: es) X.env = (false, eval e X.env) :: starEach es X.env := by rfl) (hplain : (backTo cpos (starEach es X.env)).any (·.1) = false := by rfl) :
    PD X (.Call (.Attribute o name apos) (e :: es) [] cpos) (wMt om wo wa) :=
  ⟨fun Wx tk => PE.imp (pe_bm PySem.F.plainAttrs_list slot hty hm (ho.run Wx tk) (ha.run Wx tk) hbase hfew hline hs hplain) fun σ H Q ⟨W, env, S, Q0, X1, ok, sl, hw, cv, cx⟩ => ⟨W, env, S, _, X1, ok, sl, hw, fun d S1 v W1 H1 h1 s1 ok1 r1 => by
    obtain ⟨a, xs, vs, rfl, rfl, e1, e2, rv, h2⟩ := mutL_rep ok1 r1 h1
    exact ⟨.inl ⟨rfl, vs, SqL.of e2⟩, W1, env, S1, _, X1, ok1, sl.mono s1.vis, h2, fun ds S2 us W2 H2 h3 s2 ok2 r2 => ⟨W2, S2, _, ds, Q0, ok2, r1.mono s2.vis, r2, h3, cv.mono (s1.trans s2)⟩, cx.mono s1⟩, cx⟩⟩
theorem pd_lm0 (slot : Slot "list" name mid) (hty : typeOf (.builtin mid) = pure (.type "method_descriptor")) (hm : MtR X mid (lM X.K om)) (ho : PD X o wo)
    (hbase : attributeBase o name X.env (eval o X.env) = eval o X.env := by rfl) (hline : (apos.endLine == cpos.line) = true := by rfl) :
    PD X (.Call (.Attribute o name apos) [] [] cpos) (wMt om wo wNil) :=
  ⟨fun Wx tk => PE.imp (pe_bm0 PySem.F.plainAttrs_list slot hty hm (ho.run Wx tk) hbase hline) fun σ H Q ⟨W, env, S, Q0, X1, ok, sl, hw, cv, cx⟩ => ⟨W, env, S, _, X1, ok, sl, hw, fun d S1 v W1 H1 h1 s1 ok1 r1 => by
    obtain ⟨a, xs, vs, rfl, rfl, e1, e2, rv, h2⟩ := mutL_rep ok1 r1 h1
    exact ⟨.inl ⟨rfl, vs, SqL.of e2⟩, W1, S1, _, [], Q0, ok1, r1, rfl, h2, cv.mono s1⟩, cx⟩⟩
def oAppend : OM := fun S d ds Q => mutL S d fun a xs => one ds fun e => xs.length < sizeLine ∧ Q .non (put S a (.lst (xs ++ [e])))
theorem md_append : MtR X "list.append" (lM X.K oAppend) := MtR.imp mt_append fun x vs H Q ⟨W, S, d, ds, Q0, ok, r, rs, ho, cv⟩ => by
  obtain ⟨a, xs, us, rfl, rfl, e1, e2, rv, h⟩ := mutL_rep ok r ho
  obtain ⟨y, rfl, hz, h⟩ := one_ex h
  obtain ⟨t, rfl, rt⟩ := reps1 rs
  exact ⟨a, us, t, rfl, rfl, e2, by rw [rv.length]; exact hz, cv _ _ _ _ _ h (ok.stC e1) (ok.chg e1 ⟨_, rfl, rv.append (Reps.one rt)⟩) rfl⟩
def oExtend : OM := fun S d ds Q => mutL S d fun a xs => one ds fun e => some! (seqM S e) fun ys => xs.length + ys.length ≤ sizeLine ∧ Q .non (put S a (.lst (xs ++ ys)))
theorem md_extend : MtR X "list.extend" (lM X.K oExtend) := MtR.imp mt_extend fun x vs H Q ⟨W, S, d, ds, Q0, ok, r, rs, ho, cv⟩ => by
  obtain ⟨a, xs, us, rfl, rfl, e1, e2, rv, h⟩ := mutL_rep ok r ho
  obtain ⟨y, rfl, h⟩ := one_ex h
  obtain ⟨ys, e3, hz, h⟩ := some!_ex h
  obtain ⟨t, rfl, rt⟩ := reps1 rs
  obtain ⟨b, zs, rfl, e4, rz⟩ := seqM_rep ok rt e3
  exact ⟨a, b, us, zs, rfl, rfl, e2, e4, by rw [rv.length, rz.length]; exact hz, cv _ _ _ _ _ h (ok.stC e1) (ok.chg e1 ⟨_, rfl, rv.append rz⟩) rfl⟩
theorem reps_dropLast {K : PySem.W.Frag} {W : Hp} {xs : List D} {vs : List V} (r : Reps K W xs vs) : Reps K W xs.dropLast vs.dropLast := by
  rw [List.dropLast_eq_take, List.dropLast_eq_take, r.length]
  exact r.take _
def oPop : OM := fun S d ds Q => mutL S d fun a xs => ds = [] ∧ some! xs[xs.length - 1]? fun y => Q y (put S a (.lst xs.dropLast))
theorem md_pop : MtR X "list.pop" (lM X.K oPop) := MtR.imp mt_pop fun x vs H Q ⟨W, S, d, ds, Q0, ok, r, rs, ho, cv⟩ => by
  obtain ⟨a, xs, us, rfl, rfl, e1, e2, rv, rfl, h⟩ := mutL_rep ok r ho
  obtain ⟨y, e3, h⟩ := some!_ex h
  obtain ⟨t, e4, rt⟩ := rv.get e3
  have e5 : vs = [] := rs
  exact ⟨a, us, t, rfl, e5, e2, by rw [rv.length]; exact e4, cv _ _ _ _ _ h (ok.stC e1) (ok.chg e1 ⟨_, rfl, reps_dropLast rv⟩) rt⟩
end

/-! ### defs -/
section
variable {P : Program} {w : World} {K : PySem.W.Frag} {mg : Str → Option Value} {base : Heap}
def startD (N : List Str) (ds : List D) : DE := ds.map some ++ List.replicate (N.length - ds.length) none
theorem getV_map : ∀ {ds : List D} {m : Nat} {i : Nat} {d : D}, getV (ds.map some ++ List.replicate m none) i = some d → ds[i]? = some d
  | [], 0, i, d, h => by cases h
  | [], m + 1, 0, d, h => by cases h
  | [], m + 1, i + 1, d, h => by
    have h' := getV_map (ds := []) (m := m) (i := i) h
    simp at h'
  | x :: r, m, 0, d, h => h
  | x :: r, m, i + 1, d, h => getV_map (ds := r) (m := m) (i := i) h
theorem sl_start {W : Hp} {N : List Str} {ds : List D} {vs : List V} (r : Reps K W ds vs) : Sl K W (startD N ds) (L2.start N vs) := fun i d h => by
  obtain ⟨v, e, rv⟩ := r.get (getV_map h)
  refine ⟨v, ?_, rv⟩
  unfold L2.start
  rw [List.getElem?_append_left (by rw [List.length_map]; exact lt_of_some e), List.getElem?_map, e]
  rfl
/-- THE RULE for a def: its body as a derivation, and its reading over data -/
theorem Fun.okD {x qual : Str} {st : Stmt} {f : Addr} {fd : FuncData} {N ps : List Str} {k : Nat} {spec : Ctr} (F : Fun K x qual st f fd) (S : FnScope N ps (defScope st)) (hle : ps.length ≤ N.length)
    (len : ∀ ds S Q E, spec ds S Q E → ds.length = ps.length)
    (hbody : ∀ (cdv : Value) (A : Around) (outer : List Env) (s : Shared) (H : Hp) (E : XK), Room k (A.deeper (envOfC qual (defScope st) s.heap.objs.size f cdv)) →
      ∃ ws, PDss (cxOf (L2.CX P w) P w K mg base N qual (defScope st) f cdv A outer s H E) (defBody st) ws ∧ ∀ ds S Q X1, spec ds S Q X1 → ws (startD N ds) S { nx := fun _ S' => Q .non S', rt := Q, bk := fun _ _ => False, ct := fun _ _ => False, xc := fun C fs _ S' => X1 C fs S' }) :
    FnD P w K mg base (k + 1) f fd ps spec := by
  refine F.okX S (fun vs H Q E ⟨W, S', ds, Q0, X1, ok, r, h, _⟩ => ?_) (fun cdv A outer s H vs Q E hr ⟨W, S', ds, Q0, X1, ok, r, h, cv, cx⟩ => ?_)
  · rw [r.length]; exact len ds S' Q0 X1 h
  · obtain ⟨ws, hp, hq⟩ := hbody cdv A outer s H E hr
    refine ⟨_, hp.run (fun c d σ H' => E c d H') (takes_of rfl rfl rfl rfl), W, _, S', _, ok, sl_start r, ?_, hq ds S' Q0 X1 h, ?_, ?_, ?_, ?_, ?_⟩
    · have e := r.length
      have e2 := len ds S' Q0 X1 h
      show (L2.start N vs).length = N.length
      unfold L2.start
      rw [List.length_append, List.length_map, List.length_replicate]
      omega
    · exact fun _ S1 σ1 W1 H1 h1 s1 ok1 _ _ => cv .non S1 .non W1 H1 h1 s1 ok1 rfl
    · exact fun d S1 v W1 H1 h1 s1 ok1 r1 => cv d S1 v W1 H1 h1 s1 ok1 r1
    · exact fun _ _ _ _ _ h1 _ _ _ => h1.elim
    · exact fun _ _ _ _ _ h1 _ _ _ => h1.elim
    · exact fun C fs _ S1 dd gs _ W1 H1 h1 s1 ok1 _ e1 r1 => cx C fs S1 dd gs W1 H1 h1 s1 ok1 e1 r1
end
end DL
set_option Elab.async false
set_option linter.all false
set_option maxRecDepth 100000
set_option maxHeartbeats 1000000
/-! The data layer, part g: targets, loops, comprehensions. -/
namespace DL
open PySem PySem.Spec PyProof.Rows L2

/-! ### targets: names and tuples of names -/
abbrev WPg := D → DE → (DE → Prop) → Prop
def gN (i : Nat) : WPg := fun d env k => k (setV env i d)
def gAll : List WPg → List D → DE → (DE → Prop) → Prop
  | [], [], env, k => k env
  | g :: gs, d :: ds, env, k => g d env fun e => gAll gs ds e k
  | _, _, _, _ => False
def gT (gs : List WPg) : WPg := fun d env k => match d with
  | .tup xs => xs.length = gs.length ∧ gAll gs xs env k
  | _ => False
def lG (K : PySem.W.Frag) (n : Nat) (vs : List Nat) (t : WPg) : TG := fun v σ H Q => ∃ W S env d k, Ok K W S H ∧ Sl K W env σ ∧ σ.length = n ∧ Rep K W d v ∧ t d env k ∧
  ∀ e σ', k e → Sl K W e σ' → σ'.length = n → wipe σ' vs = wipe σ vs → Q σ' H
def lGs (K : PySem.W.Frag) (n : Nat) (vs : List Nat) (ts : List WPg) : TGs := fun v σ H Q => ∃ W S env d k, Ok K W S H ∧ Sl K W env σ ∧ σ.length = n ∧ Reps K W d v ∧ gAll ts d env k ∧
  ∀ e σ', k e → Sl K W e σ' → σ'.length = n → wipe σ' vs = wipe σ vs → Q σ' H
structure PDg (X : Cx) (tg : Expr) (vs : List Nat) (t : WPg) : Prop where
  run : PG X tg (lG X.K X.N.length vs t)
structure PDgs (X : Cx) (tg : List Expr) (vs : List Nat) (t : List WPg) : Prop where
  run : PGs X tg (lGs X.K X.N.length vs t)
theorem wipe_set : ∀ {vs : List Nat} {σ : L2.St} {i : Nat} {o : Option V}, i ∈ vs → wipe (σ.set i o) vs = wipe σ vs
  | [], _, _, _, h => by cases h
  | v :: vs, σ, i, o, h => by
    show (wipe (σ.set i o) vs).set v none = (wipe σ vs).set v none
    by_cases hi : i ∈ vs
    · rw [wipe_set hi]
    · have e : i = v := by
        cases h with
        | head => rfl
        | tail _ h => exact absurd h hi
      subst e
      have key : ∀ {us : List Nat} {τ : L2.St}, i ∉ us → wipe (τ.set i o) us = (wipe τ us).set i o := fun {us τ} => by
        induction us with
        | nil => intro _; rfl
        | cons u us ih =>
          intro hu
          have h1 : i ≠ u := fun z => hu (by rw [z]; exact List.mem_cons_self)
          show (wipe (τ.set i o) us).set u none = ((wipe τ us).set u none).set i o
          rw [ih (fun z => hu (List.mem_cons_of_mem _ z)), List.set_comm _ _ h1]
      rw [key hi, List.set_set]
theorem PG.imp {X : Cx} {tg : Expr} {g g' : TG} (h : PG X tg g) (i : ∀ v σ H Q, g' v σ H Q → g v σ H Q) : PG X tg g' := ⟨fun pins s σ H v u Q I r q => h.run pins s σ H v u Q I r (i _ _ _ _ q)⟩
theorem PGs.imp {X : Cx} {tg : List Expr} {g g' : TGs} (h : PGs X tg g) (i : ∀ v σ H Q, g' v σ H Q → g v σ H Q) : PGs X tg g' := ⟨fun pins s σ H v u Q I r q => h.run pins s σ H v u Q I r (i _ _ _ _ q)⟩
section
variable {X : Cx} {pos : Pos} {vs : List Nat} {x : Str} {i : Nat} {e : Expr} {es : List Expr} {t : WPg} {ts : List WPg}
theorem pdg_name (hN : X.N.Nodup) (hi : X.N[i]? = some x) (hx : Loc X.env.scope x) (hv : i ∈ vs) (hf : X.fn x = true ∨ X.env.scope.names.lookup x = some .local := by first | exact .inl rfl | exact .inr rfl | assumption) : PDg X (.Name x pos) vs (gN i) :=
  ⟨PG.imp (pg_name hN hi hx hf) fun v σ H Q ⟨W, S, env, d, k, ok, sl, hl, r, ht, hq⟩ => hq _ _ ht (sl.set (by rw [hl]; exact lt_of_some hi) r) (by rw [List.length_set]; exact hl) (wipe_set hv)⟩
theorem pdgs_nil : PDgs X [] vs [] := ⟨PGs.imp pgs_nil fun v σ H Q ⟨W, S, env, d, k, ok, sl, hl, r, ht, hq⟩ => by
  cases d with
  | nil => exact ⟨r, hq _ _ ht sl hl rfl⟩
  | cons _ _ => exact ht.elim⟩
theorem pdgs_cons (h1 : PDg X e vs t) (h2 : PDgs X es vs ts) (hs : (assignEach (e :: es) X.env).map (·.2) = assign e X.env :: (assignEach es X.env).map (·.2) := by rfl) : PDgs X (e :: es) vs (t :: ts) :=
  ⟨PGs.imp (pgs_cons h1.run h2.run hs) fun v σ H Q ⟨W, S, env, d, k, ok, sl, hl, r, ht, hq⟩ => by
    cases d with
    | nil => exact ht.elim
    | cons d ds =>
      obtain ⟨u, us, e1, r1, r2⟩ := r
      refine ⟨u, us, e1, W, S, env, d, _, ok, sl, hl, r1, ht, fun e σ1 h1 sl1 hl1 hw1 => ⟨W, S, e, ds, k, ok, sl1, hl1, r2, h1, fun e2 σ2 h2 sl2 hl2 hw2 => hq e2 σ2 h2 sl2 hl2 (hw2.trans hw1)⟩⟩⟩
theorem pdg_tup {z : Nat} (hc : X.calm = true) (h : PDgs X es vs ts) (hn : (assignEach es X.env).length = ts.length := by rfl) (hst : (assignEach es X.env).findIdx? (·.1) = none := by rfl) : PDg X (.Tuple es z pos) vs (gT ts) :=
  ⟨PG.imp (pg_tup hc h.run hn hst) fun v σ H Q ⟨W, S, env, d, k, ok, sl, hl, r, ht, hq⟩ => by
    cases d with
    | tup xs =>
      obtain ⟨a, us, e1, e2, e3⟩ := r
      exact ⟨a, us, e1, sqT_mono ok.vis e2, by rw [e3.length]; exact ht.1, W, S, env, xs, k, ok, sl, hl, e3, ht.2, hq⟩
    | _ => exact ht.elim⟩
end

/-! ### what is walked -/
abbrev WPi := DE → Sto → (List D → (Sto → Prop) → Sto → Prop) → XQ → Prop
structure JOk (K : PySem.W.Frag) (J : It) (W0 : Hp) (items : List D) (g : Sto → Prop) : Prop where
  step : ∀ (i : Nat) W S H d, items[i]? = some d → Same W0 W → Ok K W S H → g S → J.go i H ∧ ∀ x H', J.yld i H x H' → ∃ W', Stp W S H W' S H' ∧ Ok K W' S H' ∧ Rep K W' d x
  stop : ∀ W S H, Same W0 W → Ok K W S H → g S → J.stop items.length H
def lI (K : PySem.W.Frag) (Wx : WX) (w : WPi) : TI := fun σ H R => ∃ W env S Q0 X0, Ok K W S H ∧ Sl K W env σ ∧ w env S Q0 X0 ∧
  (∀ items g S' W' H' J, Q0 items g S' → Stp W S H W' S' H' → Ok K W' S' H' → JOk K J W' items g → R J H') ∧ CXc K W S H X0 (fun c d H' => Wx c d σ H')
structure PDi (X : Cx) (tg e : Expr) (w : WPi) : Prop where
  run : ∀ Wx, Takes X Wx → PI X tg e (lI X.K Wx w)
theorem PI.imp {X : Cx} {tg e : Expr} {t t' : TI} (h : PI X tg e t) (i : ∀ σ H R, t' σ H R → t σ H R) : PI X tg e t' := ⟨fun pins s σ H R I q => h.run pins s σ H R I (i _ _ _ q)⟩
/-- a list or a tuple -/
def iSeq (K : PySem.W.Frag) (tl : TE) : TI := fun σ H R => tl σ H fun x H1 => ∃ a, x = .ref a ∧ (((∃ xs, SqL K H1 a xs) ∧ R (Itl K a) H1) ∨ ((∃ xs, SqT K H1 a xs) ∧ R (Itt K a) H1))
theorem pi_seq {X : Cx} {tg l : Expr} {tl : TE} (hl : PE X l tl) : PI X tg l (iSeq X.K tl) := by
  refine ⟨fun pins s σ H R I h => ?_⟩
  refine thn (hl.run pins s σ H _ I h) fun v s1 ⟨x, H1, I1, r1, q1⟩ => ?_
  obtain ⟨a, e, ⟨⟨xs, hq⟩, q⟩ | ⟨⟨xs, hq⟩, q⟩⟩ := q1
  · subst e
    cases r1
    obtain ⟨its, rv, p, hz⟩ := I1.list hq
    refine wpAny_pyIter_list p.isList ?_
    refine ⟨s1.heap.objs.size, [s1.heap.objs.size], _, _, H1, rfl, I1.kept (t' := s1.toks) fun b o e => Heap.get?_push_of_some _ e, turn_list a _, ⟨_, Heap.get?_push_size _ rfl, rfl, rfl⟩, fun b hb => ?_, q⟩
    have e : b = s1.heap.objs.size := by simpa using hb
    subst e
    exact I1.fpOk (Nat.le_refl _) (I1.hok.fresh (Nat.le_refl _))
  · subst e
    cases r1
    obtain ⟨its, rv, p, hz⟩ := I1.tuple hq
    refine wpAny_pyIter_tuple (show s1.heap.IsTuple a its.toArray from p) ?_
    refine ⟨s1.heap.objs.size, [s1.heap.objs.size], _, _, H1, rfl, I1.kept (t' := s1.toks) fun b o e => Heap.get?_push_of_some _ e, turn_tuple a _, ⟨_, Heap.get?_push_size _ rfl, rfl, rfl⟩, fun b hb => ?_, q⟩
    have e : b = s1.heap.objs.size := by simpa using hb
    subst e
    exact I1.fpOk (Nat.le_refl _) (I1.hok.fresh (Nat.le_refl _))
def wIt (w : WPe) : WPi := fun env S Q X => w env S (fun d S1 => some! (seqA S1 d) fun xs => Q xs (fun S' => seqA S' d = some xs) S1) X
section
variable {K : PySem.W.Frag}
theorem jok_list {W0 : Hp} {S0 : Sto} {H0 : Hp} {d : D} {a : Addr} {xs : List D} (ok : Ok K W0 S0 H0) (r : Rep K W0 d (.ref a)) (hL : seqL S0 d = some xs) (hA : ∀ {S}, seqA S d = seqL S d) :
    (∃ vs, SqL K H0 a vs) ∧ JOk K (Itl K a) W0 xs (fun S' => seqA S' d = some xs) := by
  obtain ⟨b, ws, e1, e2, e3⟩ := seqL_rep ok r hL
  cases e1
  refine ⟨⟨ws, e2⟩, ⟨fun i W S H d hd s1 ok1 g => ?_, fun W S H s1 ok1 g => ?_⟩⟩
  · rw [hA] at g
    obtain ⟨c, zs, e7, e8, e9⟩ := seqL_rep ok1 (r.mono s1) g
    cases e7
    obtain ⟨u, hu, ru⟩ := e9.get hd
    refine ⟨⟨zs, u, e8, hu⟩, fun x H' ⟨e4, e5⟩ => ?_⟩
    subst e4
    have e6 := e5 zs e8
    rw [hu] at e6
    cases e6
    exact ⟨W, Stp.refl, ok1, ru⟩
  · rw [hA] at g
    obtain ⟨c, zs, e7, e8, e9⟩ := seqL_rep ok1 (r.mono s1) g
    cases e7
    exact ⟨zs, e8, Nat.le_of_eq e9.length⟩
theorem jok_seq {W0 : Hp} {S0 : Sto} {H0 : Hp} {d : D} {v : V} {xs : List D} (ok : Ok K W0 S0 H0) (r : Rep K W0 d v) (h : seqA S0 d = some xs) :
    ∃ a, v = .ref a ∧ (((∃ vs, SqL K H0 a vs) ∧ JOk K (Itl K a) W0 xs (fun S' => seqA S' d = some xs)) ∨ ((∃ vs, SqT K H0 a vs) ∧ JOk K (Itt K a) W0 xs (fun S' => seqA S' d = some xs))) := by
  obtain ⟨a, vs, rfl, hq, rv⟩ := seqA_rep ok r h
  refine ⟨a, rfl, ?_⟩
  cases d with
  | tup ys =>
    cases h
    obtain ⟨b, ws, e1, e2, e3⟩ := r
    cases e1
    refine .inr ⟨⟨ws, sqT_mono ok.vis e2⟩, ⟨fun i W S H d hd s1 ok1 _ => ?_, fun W S H s1 ok1 _ => ?_⟩⟩
    · obtain ⟨u, hu, ru⟩ := e3.get hd
      have hT := sqT_mono (s1.trans ok1.vis) e2
      refine ⟨⟨ws, u, hT, hu⟩, fun x H' ⟨e4, e5⟩ => ?_⟩
      subst e4
      have e6 := e5 ws hT
      rw [hu] at e6
      cases e6
      exact ⟨W, Stp.refl, ok1, ru.mono s1⟩
    · exact ⟨ws, sqT_mono (s1.trans ok1.vis) e2, Nat.le_of_eq e3.length⟩
  | lst ys => exact .inl (jok_list ok r h rfl)
  | fro ys => exact .inl (jok_list ok r h rfl)
  | ref b => exact .inl (jok_list ok r h rfl)
  | _ => cases h
end
section
variable {X : Cx} {tg e a b : Expr} {w wa wb : WPe} {p pos : Pos}
theorem pdi_seq (h : PD X e w) : PDi X tg e (wIt w) :=
  ⟨fun Wx tk => PI.imp (pi_seq (h.run Wx tk)) fun σ H R ⟨W, env, S, Q0, X1, ok, sl, hw, cv, cx⟩ => ⟨W, env, S, _, X1, ok, sl, hw, fun d S1 v W1 H1 h1 s1 ok1 r1 => by
    obtain ⟨xs, e1, h1⟩ := some!_ex h1
    obtain ⟨a, rfl, ⟨q, j⟩ | ⟨q, j⟩⟩ := jok_seq ok1 r1 e1
    · exact ⟨a, rfl, .inl ⟨q, cv _ _ S1 W1 H1 _ h1 s1 ok1 j⟩⟩
    · exact ⟨a, rfl, .inr ⟨q, cv _ _ S1 W1 H1 _ h1 s1 ok1 j⟩⟩, cx⟩⟩
def rngD (lo : Int) (n : Nat) : List D := (List.range n).map fun (i : Nat) => D.int (lo + (i : Int))
theorem rngD_get {lo : Int} {n i : Nat} {d : D} (h : (rngD lo n)[i]? = some d) : i < n ∧ d = .int (lo + (i : Int)) := by
  unfold rngD at h
  rw [List.getElem?_map] at h
  by_cases hi : i < n
  · rw [List.getElem?_range hi] at h
    exact ⟨hi, (Option.some.inj h).symm⟩
  · rw [List.getElem?_eq_none (by rw [List.length_range]; omega)] at h
    cases h
theorem rngD_length {lo : Int} {n : Nat} : (rngD lo n).length = n := by
  unfold rngD
  rw [List.length_map, List.length_range]
theorem jok_rng {K : PySem.W.Frag} {W0 : Hp} {lo : Int} {n : Nat} : JOk K (Itr lo n) W0 (rngD lo n) (fun _ => True) :=
  ⟨fun i W S H d hd s1 ok1 _ => by
    obtain ⟨hi, rfl⟩ := rngD_get hd
    exact ⟨hi, fun x H' ⟨e1, e2⟩ => by subst e1; exact ⟨W, Stp.refl, ok1, e2⟩⟩, fun W S H _ _ _ => by rw [rngD_length]; exact Nat.le_refl _⟩
def wRg1 (wa : WPe) : WPi := fun env S Q X => wa env S (fun a S1 => asI a fun j => (-(2 ^ 62) ≤ j ∧ j < 2 ^ 62) ∧ Q (rngD 0 j.toNat) (fun _ => True) S1) X
def wRg2 (wa wb : WPe) : WPi := fun env S Q X => wa env S (fun a S1 => asI a fun i => wb env S1 (fun b S2 => asI b fun j => (-(2 ^ 62) ≤ i ∧ i < 2 ^ 62 ∧ -(2 ^ 62) ≤ j ∧ j < 2 ^ 62) ∧ Q (rngD i (j - i).toNat) (fun _ => True) S2) X) X
theorem pdi_rg1 (hm : X.mg "range" = none) (ha : PD X a wa) (hg : Gl X "range" := by rfl) (hs : starEach [a] X.env = [(false, eval a X.env)] := by rfl) : PDi X tg (.Call (.Name "range" p) [a] [] pos) (wRg1 wa) :=
  ⟨fun Wx tk => PI.imp (pi_range1 hg hm (pa_cons (ha.run Wx tk) pa_nil hs) hs) fun σ H R ⟨W, env, S, Q0, X1, ok, sl, hw, cv, cx⟩ => ⟨W, env, S, _, X1, ok, sl, hw, fun d S1 v W1 H1 h1 s1 ok1 r1 => by
    obtain ⟨j, rfl, ⟨h2, h3⟩, h4⟩ := asI_ex h1
    exact ⟨j, by rw [show v = .int j from r1], h2, h3, cv _ _ S1 W1 H1 _ h4 s1 ok1 jok_rng⟩, cx⟩⟩
theorem pdi_rg2 (hm : X.mg "range" = none) (ha : PD X a wa) (hb : PD X b wb) (hg : Gl X "range" := by rfl) (hs : starEach [a, b] X.env = [(false, eval a X.env), (false, eval b X.env)] := by rfl) (hs2 : starEach [b] X.env = [(false, eval b X.env)] := by rfl) :
    PDi X tg (.Call (.Name "range" p) [a, b] [] pos) (wRg2 wa wb) :=
  ⟨fun Wx tk => PI.imp (pi_range2 hg hm (pa_cons (ha.run Wx tk) (pa_cons (hb.run Wx tk) pa_nil hs2) (by rw [hs, hs2])) hs hs2) fun σ H R ⟨W, env, S, Q0, X1, ok, sl, hw, cv, cx⟩ => ⟨W, env, S, _, X1, ok, sl, hw, fun d S1 v W1 H1 h1 s1 ok1 r1 => by
    obtain ⟨i, rfl, h1⟩ := asI_ex h1
    refine ⟨W1, env, S1, _, X1, ok1, sl.mono s1.vis, h1, fun d2 S2 u W2 H2 h2 s2 ok2 r2 => ?_, cx.mono s1⟩
    obtain ⟨j, rfl, h3, h4⟩ := asI_ex h2
    exact ⟨i, j, by rw [show v = .int i from r1, show u = .int j from r2], h3, cv _ _ S2 W2 H2 _ h4 (s1.trans s2) ok2 jok_rng⟩, cx⟩⟩
end

/-! ### for -/
/-- by an invariant over (turn, slots, store) -/
def forI (t : WPg) (body : WPs) (g : Sto → Prop) (items : List D) (env : DE) (S : Sto) (q : QS) : Prop := ∃ P : Nat → DE → Sto → Prop, P 0 env S ∧ (∀ i e S, i ≤ items.length → P i e S → g S) ∧
  (∀ i d e S, items[i]? = some d → P i e S → t d e fun e1 => body e1 S { q with nx := P (i + 1), ct := P (i + 1), bk := q.nx }) ∧ ∀ e S, P items.length e S → q.nx e S
/-- turn by turn -/
def forL (t : WPg) (body : WPs) (g : Sto → Prop) : List D → WPs
  | [], env, S, q => g S ∧ q.nx env S
  | d :: r, env, S, q => g S ∧ t d env fun e => body e S { q with nx := fun e2 S2 => forL t body g r e2 S2 q, ct := fun e2 S2 => forL t body g r e2 S2 q, bk := q.nx }
theorem forI_of {t : WPg} {body : WPs} {g : Sto → Prop} {items : List D} {env : DE} {S : Sto} {q : QS} (h : forL t body g items env S q) : forI t body g items env S q := by
  refine ⟨fun i e S => forL t body g (items.drop i) e S q, h, fun i e S hi h => ?_, fun i d e S hd h => ?_, fun e S h => ?_⟩
  · dsimp only at h
    by_cases hlt : i < items.length
    · rw [List.drop_eq_getElem_cons hlt] at h
      exact h.1
    · rw [List.drop_eq_nil_of_le (by omega)] at h
      exact h.1
  · dsimp only at h
    obtain ⟨hlt, e1⟩ := List.getElem?_eq_some_iff.mp hd
    subst e1
    rw [List.drop_eq_getElem_cons hlt] at h
    exact h.2
  · dsimp only at h
    rw [List.drop_length] at h
    exact h.2
/-- a fold -/
theorem forI_fold {α : Type} {t : WPg} {body : WPs} {g : Sto → Prop} {items : List D} {env : DE} {S : Sto} {q : QS} (st : α → DE → Sto → Prop) (step : α → D → α) (init : α) (h0 : st init env S) (hg : ∀ a e S, st a e S → g S)
    (hs : ∀ i d a e S, items[i]? = some d → a = (items.take i).foldl step init → st a e S → t d e fun e1 => body e1 S { q with nx := st (step a d), ct := st (step a d), bk := q.nx }) (hd : ∀ e S, st (items.foldl step init) e S → q.nx e S) : forI t body g items env S q := by
  refine ⟨fun i e S => st ((items.take i).foldl step init) e S, by simpa using h0, fun i e S _ h => hg _ e S h, fun i d e S hi h => ?_, fun e S h => hd e S (by simpa using h)⟩
  have key : (items.take (i + 1)).foldl step init = step ((items.take i).foldl step init) d := by
    rw [List.take_add_one, hi]
    simp
  dsimp only
  rw [key]
  exact hs i d _ e S hi rfl h
/-- .. what follows the body told by what it wants -/
theorem forI_foldq {α : Type} {t : WPg} {body : WPs} {g : Sto → Prop} {items : List D} {env : DE} {S : Sto} {q : QS} (st : α → DE → Sto → Prop) (step : α → D → α) (init : α) (h0 : st init env S) (hg : ∀ a e S, st a e S → g S)
    (hs : ∀ i d a e S, items[i]? = some d → a = (items.take i).foldl step init → st a e S → ∀ q' : QS, (∀ e S, st (step a d) e S → q'.nx e S) → q'.rt = q.rt → q'.bk = q.nx → q'.ct = q'.nx → q'.xc = q.xc → t d e fun e1 => body e1 S q') (hd : ∀ e S, st (items.foldl step init) e S → q.nx e S) : forI t body g items env S q :=
  forI_fold st step init h0 hg (fun i d a e S hi ha h => hs i d a e S hi ha h _ (fun _ _ z => z) rfl rfl rfl rfl) hd
/-- .. by an invariant -/
theorem forI_invq {t : WPg} {body : WPs} {g : Sto → Prop} {items : List D} {env : DE} {S : Sto} {q : QS} (P : Nat → DE → Sto → Prop) (h0 : P 0 env S) (hg : ∀ i e S, P i e S → g S)
    (hs : ∀ i d e S, items[i]? = some d → P i e S → ∀ q' : QS, (∀ e S, P (i + 1) e S → q'.nx e S) → q'.rt = q.rt → q'.bk = q.nx → q'.ct = q'.nx → q'.xc = q.xc → t d e fun e1 => body e1 S q') (hd : ∀ e S, P items.length e S → q.nx e S) : forI t body g items env S q :=
  ⟨P, h0, fun i e S _ h => hg i e S h, fun i d e S hi h => hs i d e S hi h _ (fun _ _ z => z) rfl rfl rfl rfl, hd⟩
def wFor (wi : WPi) (t : WPg) (body : WPs) : WPs := fun env S q => wi env S (fun items g S1 => forI t body g items env S1 q) (xcQ q env)
section
variable {X : Cx} {tg iter : Expr} {body : List Stmt} {wi : WPi} {t : WPg} {ws : WPs} {pos : Pos} {vs : List Nat}
theorem pds_for (hc : X.calm = true) (hp : PassesOwn (model X.prog X.w) X.A X.env X.xe) (hi : PDi X tg iter wi) (hg : PDg X tg vs t) (hb : PDss X body ws) (hs : ∀ x, foldedSetIterable iter X.env x = pure x := by intro _; rfl) : PDs X (.For tg iter body [] pos) (wFor wi t ws) :=
  ⟨fun Wx tk => PS.imp (ps_for hp hc (hi.run Wx tk) hg.run (hb.run Wx tk) hs) fun D σ H ⟨W, env, S, q, ok, sl, hl, hw, cs⟩ => by
    refine ⟨W, env, S, _, _, ok, sl, hw, fun items g S1 W1 H1 J ⟨P, h0, hg0, hs0, hd0⟩ s1 ok1 jok => ?_, CXc.of cs sl⟩
    refine ⟨fun i m σ' H' => m = items.length - i ∧ i ≤ items.length ∧ σ'.length = X.N.length ∧ ∃ W' env' S', Stp W1 S1 H1 W' S' H' ∧ Ok X.K W' S' H' ∧ Sl X.K W' env' σ' ∧ P i env' S',
      ⟨items.length, rfl, Nat.zero_le _, hl, W1, env, S1, Stp.refl, ok1, sl.mono s1.vis, h0⟩, ?_⟩
    rintro i m σ' H' ⟨rfl, hi2, hl', W', env', S', s2, ok2, sl2, h2⟩
    have hgS := hg0 i env' S' hi2 h2
    by_cases hlt : i < items.length
    · have hd := List.getElem?_eq_getElem hlt
      obtain ⟨go, yl⟩ := jok.step i W' S' H' _ hd s2.vis ok2 hgS
      refine .inr ⟨go, fun σ2 H2 => σ2.length = X.N.length ∧ ∃ W2 env2 S2, Stp W1 S1 H1 W2 S2 H2 ∧ Ok X.K W2 S2 H2 ∧ Sl X.K W2 env2 σ2 ∧ P (i + 1) env2 S2,
        fun σ2 H2 ⟨hl2, h3⟩ => ⟨items.length - (i + 1), by omega, rfl, hlt, hl2, h3⟩, fun x H2 y => ?_⟩
      obtain ⟨W2, s3, ok3, rx⟩ := yl x H2 y
      refine ⟨W2, S', env', items[i], _, ok3, sl2.mono s3.vis, hl', rx, hs0 i _ env' S' hd h2, fun e2 σ3 h3 sl3 hl3 _ => ?_⟩
      have st := s1.trans (s2.trans s3)
      refine ⟨W2, e2, S', _, ok3, sl3, hl3, h3, ?_⟩
      have fin : ∀ {e4 : DE} {S4 : Sto} {σ4 : L2.St} {W4 H4 : Hp}, P (i + 1) e4 S4 → Stp W2 S' H2 W4 S4 H4 → Ok X.K W4 S4 H4 → Sl X.K W4 e4 σ4 → σ4.length = X.N.length →
          (σ4.length = X.N.length ∧ ∃ W2 env2 S2, Stp W1 S1 H1 W2 S2 H4 ∧ Ok X.K W2 S2 H4 ∧ Sl X.K W2 env2 σ4 ∧ P (i + 1) env2 S2) :=
        fun h4 s4 ok4 sl4 hl4 => ⟨hl4, _, _, _, s2.trans (s3.trans s4), ok4, sl4, h4⟩
      exact ⟨fun e4 S4 σ4 W4 H4 h4 s4 ok4 sl4 hl4 => fin h4 s4 ok4 sl4 hl4, (cs.mono st).rt, (cs.mono st).nx, fun e4 S4 σ4 W4 H4 h4 s4 ok4 sl4 hl4 => fin h4 s4 ok4 sl4 hl4, (cs.mono st).xc⟩
    · have e : i = items.length := by omega
      subst e
      exact .inl ⟨jok.stop W' S' H' s2.vis ok2 hgS, cs.nx env' S' σ' W' H' (hd0 _ _ h2) (s1.trans s2) ok2 sl2 hl'⟩⟩
end

/-! ### while -/
def wWhile (t : WPt) (body : WPs) : WPs := fun env S q => ∃ P : Nat → DE → Sto → Prop, (∃ m, P m env S) ∧ ∀ m e S, P m e S →
  t e S (fun b S1 => if b = true then body e S1 { q with nx := fun e2 S2 => ∃ m', m' < m ∧ P m' e2 S2, ct := fun e2 S2 => ∃ m', m' < m ∧ P m' e2 S2, bk := q.nx } else q.nx e S1) (xcQ q e)
theorem pds_while {X : Cx} {c : Expr} {body : List Stmt} {t : WPt} {ws : WPs} {pos : Pos} (hp : PassesOwn (model X.prog X.w) X.A X.env X.xe) (hc : PDt X c t) (hb : PDss X body ws) : PDs X (.While c body [] pos) (wWhile t ws) :=
  ⟨fun Wx tk => PS.imp (ps_while hp (hc.run Wx tk) (hb.run Wx tk)) fun D σ H ⟨W, env, S, q, ok, sl, hl, ⟨P, ⟨m0, h0⟩, hs⟩, cs⟩ => by
    refine ⟨fun m σ' H' => σ'.length = X.N.length ∧ ∃ W' env' S', Stp W S H W' S' H' ∧ Ok X.K W' S' H' ∧ Sl X.K W' env' σ' ∧ P m env' S', ⟨m0, hl, W, env, S, Stp.refl, ok, sl, h0⟩, ?_⟩
    rintro m σ' H' ⟨hl', W', env', S', s1, ok1, sl1, h1⟩
    refine ⟨W', env', S', _, _, ok1, sl1, hs m env' S' h1, fun b S2 W2 H2 h2 s2 ok2 => ?_, CXc.of (cs.mono s1) sl1⟩
    cases b with
    | true =>
      refine iteT ⟨fun σ3 H3 => ∃ m', m' < m ∧ σ3.length = X.N.length ∧ ∃ W' env' S', Stp W S H W' S' H3 ∧ Ok X.K W' S' H3 ∧ Sl X.K W' env' σ3 ∧ P m' env' S', fun σ3 H3 ⟨m', hm, h3⟩ => ⟨m', hm, h3⟩, W2, env', S2, _, ok2, sl1.mono s2.vis, hl', (if_pos rfl).mp h2, ?_⟩
      have st := s1.trans s2
      exact ⟨fun e4 S4 σ4 W4 H4 ⟨m', hm, h4⟩ s4 ok4 sl4 hl4 => ⟨m', hm, hl4, W4, e4, S4, st.trans s4, ok4, sl4, h4⟩, (cs.mono st).rt, (cs.mono st).nx, fun e4 S4 σ4 W4 H4 ⟨m', hm, h4⟩ s4 ok4 sl4 hl4 => ⟨m', hm, hl4, W4, e4, S4, st.trans s4, ok4, sl4, h4⟩, (cs.mono st).xc⟩
    | false => exact iteF (cs.nx env' S2 σ' W2 H2 ((if_neg Bool.false_ne_true).mp h2) (s1.trans s2) ok2 (sl1.mono s2.vis) hl')⟩

/-! ### list comprehensions -/
def wYes : WPt := fun _ S Q _ => Q true S
structure PDts (X : Cx) (ifs : List Expr) (w : WPt) : Prop where
  run : ∀ Wx, Takes X Wx → PTs X ifs (lT X.K Wx w)
theorem pdts_nil {X : Cx} : PDts X [] wYes := ⟨fun Wx tk => ⟨fun pins s σ H Q I ⟨W, env, S, Q0, X1, ok, sl, hw, cv, cx⟩ => pts_nil.run pins s σ H Q I (cv true S W H hw Stp.refl ok)⟩⟩
theorem pdts_one {X : Cx} {c : Expr} {w : WPt} (h : PDt X c w) : PDts X [c] w := ⟨fun Wx tk => pts_one (h.run Wx tk)⟩
def delVs (env : DE) : List Nat → DE
  | [] => env
  | v :: vs => delV (delVs env vs) v
theorem sl_wipe {K : PySem.W.Frag} {W : Hp} {env : DE} {σ : L2.St} (h : Sl K W env σ) : ∀ vs : List Nat, Sl K W (delVs env vs) (wipe σ vs)
  | [] => h
  | v :: vs => fun i d q => by
    obtain ⟨a, b⟩ := getV_delV q
    obtain ⟨u, c, r⟩ := sl_wipe h vs i d b
    refine ⟨u, ?_, r⟩
    show ((wipe σ vs).set v none)[i]? = _
    rw [List.getElem?_set_ne (Ne.symm a)]; exact c
theorem delVs_len {σ : L2.St} {vs : List Nat} {n : Nat} (h : σ.length = n) : (wipe σ vs).length = n := by rw [wipe_length]; exact h
theorem wipe_wipe {σ : L2.St} {vs : List Nat} : wipe (wipe σ vs) vs = wipe σ vs := by
  apply List.ext_getElem?
  intro i
  have key : ∀ {τ : L2.St} {us : List Nat}, (i ∈ us → i < τ.length → (wipe τ us)[i]? = some none) ∧ (i ∉ us → (wipe τ us)[i]? = τ[i]?) := fun {τ us} => by
    induction us with
    | nil => exact ⟨(fun h => by cases h), (fun _ => rfl)⟩
    | cons u us ih =>
      refine ⟨fun h hl => ?_, fun h => ?_⟩
      · show ((wipe τ us).set u none)[i]? = some none
        by_cases e : u = i
        · subst e
          exact List.getElem?_set_self (by rw [wipe_length]; exact hl)
        · rw [List.getElem?_set_ne e]
          exact ih.1 (by cases h with | head => exact absurd rfl e | tail _ h => exact h) hl
      · show ((wipe τ us).set u none)[i]? = _
        rw [List.getElem?_set_ne (fun e => h (by rw [e]; exact List.mem_cons_self))]
        exact ih.2 fun z => h (List.mem_cons_of_mem _ z)
  by_cases h : i ∈ vs
  · by_cases hl : i < σ.length
    · rw [(key (τ := wipe σ vs)).1 h (by rw [wipe_length]; exact hl), (key (τ := σ)).1 h hl]
    · rw [List.getElem?_eq_none (by rw [wipe_length, wipe_length]; omega), List.getElem?_eq_none (by rw [wipe_length]; omega)]
  · rw [(key (τ := wipe σ vs)).2 h]
def compI (t : WPg) (tt : WPt) (te : WPe) (g : Sto → Prop) (env : DE) (items : List D) (S : Sto) (Q : List D → Sto → Prop) : Prop := ∃ P : Nat → List D → Sto → Prop, P 0 [] S ∧ (∀ i acc S, i ≤ items.length → P i acc S → g S) ∧
  (∀ i d acc S, items[i]? = some d → P i acc S → t d env fun e => tt e S (fun b S1 => if b = true then te e S1 (fun y S2 => P (i + 1) (acc ++ [y]) S2) X0 else P (i + 1) acc S1) X0) ∧ ∀ acc S, P items.length acc S → Q acc S
/-- item by item -/
def compL (t : WPg) (tt : WPt) (te : WPe) (g : Sto → Prop) (env : DE) : List D → List D → Sto → (List D → Sto → Prop) → Prop
  | [], acc, S, Q => g S ∧ Q acc S
  | d :: r, acc, S, Q => g S ∧ t d env fun e => tt e S (fun b S1 => if b = true then te e S1 (fun y S2 => compL t tt te g env r (acc ++ [y]) S2 Q) X0 else compL t tt te g env r acc S1 Q) X0
theorem compI_of {t : WPg} {tt : WPt} {te : WPe} {g : Sto → Prop} {env : DE} {items : List D} {S : Sto} {Q : List D → Sto → Prop} (h : compL t tt te g env items [] S Q) : compI t tt te g env items S Q := by
  refine ⟨fun i acc S => compL t tt te g env (items.drop i) acc S Q, h, fun i acc S hi h => ?_, fun i d acc S hd h => ?_, fun acc S h => ?_⟩
  · dsimp only at h
    by_cases hlt : i < items.length
    · rw [List.drop_eq_getElem_cons hlt] at h
      exact h.1
    · rw [List.drop_eq_nil_of_le (by omega)] at h
      exact h.1
  · dsimp only at h
    obtain ⟨hlt, e1⟩ := List.getElem?_eq_some_iff.mp hd
    subst e1
    rw [List.drop_eq_getElem_cons hlt] at h
    exact h.2
  · dsimp only at h
    rw [List.drop_length] at h
    exact h.2
/-- each item's value told by a function -/
theorem compI_map {t : WPg} {tt : WPt} {te : WPe} {g : Sto → Prop} {env : DE} {items : List D} {S : Sto} {Q : List D → Sto → Prop} (f : D → Option D) (hg : g S)
    (h : ∀ d, d ∈ items → ∀ R : Option D → Sto → Prop, R (f d) S → t d env fun e => tt e S (fun b S1 => if b = true then te e S1 (fun y S2 => R (some y) S2) X0 else R none S1) X0) (hq : Q (items.filterMap f) S) : compI t tt te g env items S Q := by
  refine ⟨fun i acc S' => S' = S ∧ acc = (items.take i).filterMap f, ⟨rfl, by simp⟩, fun i acc S' _ h => by rw [h.1]; exact hg, fun i d acc S' hd ⟨e1, e2⟩ => ?_, fun acc S' ⟨e1, e2⟩ => ?_⟩
  · subst e1 e2
    refine h d (List.mem_of_getElem? hd) (fun o S2 => match o with
      | some y => S2 = S' ∧ (items.take i).filterMap f ++ [y] = (items.take (i + 1)).filterMap f
      | none => S2 = S' ∧ (items.take i).filterMap f = (items.take (i + 1)).filterMap f) ?_
    have key : (items.take (i + 1)).filterMap f = (items.take i).filterMap f ++ [d].filterMap f := by
      rw [List.take_add_one, hd]
      simp
    cases e : f d with
    | none =>
      refine ⟨rfl, ?_⟩
      rw [key]
      simp [e]
    | some y =>
      refine ⟨rfl, ?_⟩
      rw [key]
      simp [e]
  · subst e1 e2
    simpa using hq
/-- by an invariant of what is made so far -/
theorem compI_inv {t : WPg} {tt : WPt} {te : WPe} {g : Sto → Prop} {env : DE} {items : List D} {S : Sto} {Q : List D → Sto → Prop} (P : Nat → List D → Sto → Prop) (h0 : P 0 [] S) (hg : ∀ i acc S, P i acc S → g S)
    (hs : ∀ i d acc S, items[i]? = some d → P i acc S → t d env fun e => tt e S (fun b S1 => if b = true then te e S1 (fun y S2 => P (i + 1) (acc ++ [y]) S2) X0 else P (i + 1) acc S1) X0) (hd : ∀ acc S, P items.length acc S → Q acc S) : compI t tt te g env items S Q :=
  ⟨P, h0, fun i acc S _ h => hg i acc S h, hs, hd⟩
def wLc (wi : WPi) (t : WPg) (tt : WPt) (te : WPe) (vs : List Nat) : WPe := fun env S Q X => wi env S (fun items g S1 => items.length ≤ sizeLine ∧ compI t tt te g (delVs env vs) items S1 fun ds S2 => Q (.lst ds) S2) X
/-- .. a new mutable list -/
def wLcM (wi : WPi) (t : WPg) (tt : WPt) (te : WPe) (vs : List Nat) : WPe := fun env S Q X => wi env S (fun items g S1 => items.length ≤ sizeLine ∧ compI t tt te g (delVs env vs) items S1 fun ds S2 => ∀ p, S2 p = none → Q (.ref p) (put S2 p (.lst ds))) X
theorem takesF {X : Cx} {s : Shared} {H : Hp} {scope : Scope} {cenv : Env} {fp : List Addr} : Takes (X.blk s H scope cenv fp) (fun _ _ _ _ => False) := takes0
theorem Stp.see {W W' : Hp} {S S' : Sto} {H H' : Hp} {p : Addr} {o : HO} (st : Stp W S H W' S' H') (h : H p = none) (hW : W' p = none) : Stp W S H (upd W' p o) S' H' :=
  ⟨st.vis.trans (same_new hW), fun a x h1 h2 h3 => by
    have ne : a ≠ p := ne_of_none h1 h
    obtain ⟨y1, y2, y3⟩ := st.frm a x h1 h2 h3
    exact ⟨y1, by rw [upd_ne ne]; exact y2, y3⟩⟩
theorem Stp.see' {W W1 W' : Hp} {S S1 S' : Sto} {H H1 H' : Hp} {p : Addr} {o : HO} (st : Stp W S H W' S' H') (h : H1 p = none) (hW : W' p = none) (s1 : Stp W S H W1 S1 H1) : Stp W S H (upd W' p o) S' H' :=
  ⟨st.vis.trans (same_new hW), fun a x h1 h2 h3 => by
    have ne : a ≠ p := fun e => by
      subst e
      have := (s1.frm a x h1 h2 h3).1
      rw [h] at this; cases this
    obtain ⟨y1, y2, y3⟩ := st.frm a x h1 h2 h3
    exact ⟨y1, by rw [upd_ne ne]; exact y2, y3⟩⟩
theorem Stp.own {W W' : Hp} {S S' : Sto} {H H' : Hp} {p : Addr} {m : MO} (st : Stp W S H W' S' H') (h : H p = none) : Stp W S H W' (put S' p m) H' :=
  ⟨st.vis, fun a x h1 h2 h3 => by
    have ne : a ≠ p := ne_of_none h1 h
    obtain ⟨y1, y2, y3⟩ := st.frm a x h1 h2 h3
    exact ⟨y1, y2, by rw [put_ne ne]; exact y3⟩⟩
theorem Stp.out {W W' : Hp} {S S' : Sto} {H H' : Hp} {p : Addr} {o : HO} (st : Stp W S H W' S' H') (h : H p = none) : Stp W S H W' S' (upd H' p o) :=
  ⟨st.vis, fun a x h1 h2 h3 => by
    have ne : a ≠ p := ne_of_none h1 h
    obtain ⟨y1, y2, y3⟩ := st.frm a x h1 h2 h3
    exact ⟨by rw [upd_ne ne]; exact y1, y2, y3⟩⟩
theorem Ok.out {K : PySem.W.Frag} {W : Hp} {S : Sto} {H : Hp} {p : Addr} {o : HO} (ok : Ok K W S H) (hW : W p = none) (hS : S p = none) : Ok K W S (upd H p o) :=
  ⟨fun b x e => by rw [upd_ne (ne_of_none e hW)]; exact ok.vis _ _ e, fun a m e => by
    obtain ⟨x, e1, e2⟩ := ok.sto _ _ e
    exact ⟨x, by rw [upd_ne (ne_of_S e hS)]; exact e1, e2⟩, ok.sep⟩
theorem Ok.see {K : PySem.W.Frag} {W : Hp} {S : Sto} {H : Hp} {p : Addr} {o : HO} (ok : Ok K W S H) (hW : W p = none) (hS : S p = none) (hH : H p = some o) : Ok K (upd W p o) S H :=
  ⟨fun b x e => by
    by_cases q : b = p
    · subst q; rw [upd_same] at e; cases e; exact hH
    · rw [upd_ne q] at e; exact ok.vis _ _ e, fun a m e => by
    obtain ⟨x, e1, e2⟩ := ok.sto _ _ e
    exact ⟨x, e1, e2.mono (same_new hW)⟩, fun a m e => by
    rw [upd_ne (ne_of_S e hS)]; exact ok.sep _ _ e⟩
theorem Ok.own {K : PySem.W.Frag} {W : Hp} {S : Sto} {H : Hp} {p : Addr} {o : HO} {m : MO} (ok : Ok K W S H) (hW : W p = none) (hH : H p = some o) (r : MRep K W m o) : Ok K W (put S p m) H :=
  ⟨ok.vis, fun a n e => by
    by_cases q : a = p
    · subst q; rw [put_same] at e; cases e; exact ⟨o, hH, r⟩
    · rw [put_ne q] at e; exact ok.sto _ _ e, fun a n e => by
    by_cases q : a = p
    · subst q; exact hW
    · rw [put_ne q] at e; exact ok.sep _ _ e⟩
section
variable {X : Cx} {elt tg iter : Expr} {ifs : List Expr} {scope : Scope} {own : List (Str × Nat)} {pos : Pos} {wi : WPi} {t : WPg} {tt : WPt} {te : WPe}
/-- the made list stands at p, nobody else's -/
theorem lc_go {Wx : WX} {vs : List Nat} {σ : L2.St} {H : Hp} {Q : VK} {K : PySem.W.Frag} {n : Nat} {items : List D} {g : Sto → Prop} {env : DE} {W1 : Hp} {S1 : Sto} {H1 : Hp} {J : It} {Q1 : List D → Sto → Prop} (hl : σ.length = n) (hz : items.length ≤ sizeLine)
    (h : compI t tt te g (delVs env vs) items S1 Q1) (ok1 : Ok K W1 S1 H1) (sl : Sl K W1 env σ) (jok : JOk K J W1 items g)
    (fin : ∀ (p : Addr) acc ws W2 S2 H2, H1 p = none → Q1 acc S2 → Stp W1 S1 H1 W2 S2 H2 → Ok K W2 S2 H2 → W2 p = none → S2 p = none → H2 p = some (.lst ws) → Reps K W2 acc ws → Q (.ref p) H2) :
    ∀ p, H1 p = none → ∃ Wt : Nat → Nat → Hp → Prop, (∃ m, Wt 0 m (upd H1 p (.lst []))) ∧ ∀ i m H, Wt i m H →
      (J.stop i H ∧ Q (.ref p) H) ∨ (J.go i H ∧ ∃ Nx : Hp → Prop, (∀ H', Nx H' → ∃ m', m' < m ∧ Wt (i + 1) m' H') ∧ ∀ x H', J.yld i H x H' → lG K n vs t x (wipe σ vs) H' fun σ2 H2 => wipe σ2 vs = wipe σ vs ∧ lT K (fun _ _ _ _ => False) tt σ2 H2 fun b H3 =>
        if b = true then lE K (fun _ _ _ _ => False) te σ2 H3 fun y H4 => ∃ acc, H4 p = some (.lst acc) ∧ acc.length < sizeLine ∧ Nx (upd H4 p (.lst (acc ++ [y]))) else Nx H3) := by
  intro p hp
  obtain ⟨P, h0, hg, hs, hd⟩ := h
  have hf := ok1.fresh hp
  refine ⟨fun i m H' => m = items.length - i ∧ i ≤ items.length ∧ ∃ W' S' acc ws, Stp W1 S1 H1 W' S' H' ∧ Ok K W' S' H' ∧ W' p = none ∧ S' p = none ∧ H' p = some (.lst ws) ∧ Reps K W' acc ws ∧ acc.length ≤ i ∧ P i acc S',
    ⟨items.length, rfl, Nat.zero_le _, W1, S1, [], [], ok1.stJ hp, ok1.junk hp, hf.1, hf.2, upd_same, rfl, Nat.le_refl _, h0⟩, ?_⟩
  rintro i m H' ⟨rfl, hi, W', S', acc, ws, s2, ok2, hW', hS', hH', rw', hle, h2⟩
  have hgS := hg i acc S' hi h2
  by_cases hlt : i < items.length
  · have hdd := List.getElem?_eq_getElem hlt
    obtain ⟨go, yl⟩ := jok.step i W' S' H' _ hdd s2.vis ok2 hgS
    refine .inr ⟨go, fun H3 => ∃ W' S' acc ws, Stp W1 S1 H1 W' S' H3 ∧ Ok K W' S' H3 ∧ W' p = none ∧ S' p = none ∧ H3 p = some (.lst ws) ∧ Reps K W' acc ws ∧ acc.length ≤ i + 1 ∧ P (i + 1) acc S',
      fun H3 h3 => ⟨items.length - (i + 1), by omega, rfl, hlt, h3⟩, fun x H2 y => ?_⟩
    obtain ⟨W2, s3, ok3, rx⟩ := yl x H2 y
    obtain ⟨k1, k2, k3⟩ := s3.frm p _ hH' hW' hS'
    refine ⟨W2, S', delVs env vs, items[i], _, ok3, sl_wipe (sl.mono (s2.trans s3).vis) vs, delVs_len hl, rx, hs i _ acc S' hdd h2, fun e2 σ3 h3 sl3 hl3 hw3 => ⟨?_, ?_⟩⟩
    · rw [hw3]; exact wipe_wipe
    · refine ⟨W2, e2, S', _, _, ok3, sl3, h3, fun b S4 W4 H4 h4 s4 ok4 => ?_, CXc.no⟩
      obtain ⟨j1, j2, j3⟩ := s4.frm p _ k1 k2 k3
      cases b with
      | true =>
        refine iteT ⟨W4, e2, S4, _, _, ok4, sl3.mono s4.vis, (if_pos rfl).mp h4, fun d S5 v W5 H5 h5 s5 ok5 r5 => ?_, CXc.no⟩
        obtain ⟨l1, l2, l3⟩ := s5.frm p _ j1 j2 j3
        have st := s2.trans (s3.trans (s4.trans s5))
        have rlen := rw'.length
        refine ⟨ws, l1, by omega, W5, S5, acc ++ [d], ws ++ [v], st.out hp, ok5.out l2 l3, l2, l3, upd_same, (rw'.mono (s3.trans (s4.trans s5)).vis).append (Reps.one r5), ?_, h5⟩
        rw [List.length_append, List.length_singleton]; omega
      | false =>
        have st := s2.trans (s3.trans s4)
        exact iteF ⟨W4, S4, acc, ws, st, ok4, j2, j3, j1, rw'.mono (s3.trans s4).vis, by omega, (if_neg Bool.false_ne_true).mp h4⟩
  · have e : i = items.length := by omega
    subst e
    exact .inl ⟨jok.stop W' S' H' s2.vis ok2 hgS, fin p acc ws W' S' H' hp (hd _ _ h2) s2 ok2 hW' hS' hH' rw'⟩
theorem lc_lst {Wx : WX} {vs : List Nat} {σ : L2.St} {H : Hp} {Q : VK} {K : PySem.W.Frag} {n : Nat} (hl : σ.length = n) (h : lE K Wx (wLc wi t tt te vs) σ H Q) :
    tLc (lI K Wx wi) (lG K n vs t) (lT K (fun _ _ _ _ => False) tt) (lE K (fun _ _ _ _ => False) te) vs σ H Q := by
  obtain ⟨W, env, S, Q0, X1, ok, sl, hw, cv, cx⟩ := h
  refine ⟨W, env, S, _, X1, ok, sl, hw, fun items g S1 W1 H1 J ⟨hz, h1⟩ s1 ok1 jok => ?_, cx⟩
  exact lc_go (Wx := Wx) (H := H) hl hz h1 ok1 (sl.mono s1.vis) jok fun p acc ws W2 S2 H2 hp q s2 ok2 a b c r =>
    cv _ S2 _ _ H2 q ((s1.trans s2).see' hp a s1) (ok2.see a b c) ⟨p, ws, rfl, upd_same, r.mono (same_new a)⟩
theorem lc_lstM {Wx : WX} {vs : List Nat} {σ : L2.St} {H : Hp} {Q : VK} {K : PySem.W.Frag} {n : Nat} (hl : σ.length = n) (h : lE K Wx (wLcM wi t tt te vs) σ H Q) :
    tLc (lI K Wx wi) (lG K n vs t) (lT K (fun _ _ _ _ => False) tt) (lE K (fun _ _ _ _ => False) te) vs σ H Q := by
  obtain ⟨W, env, S, Q0, X1, ok, sl, hw, cv, cx⟩ := h
  refine ⟨W, env, S, _, X1, ok, sl, hw, fun items g S1 W1 H1 J ⟨hz, h1⟩ s1 ok1 jok => ?_, cx⟩
  exact lc_go (Wx := Wx) (H := H) hl hz h1 ok1 (sl.mono s1.vis) jok fun p acc ws W2 S2 H2 hp q s2 ok2 a b c r =>
    cv _ _ _ _ H2 (q p b) (s1.trans (s2.own hp)) (ok2.own (m := .lst acc) a c ⟨ws, rfl, r⟩) rfl
variable {pos2 : Pos} {i : Nat} {x : Str}
theorem pd_lcW {w : WPe} (hc : X.calm = true) (hN : X.N.Nodup) (hi : PDi X tg iter wi) (ok : BlkOk X.N X.env.scope scope own)
    (hg : ∀ (s : Shared) (H : Hp) (C : Addr) (cl : List (Str × Addr)) (fp : List Addr), PDg (X.blk s H scope (compEnvC scope cl C X.env) fp) tg (own.map (·.2)) t) (ht : ∀ (s : Shared) (H : Hp) (C : Addr) (cl : List (Str × Addr)) (fp : List Addr), PDts (X.blk s H scope (compEnvC scope cl C X.env) fp) ifs tt)
    (he : ∀ (s : Shared) (H : Hp) (C : Addr) (cl : List (Str × Addr)) (fp : List Addr), PD (X.blk s H scope (compEnvC scope cl C X.env) fp) elt te)
    (hw : ∀ Wx σ H Q, σ.length = X.N.length → lE X.K Wx w σ H Q → tLc (lI X.K Wx wi) (lG X.K X.N.length (own.map (·.2)) t) (lT X.K (fun _ _ _ _ => False) tt) (lE X.K (fun _ _ _ _ => False) te) (own.map (·.2)) σ H Q)
    (hs : ∀ x, foldedSetIterable iter X.env x = pure x := by intro _; rfl) : PD X (.ListComp elt [⟨tg, iter, ifs, 0⟩] scope pos) w :=
  ⟨fun Wx tk => ⟨fun pins s σ H Q I h => (pe_lc hc hN (hi.run Wx tk) ok (fun s H C cl fp => (hg s H C cl fp).run) (fun s H C cl fp => (ht s H C cl fp).run _ takesF) (fun s H C cl fp => (he s H C cl fp).run _ takesF) hs).run pins s σ H Q I (hw Wx σ H Q I.len h)⟩⟩
theorem pd_lc (hc : X.calm = true) (hN : X.N.Nodup) (hi : PDi X tg iter wi) (ok : BlkOk X.N X.env.scope scope own)
    (hg : ∀ (s : Shared) (H : Hp) (C : Addr) (cl : List (Str × Addr)) (fp : List Addr), PDg (X.blk s H scope (compEnvC scope cl C X.env) fp) tg (own.map (·.2)) t) (ht : ∀ (s : Shared) (H : Hp) (C : Addr) (cl : List (Str × Addr)) (fp : List Addr), PDts (X.blk s H scope (compEnvC scope cl C X.env) fp) ifs tt)
    (he : ∀ (s : Shared) (H : Hp) (C : Addr) (cl : List (Str × Addr)) (fp : List Addr), PD (X.blk s H scope (compEnvC scope cl C X.env) fp) elt te)
    (hs : ∀ x, foldedSetIterable iter X.env x = pure x := by intro _; rfl) : PD X (.ListComp elt [⟨tg, iter, ifs, 0⟩] scope pos) (wLc wi t tt te (own.map (·.2))) := pd_lcW hc hN hi ok hg ht he (fun _ _ _ _ hl h => lc_lst hl h) hs
theorem pd_lcM (hc : X.calm = true) (hN : X.N.Nodup) (hi : PDi X tg iter wi) (ok : BlkOk X.N X.env.scope scope own)
    (hg : ∀ (s : Shared) (H : Hp) (C : Addr) (cl : List (Str × Addr)) (fp : List Addr), PDg (X.blk s H scope (compEnvC scope cl C X.env) fp) tg (own.map (·.2)) t) (ht : ∀ (s : Shared) (H : Hp) (C : Addr) (cl : List (Str × Addr)) (fp : List Addr), PDts (X.blk s H scope (compEnvC scope cl C X.env) fp) ifs tt)
    (he : ∀ (s : Shared) (H : Hp) (C : Addr) (cl : List (Str × Addr)) (fp : List Addr), PD (X.blk s H scope (compEnvC scope cl C X.env) fp) elt te)
    (hs : ∀ x, foldedSetIterable iter X.env x = pure x := by intro _; rfl) : PD X (.ListComp elt [⟨tg, iter, ifs, 0⟩] scope pos) (wLcM wi t tt te (own.map (·.2))) := pd_lcW hc hN hi ok hg ht he (fun _ _ _ _ hl h => lc_lstM hl h) hs
/-- x = [..] on one line -/
theorem pds_setLcW {w : WPe} (hc : X.calm = true) (hN : X.N.Nodup) (hy : X.N[i]? = some x) (hyl : X.env.scope.names.lookup x = some .local) {px : Pos}
    (hsw : swapsWith (.ListComp elt [⟨tg, iter, ifs, 0⟩] scope pos) (some (.Name x px)) pos2.line X.env = pure true) (hi : PDi X tg iter wi) (ok : BlkOk X.N X.env.scope scope own)
    (hg : ∀ (s : Shared) (H : Hp) (C : Addr) (cl : List (Str × Addr)) (fp : List Addr), PDg (X.blk s H scope (compEnvC scope cl C X.env) fp) tg (own.map (·.2)) t) (ht : ∀ (s : Shared) (H : Hp) (C : Addr) (cl : List (Str × Addr)) (fp : List Addr), PDts (X.blk s H scope (compEnvC scope cl C X.env) fp) ifs tt)
    (he : ∀ (s : Shared) (H : Hp) (C : Addr) (cl : List (Str × Addr)) (fp : List Addr), PD (X.blk s H scope (compEnvC scope cl C X.env) fp) elt te)
    (hw : ∀ Wx σ H Q, σ.length = X.N.length → lE X.K Wx w σ H Q → tLc (lI X.K Wx wi) (lG X.K X.N.length (own.map (·.2)) t) (lT X.K (fun _ _ _ _ => False) tt) (lE X.K (fun _ _ _ _ => False) te) (own.map (·.2)) σ H Q)
    (hs : ∀ x, foldedSetIterable iter X.env x = pure x := by intro _; rfl) : PDs X (.Assign [.Name x px] (.ListComp elt [⟨tg, iter, ifs, 0⟩] scope pos) pos2) (wSet i w) :=
  ⟨fun Wx tk => PS.imp (ps_setLc hc hN hy hyl hsw (hi.run Wx tk) ok (fun s H C cl fp => (hg s H C cl fp).run) (fun s H C cl fp => (ht s H C cl fp).run _ takesF) (fun s H C cl fp => (he s H C cl fp).run _ takesF) hs) fun D σ H ⟨W, env, S, q, ok, sl, hl, hww, cs⟩ =>
    hw Wx σ H _ hl ⟨W, env, S, _, _, ok, sl, hww, fun d S1 v W1 H1 h1 s1 ok1 r1 => cs.nx _ S1 _ W1 H1 h1 s1 ok1 ((sl.mono s1.vis).set (by rw [hl]; exact lt_of_some hy) r1) (by rw [List.length_set]; exact hl), CXc.of cs sl⟩⟩
theorem pds_setLc (hc : X.calm = true) (hN : X.N.Nodup) (hy : X.N[i]? = some x) (hyl : X.env.scope.names.lookup x = some .local) {px : Pos}
    (hsw : swapsWith (.ListComp elt [⟨tg, iter, ifs, 0⟩] scope pos) (some (.Name x px)) pos2.line X.env = pure true) (hi : PDi X tg iter wi) (ok : BlkOk X.N X.env.scope scope own)
    (hg : ∀ (s : Shared) (H : Hp) (C : Addr) (cl : List (Str × Addr)) (fp : List Addr), PDg (X.blk s H scope (compEnvC scope cl C X.env) fp) tg (own.map (·.2)) t) (ht : ∀ (s : Shared) (H : Hp) (C : Addr) (cl : List (Str × Addr)) (fp : List Addr), PDts (X.blk s H scope (compEnvC scope cl C X.env) fp) ifs tt)
    (he : ∀ (s : Shared) (H : Hp) (C : Addr) (cl : List (Str × Addr)) (fp : List Addr), PD (X.blk s H scope (compEnvC scope cl C X.env) fp) elt te)
    (hs : ∀ x, foldedSetIterable iter X.env x = pure x := by intro _; rfl) : PDs X (.Assign [.Name x px] (.ListComp elt [⟨tg, iter, ifs, 0⟩] scope pos) pos2) (wSet i (wLc wi t tt te (own.map (·.2)))) :=
  pds_setLcW hc hN hy hyl hsw hi ok hg ht he (fun _ _ _ _ hl h => lc_lst hl h) hs
theorem pds_setLcM (hc : X.calm = true) (hN : X.N.Nodup) (hy : X.N[i]? = some x) (hyl : X.env.scope.names.lookup x = some .local) {px : Pos}
    (hsw : swapsWith (.ListComp elt [⟨tg, iter, ifs, 0⟩] scope pos) (some (.Name x px)) pos2.line X.env = pure true) (hi : PDi X tg iter wi) (ok : BlkOk X.N X.env.scope scope own)
    (hg : ∀ (s : Shared) (H : Hp) (C : Addr) (cl : List (Str × Addr)) (fp : List Addr), PDg (X.blk s H scope (compEnvC scope cl C X.env) fp) tg (own.map (·.2)) t) (ht : ∀ (s : Shared) (H : Hp) (C : Addr) (cl : List (Str × Addr)) (fp : List Addr), PDts (X.blk s H scope (compEnvC scope cl C X.env) fp) ifs tt)
    (he : ∀ (s : Shared) (H : Hp) (C : Addr) (cl : List (Str × Addr)) (fp : List Addr), PD (X.blk s H scope (compEnvC scope cl C X.env) fp) elt te)
    (hs : ∀ x, foldedSetIterable iter X.env x = pure x := by intro _; rfl) : PDs X (.Assign [.Name x px] (.ListComp elt [⟨tg, iter, ifs, 0⟩] scope pos) pos2) (wSet i (wLcM wi t tt te (own.map (·.2)))) :=
  pds_setLcW hc hN hy hyl hsw hi ok hg ht he (fun _ _ _ _ hl h => lc_lstM hl h) hs
end
end DL
set_option Elab.async false
set_option linter.all false
set_option maxRecDepth 100000
set_option maxHeartbeats 1000000
/-! The data layer, part h: contracts of defs by name. -/
namespace DL
open PySem PySem.Spec PyProof.Rows L2

def DefAt (K : PySem.W.Frag) (mg : Str → Option Value) (x qual : Str) (st : Stmt) (ps : List Str) : Prop := ∃ f fd, Fun K x qual st f fd ∧ mg x = some (.ref f) ∧ Binds K fd ps []
def MetAt (K : PySem.W.Frag) (C : Addr) (m qual : Str) (st : Stmt) (ps : List Str) : Prop := ∃ f fd, Fun K m qual st f fd ∧ Meth K C m f ∧ Binds K fd ps []
def MkAt (K : PySem.W.Frag) (C : Addr) (qual : Str) (st : Stmt) (ps : List Str) : Prop := ∃ f fd, Fun K "__init__" qual st f fd ∧ Mk K C f ∧ Binds K fd ps []
section
variable (P : Program) (w : World) (K : PySem.W.Frag) (mg : Str → Option Value) (base : Heap)
def FnC (k : Nat) (x : Str) (ps : List Str) (spec : Ctr) : Prop := ∃ f fd, FnD P w K mg base k f fd ps spec ∧ mg x = some (.ref f) ∧ PySem.W.keepIn K (.ref f) = true ∧ Binds K fd ps []
def MtC (C : Addr) (k : Nat) (m : Str) (ps : List Str) (spec : Ctr) : Prop := ∃ f fd, FnD P w K mg base k f fd ps spec ∧ Meth K C m f ∧ Binds K fd ps []
def MkC (C : Addr) (k : Nat) (ps : List Str) (spec : Ctr) : Prop := ∃ f fd, FnD P w K mg base k f fd ps spec ∧ Mk K C f ∧ Binds K fd ps []
end
/-- what a body is to end in -/
def endQ (Q : Qd) (X1 : XQ) : QS := { nx := fun _ S' => Q .non S', rt := Q, bk := fun _ _ => False, ct := fun _ _ => False, xc := fun C fs _ S' => X1 C fs S' }
section
variable {P : Program} {w : World} {K : PySem.W.Frag} {mg : Str → Option Value} {base : Heap} {x qual : Str} {st : Stmt} {N ps : List Str} {k : Nat} {spec : Ctr} {ws : WPs} {C : Addr}
theorem fnd_mk {f : Addr} {fd : FuncData} (F : Fun K x qual st f fd) (S : FnScope N ps (defScope st)) (hle : ps.length ≤ N.length) (len : ∀ ds S Q E, spec ds S Q E → ds.length = ps.length)
    (hd : ∀ (f : Addr) (cdv : Value) (A : Around) (outer : List Env) (s : Shared) (H : Hp) (E : XK), Room k (A.deeper (envOfC qual (defScope st) s.heap.objs.size f cdv)) → PDss (cxOf (L2.CX P w) P w K mg base N qual (defScope st) f cdv A outer s H E) (defBody st) ws)
    (hr : ∀ ds S Q X1, spec ds S Q X1 → ws (startD N ds) S (endQ Q X1)) : FnD P w K mg base (k + 1) f fd ps spec :=
  Fun.okD F S hle len fun cdv A outer s H E hrm => ⟨ws, hd f cdv A outer s H E hrm, hr⟩
theorem FnC.mk (D : DefAt K mg x qual st ps) (S : FnScope N ps (defScope st)) (hle : ps.length ≤ N.length) (len : ∀ ds S Q E, spec ds S Q E → ds.length = ps.length)
    (hd : ∀ (f : Addr) (cdv : Value) (A : Around) (outer : List Env) (s : Shared) (H : Hp) (E : XK), Room k (A.deeper (envOfC qual (defScope st) s.heap.objs.size f cdv)) → PDss (cxOf (L2.CX P w) P w K mg base N qual (defScope st) f cdv A outer s H E) (defBody st) ws)
    (hr : ∀ ds S Q X1, spec ds S Q X1 → ws (startD N ds) S (endQ Q X1)) : FnC P w K mg base (k + 1) x ps spec := by
  obtain ⟨f, fd, F, hm, hb⟩ := D
  exact ⟨f, fd, fnd_mk F S hle len hd hr, hm, F.kp, hb⟩
theorem MtC.mk {m : Str} (D : MetAt K C m qual st ps) (S : FnScope N ps (defScope st)) (hle : ps.length ≤ N.length) (len : ∀ ds S Q E, spec ds S Q E → ds.length = ps.length)
    (hd : ∀ (f : Addr) (cdv : Value) (A : Around) (outer : List Env) (s : Shared) (H : Hp) (E : XK), Room k (A.deeper (envOfC qual (defScope st) s.heap.objs.size f cdv)) → PDss (cxOf (L2.CX P w) P w K mg base N qual (defScope st) f cdv A outer s H E) (defBody st) ws)
    (hr : ∀ ds S Q X1, spec ds S Q X1 → ws (startD N ds) S (endQ Q X1)) : MtC P w K mg base C (k + 1) m ps spec := by
  obtain ⟨f, fd, F, hm, hb⟩ := D
  exact ⟨f, fd, fnd_mk F S hle len hd hr, hm, hb⟩
theorem MkC.mk (D : MkAt K C qual st ps) (S : FnScope N ps (defScope st)) (hle : ps.length ≤ N.length) (len : ∀ ds S Q E, spec ds S Q E → ds.length = ps.length)
    (hd : ∀ (f : Addr) (cdv : Value) (A : Around) (outer : List Env) (s : Shared) (H : Hp) (E : XK), Room k (A.deeper (envOfC qual (defScope st) s.heap.objs.size f cdv)) → PDss (cxOf (L2.CX P w) P w K mg base N qual (defScope st) f cdv A outer s H E) (defBody st) ws)
    (hr : ∀ ds S Q X1, spec ds S Q X1 → ws (startD N ds) S (endQ Q X1)) : MkC P w K mg base C (k + 1) ps spec := by
  obtain ⟨f, fd, F, hm, hb⟩ := D
  exact ⟨f, fd, fnd_mk F S hle len hd hr, hm, hb⟩
/-- a promise for no arguments at all: where a recursion begins -/
theorem FnC.zero (D : DefAt K mg x qual st ps) : FnC P w K mg base k x ps (fun _ _ _ _ => False) := by
  obtain ⟨f, fd, F, hm, hb⟩ := D
  exact ⟨f, fd, ⟨fun vs H Q E ⟨_, _, _, _, _, _, _, h, _⟩ => h.elim, fun A outer s H args us vs Q E _ _ _ _ ⟨_, _, _, _, _, _, _, h, _⟩ => h.elim⟩, hm, F.kp, hb⟩
theorem FnD.imp {f : Addr} {fd : FuncData} {spec' : Ctr} (F : FnD P w K mg base k f fd ps spec) (h : ∀ ds S Q X1, spec' ds S Q X1 → spec ds S Q X1) : FnD P w K mg base k f fd ps spec' :=
  FnOk.imp F fun vs H Q E ⟨W, S, ds, Q0, X1, ok, r, hs, cv, cx⟩ => ⟨W, S, ds, Q0, X1, ok, r, h _ _ _ _ hs, cv, cx⟩
theorem FnC.imp {spec' : Ctr} (F : FnC P w K mg base k x ps spec) (h : ∀ ds S Q X1, spec' ds S Q X1 → spec ds S Q X1) : FnC P w K mg base k x ps spec' := by
  obtain ⟨f, fd, F, a⟩ := F
  exact ⟨f, fd, FnD.imp F h, a⟩
theorem FnC.mono {k' : Nat} (F : FnC P w K mg base k x ps spec) (h : k ≤ k') : FnC P w K mg base k' x ps spec := by
  obtain ⟨f, fd, F, a⟩ := F
  exact ⟨f, fd, FnOk.mono F h, a⟩
end
section
variable {X : Cx} {k : Nat} {C : Addr} {ps : List Str} {spec : Ctr} {x m : Str} {p pos apos : Pos} {e o : Expr} {es : List Expr} {wo : WPe} {wa : WPa}
theorem pd_fn (G : FnC X.prog X.w X.K X.mg X.base k x ps spec) (hr : Room k X.A) (ha : PDa X (e :: es) wa) (hg : Gl X x := by rfl) (hdb : (x == ("__debug__" : Str)) = false := by decide)
    (he : starEach (e :: es) X.env = (false, eval e X.env) :: starEach es X.env := by rfl) (hpl : (backTo pos (starEach es X.env)).any (·.1) = false := by rfl) : PD X (.Call (.Name x p) (e :: es) [] pos) (wCall spec wa) := by
  obtain ⟨f, fd, F, hm, hk, hb⟩ := G
  exact pd_call F hr hm hk hb ha hg hdb he hpl
theorem pd_fn0 (G : FnC X.prog X.w X.K X.mg X.base k x ps spec) (hr : Room k X.A) (hg : Gl X x := by rfl) (hdb : (x == ("__debug__" : Str)) = false := by decide) : PD X (.Call (.Name x p) [] [] pos) (wCall spec wNil) := by
  obtain ⟨f, fd, F, hm, hk, hb⟩ := G
  exact pd_call0 F hr hm hk hb hg hdb
theorem pd_mt {N : List Str} {pl : Sem Bool} (c : Cls X.K C) (G : MtC X.prog X.w X.K X.mg X.base C k m ps spec) (hN : m ∉ N) (hr : Room k X.A) (ho : PD X o wo) (ha : PDa X (e :: es) wa)
    (hst : starEach (e :: es) X.env = (false, eval e X.env) :: starEach es X.env := by rfl) (hpl : (backTo pos (starEach es X.env)).any (·.1) = false := by rfl)
    (ht : eval (.Call (.Attribute o m apos) (e :: es) [] pos) X.env = (do
      let ov ← eval o X.env
      standAt apos.atName
      let (f, first) ← holding [ov] (getMethod ov m pl)
      callWith pos f first (backTo pos (starEach (e :: es) X.env)) (backToKw pos (keywordEach [] X.env))) := by rfl) : PD X (.Call (.Attribute o m apos) (e :: es) [] pos) (wMeth C N spec wo wa) := by
  obtain ⟨f, fd, F, hm, hb⟩ := G
  exact pd_meth c hm hN F hr hb ho ha hst hpl ht
theorem pd_mt0 {N : List Str} {pl : Sem Bool} (c : Cls X.K C) (G : MtC X.prog X.w X.K X.mg X.base C k m ps spec) (hN : m ∉ N) (hr : Room k X.A) (ho : PD X o wo)
    (ht : eval (.Call (.Attribute o m apos) [] [] pos) X.env = (do
      let ov ← eval o X.env
      standAt apos.atName
      let (f, first) ← holding [ov] (getMethod ov m pl)
      callWith pos f first (backTo pos (starEach [] X.env)) (backToKw pos (keywordEach [] X.env))) := by rfl) : PD X (.Call (.Attribute o m apos) [] [] pos) (wMeth C N spec wo wNil) := by
  obtain ⟨f, fd, F, hm, hb⟩ := G
  exact pd_meth0 c hm hN F hr hb ho ht
theorem pd_mk {N : List Str} (G : MkC X.prog X.w X.K X.mg X.base C k ps spec) (hm : X.mg x = some (.ref C)) (hN : N.Nodup) (hl : N.length ≤ 900) (hr : Room (k + 1) X.A) (ha : PDa X (e :: es) wa) (hg : Gl X x := by rfl) (hdb : (x == ("__debug__" : Str)) = false := by decide)
    (he : starEach (e :: es) X.env = (false, eval e X.env) :: starEach es X.env := by rfl) (hpl : (backTo pos (starEach es X.env)).any (·.1) = false := by rfl) : PD X (.Call (.Name x p) (e :: es) [] pos) (wMake C N spec wa) := by
  obtain ⟨f, fd, F, M, hb⟩ := G
  exact pd_make M hN hl F hr hm hb ha hg hdb he hpl
end
end DL
set_option Elab.async false
set_option linter.all false
set_option maxRecDepth 100000
set_option maxHeartbeats 1000000
/-! The data layer, part i: forms of data, their equality; words that reduce a reading. -/
namespace DL
open PySem PySem.Spec PyProof.Rows L2

/-! ### data of a depth -/
def okP (n : Nat) (p : PyData) : Prop := p.canLay0 = true ∧ p.depth ≤ n
theorem okP_int {n : Nat} {i : Int} : okP n (.int i) := ⟨rfl, Nat.zero_le _⟩
theorem okP_bool {n : Nat} {i : Bool} : okP n (.bool i) := ⟨rfl, Nat.zero_le _⟩
theorem okP_none {n : Nat} : okP n .none := ⟨rfl, Nat.zero_le _⟩
theorem okP_all {n : Nat} : ∀ {xs : List D}, (∀ x, x ∈ xs → okP n (toP x)) → PyData.canLayAll0 (toPs xs) = true ∧ PyData.depthAll (toPs xs) ≤ n
  | [], _ => ⟨rfl, Nat.zero_le _⟩
  | x :: r, h => by
    obtain ⟨a, b⟩ := h x List.mem_cons_self
    obtain ⟨c, d⟩ := okP_all (xs := r) fun y hy => h y (List.mem_cons_of_mem _ hy)
    refine ⟨?_, ?_⟩
    · show (PyData.canLay0 (toP x) && PyData.canLayAll0 (toPs r)) = true
      rw [a, c]; rfl
    · show max (PyData.depth (toP x)) (PyData.depthAll (toPs r)) ≤ n
      exact Nat.max_le.mpr ⟨b, d⟩
theorem okP_lst {n : Nat} {xs : List D} (h : ∀ x, x ∈ xs → okP n (toP x)) : okP (n + 1) (toP (.lst xs)) := ⟨(okP_all h).1, Nat.succ_le_succ (okP_all h).2⟩
theorem okP_tup {n : Nat} {xs : List D} (h : ∀ x, x ∈ xs → okP n (toP x)) : okP (n + 1) (toP (.tup xs)) := ⟨(okP_all h).1, Nat.succ_le_succ (okP_all h).2⟩
theorem okP_mono {n m : Nat} {p : PyData} (h : okP n p) (e : n ≤ m) : okP m p := ⟨h.1, Nat.le_trans h.2 e⟩
theorem shaped_of {n : Nat} {p : PyData} (h : okP n p) (e : n ≤ 64) : SeqAt.shaped p = true := by
  unfold SeqAt.shaped
  rw [h.1, decide_eq_true (Nat.le_trans h.2 e)]; rfl
theorem eqvAll_map {α : Type} [DecidableEq α] {f : α → D} (hf : ∀ a b, PyData.eqv (toP (f a)) (toP (f b)) = decide (a = b)) : ∀ xs ys : List α, PyData.eqvAll (toPs (xs.map f)) (toPs (ys.map f)) = decide (xs = ys)
  | [], [] => by simp [toPs, PyData.eqvAll]
  | [], _ :: _ => by simp [toPs, PyData.eqvAll]
  | _ :: _, [] => by simp [toPs, PyData.eqvAll]
  | a :: r, b :: s => by
    show (PyData.eqv (toP (f a)) (toP (f b)) && PyData.eqvAll (toPs (r.map f)) (toPs (s.map f))) = _
    rw [hf, eqvAll_map hf r s]
    by_cases h1 : a = b <;> by_cases h2 : r = s <;> simp [h1, h2]
/-! ### rows of ints -/
def dL (xs : List Int) : D := .lst (xs.map D.int)
def dT (xs : List Int) : D := .tup (xs.map D.int)
/-- a row of ints as a tuple (true) or a list -/
def dR (k : Bool) (xs : List Int) : D := if k = true then dT xs else dL xs
/-- rows as a tuple or a list of tuples or lists -/
def rows (k j : Bool) (xs : List (List Int)) : D := if k = true then .tup (xs.map (dR j)) else .lst (xs.map (dR j))
theorem eqv_int (a b : Int) : PyData.eqv (toP (.int a)) (toP (.int b)) = decide (a = b) := by
  show (a == b) = _
  rw [Bool.beq_eq_decide_eq]
theorem eqv_dL (a b : List Int) : PyData.eqv (toP (dL a)) (toP (dL b)) = decide (a = b) := eqvAll_map eqv_int a b
theorem eqv_dT (a b : List Int) : PyData.eqv (toP (dT a)) (toP (dT b)) = decide (a = b) := eqvAll_map eqv_int a b
theorem okP_ints {xs : List Int} : ∀ x, x ∈ xs.map D.int → okP 0 (toP x) := fun x h => by
  obtain ⟨i, _, rfl⟩ := List.mem_map.mp h
  exact okP_int
theorem okP_dL {xs : List Int} : okP 1 (toP (dL xs)) := okP_lst okP_ints
theorem okP_dT {xs : List Int} : okP 1 (toP (dT xs)) := okP_tup okP_ints
theorem seqA_dR {S : Sto} {k : Bool} {xs : List Int} : seqA S (dR k xs) = some (xs.map D.int) := by cases k <;> rfl
theorem seqA_rows {S : Sto} {k j : Bool} {xs : List (List Int)} : seqA S (rows k j xs) = some (xs.map (dR j)) := by cases k <;> rfl
section
variable {S : Sto} {a b : List Int} {i j : Int} {p q : Bool}
theorem shD_int : shD S (.int i) = true := rfl
theorem shD_bl : shD S (.bl p) = true := rfl
theorem shD_non : shD S .non = true := rfl
theorem shD_dL : shD S (dL a) = true := shaped_of okP_dL (by decide)
theorem shD_dT : shD S (dT a) = true := shaped_of okP_dT (by decide)
theorem shD_lst : shD S (.lst (a.map D.int)) = true := shaped_of okP_dL (by decide)
theorem shD_tup : shD S (.tup (a.map D.int)) = true := shaped_of okP_dT (by decide)
theorem eqD_int : eqD S (.int i) (.int j) = decide (i = j) := eqv_int i j
theorem eqD_bl : eqD S (.bl p) (.bl q) = (p == q) := rfl
theorem eqD_dL : eqD S (dL a) (dL b) = decide (a = b) := eqv_dL a b
theorem eqD_dT : eqD S (dT a) (dT b) = decide (a = b) := eqv_dT a b
theorem eqD_lst : eqD S (.lst (a.map D.int)) (.lst (b.map D.int)) = decide (a = b) := eqv_dL a b
theorem eqD_tup : eqD S (.tup (a.map D.int)) (.tup (b.map D.int)) = decide (a = b) := eqv_dT a b
end
/-! ### slices of rows of ints -/
def cutI (xs : List Int) (lo hi : Option Int) : List Int := (xs.drop (HT.sIx xs.length 0 lo)).take (HT.sIx xs.length xs.length hi - HT.sIx xs.length 0 lo)
theorem cutD_int {xs : List Int} {lo hi : Option Int} : cutD (xs.map D.int) lo hi = (cutI xs lo hi).map D.int := by
  unfold cutD cutI
  rw [List.length_map, List.map_take, List.map_drop]
theorem sIx_pos {n d : Nat} {i : Int} (h : 0 ≤ i) : HT.sIx n d (some i) = min i.toNat n := by
  obtain ⟨k, rfl⟩ := Int.eq_ofNat_of_zero_le h
  rw [HT.sIx_nat]
  simp
theorem cutI_from {xs : List Int} {i : Int} (h : 0 ≤ i) : cutI xs (some i) none = xs.drop i.toNat := by
  unfold cutI
  rw [sIx_pos h, HT.sIx_none]
  by_cases q : i.toNat ≤ xs.length
  · rw [Nat.min_eq_left q, List.take_of_length_le]
    rw [List.length_drop]; exact Nat.le_refl _
  · rw [Nat.min_eq_right (by omega), List.drop_length, List.drop_eq_nil_of_le (by omega), List.take_nil]
theorem cutI_to {xs : List Int} {i : Int} (h : 0 ≤ i) : cutI xs none (some i) = xs.take i.toNat := by
  unfold cutI
  rw [sIx_pos h, HT.sIx_none, List.drop_zero, Nat.sub_zero]
  by_cases q : i.toNat ≤ xs.length
  · rw [Nat.min_eq_left q]
  · rw [Nat.min_eq_right (by omega), List.take_length, List.take_of_length_le (by omega)]
theorem cutI_both {xs : List Int} {i j : Int} (h : 0 ≤ i) (h2 : 0 ≤ j) : cutI xs (some i) (some j) = (xs.drop i.toNat).take (j.toNat - i.toNat) := by
  unfold cutI
  rw [sIx_pos h, sIx_pos h2]
  generalize i.toNat = a
  generalize j.toNat = b
  by_cases q : a ≤ xs.length
  · rw [Nat.min_eq_left q]
    by_cases q2 : b ≤ xs.length
    · rw [Nat.min_eq_left q2]
    · rw [Nat.min_eq_right (Nat.le_of_not_le q2), List.take_of_length_le (by rw [List.length_drop]; exact Nat.le_refl _), List.take_of_length_le (by rw [List.length_drop]; omega)]
  · rw [Nat.min_eq_right (Nat.le_of_not_le q), List.drop_length, List.drop_eq_nil_of_le (by omega), List.take_nil, List.take_nil]
end DL
set_option Elab.async false
set_option linter.all false
set_option maxRecDepth 100000
set_option maxHeartbeats 1000000
/-! The data layer, part j: the law's own head. -/
namespace DL
open PySem PySem.Spec PyProof.Rows L2
theorem cx_no {P : Program} {w : World} {o : List Env} {H : Hp} {s s' : Shared} {e : Value} (h : L2.CX P w o H s (fun _ _ _ => False) e s') : False := by
  obtain ⟨_, _, _, _, _, _, _, _, _, _, _, _, h⟩ := h
  exact h
/-- what is asked of the law: true, whatever else it leaves -/
def spScript : Ctr := fun ds S Q _ => ∃ cells : List Int, ds = [.fro (cells.map D.int)] ∧ cells.length ≤ 63 ∧ ∀ S', Q (.bl true) S'
theorem spScript_at {K : PySem.W.Frag} {H : Hp} {a : Addr} {ns : List Int} {E : XK} (hl : ns.length ≤ 63) (hS : SqL K H a (ns.map V.int)) : lSp K spScript [.ref a] H (fun v _ => v = .bl true) E :=
  ⟨H, fun _ => none, [.fro (ns.map D.int)], fun d _ => d = .bl true, X0, ⟨Same.refl H, (fun _ _ h => nomatch h), (fun _ _ h => nomatch h)⟩, ⟨_, _, rfl, ⟨a, _, rfl, hS, reps_ints⟩, rfl⟩, ⟨ns, rfl, hl, fun _ => rfl⟩,
    fun d S' v W' H' h _ _ r => by subst h; exact r, CXc.no⟩
end DL
set_option Elab.async false
set_option linter.all false
set_option maxRecDepth 100000
set_option maxHeartbeats 2000000
/-! The data layer, part k: enumerate of tuples. -/
namespace DL
open PySem PySem.Spec PyProof.Rows L2
abbrev itObj (a : Addr) : Obj := { cls := .type "tuple_iterator", data := .fields #[.ref a, .int 0 0] }
abbrev enObj (i : Addr) : Obj := { cls := .type "enumerate", data := .fields #[.none, .bool false, .ref i, rawInt 0, .none, .none] }
theorem enumT_meets (a : Addr) (xs : Array Value) (m : Nat) (od : Option Addr) (sl : Array (Option Value)) :
    Meets (Builtin.«enumerate.__new__» ⟨[.type "enumerate", .ref a], []⟩) (fun _ R s => s.heap.get? a = some { cls := .type "tuple", dict := od, data := .seq xs m, slots := sl } ∧
      R (.ok (.ret (.ref (s.heap.push (itObj a)).objs.size))) { s with heap := (s.heap.push (itObj a)).push (enObj s.heap.objs.size) }) :=
  .of_wp fun prog w A R s q => by
    obtain ⟨hp, gg, dr, tk, os⟩ := s
    obtain ⟨ha, q⟩ := q
    have hsub := sub_enumerate
    have hT : Heap.IsTuple (Shared.heap ⟨hp, gg, dr, tk, os⟩) a xs := ⟨_, ha, rfl, m, rfl⟩
    wp_walk using wpAny_loadPart' ha
    refine wpAny_stack_any fun st => wpAny_pure ?_
    split
    · rename_i c _ _ _ _ _
      cases (c == Value.type "enumerate")
      all_goals
        wp_walk using wpAny_loadPart' ha, wpAny_pyIter_tuple hT
        exact ⟨_, rfl, q⟩
    · wp_walk using wpAny_loadPart' ha, wpAny_pyIter_tuple hT
      exact ⟨_, rfl, q⟩
theorem call_enumT {prog : Program} {w : World} {A : Around} {E : Value → Shared → Prop} {s : Shared} {a : Addr} {xs : Array Value} {Q : Value → Shared → Prop} (hT : s.heap.IsTuple a xs)
    (q : ∀ h', IsEnum h' (s.heap.objs.size + 1) s.heap.objs.size 0 .none → h'.IsTupleIter s.heap.objs.size a 0 → (∀ b o, s.heap.get? b = some o → h'.get? b = some o) → Q (.ref (s.heap.objs.size + 1)) { s with heap := h' }) :
    wpAny (model prog w) A (call (.type "enumerate") [.ref a]) Q E s := by
  obtain ⟨⟨c, od, dt, sl⟩, ha, hc, m, hd⟩ := hT
  replace hc : c = .type "tuple" := hc
  replace hd : dt = .seq xs m := hd
  subst hc hd
  refine callType_new F.called_enumerate (by decide) (F.typeCall_enumerate_1 _) (F.newCall_enumerate_1 _) (fun obj => F.args_object_init_2 obj _) F.entry_enumerate_new (enumT_meets a xs m od sl) ⟨ha, ?_⟩
  have hz : (s.heap.push (itObj a)).objs.size = s.heap.objs.size + 1 := Heap.size_push ..
  show _ ∧ _
  rw [hz]
  have he : IsEnum ((s.heap.push (itObj a)).push (enObj s.heap.objs.size)) (s.heap.objs.size + 1) s.heap.objs.size 0 .none := by
    have z := Heap.get?_push_size (s.heap.push (itObj a)) (o := enObj s.heap.objs.size) rfl
    rw [hz] at z
    exact z
  exact ⟨⟨_, he, rfl⟩, q _ he ⟨_, Heap.get?_push_of_some _ (Heap.get?_push_size _ rfl), rfl, rfl⟩ fun b o x => Heap.get?_push_of_some _ (Heap.get?_push_of_some _ x)⟩
/-- the tuple at a, each item in a new pair -/
def IteT (K : PySem.W.Frag) (a : Addr) : It :=
  ⟨fun i H => ∃ (xs : List V) (x : V), SqT K H a xs ∧ xs[i]? = some x, fun i H v H' => ∃ T x, v = .ref T ∧ H T = none ∧ H' = upd H T (.tup [.int (i : Nat), x]) ∧ ∀ xs, SqT K H a xs → xs[i]? = some x, fun i H => ∃ xs : List V, SqT K H a xs ∧ xs.length = i⟩
theorem turn_enumT {P : Program} {w : World} {K : PySem.W.Frag} {elts : List Expr} {kk : Nat} {tpos : Pos} (a e it : Addr) :
    Turn P w K (.Tuple elts kk tpos) (IteT K a) [e, it] e (fun i h => (∃ old, IsEnum h e it ((i : Nat) : Int) old) ∧ h.IsTupleIter it a i ∧ e ≠ it ∧ a ≠ it ∧ e ≠ a) where
  mem := by simp
  obj := fun i h st b hb => by
    obtain ⟨⟨old, he⟩, ⟨o, ho, hc, hd⟩, _⟩ := st
    rcases (show b = e ∨ b = it by simpa using hb) with z | z
    · rw [z]; exact ⟨_, he, fun v q => nomatch q⟩
    · rw [z]; exact ⟨o, ho, fun v q => by rw [hd] at q; cases q⟩
  keep := fun i h h' st k => let ⟨⟨old, he⟩, hi, hne⟩ := st; ⟨⟨old, k e (by simp) _ he⟩, hi.at fun o q => k it (by simp) o q, hne⟩
  item := by
    intro X hP hw hK hc i pins s σ H E I hf st hg
    subst hP hw hK
    obtain ⟨⟨old, he⟩, hit, n1, n2, n3⟩ := st
    obtain ⟨xs, x, hq, hx⟩ := hg
    obtain ⟨its, rv, p, hz⟩ := I.tuple hq
    obtain ⟨u, hu, ru⟩ := rv.get hx
    have hel : e < s.heap.objs.size := Heap.lt_size he
    have hil : it < s.heap.objs.size := by obtain ⟨_, q, _⟩ := hit; exact Heap.lt_size q
    have hil2 : i < its.toArray.size := by
      have := lt_of_some hu
      simpa using this
    have hh : X.A.in1.handled = Option.none := I.ok.hd hc
    refine wpAny_pyNext_enum_itemD (Draws.tuple hh it a n2 its.toArray) he ⟨hit, (show s.heap.IsTuple a its.toArray from p)⟩ hil2 n1 (by simp [n1, n3]) fun x' h' tk hPx ho hst hT hsz hk => ?_
    have ex : x' = u := by
      have h1 : its[i]? = some x' := by simpa using hPx
      rw [hu] at h1
      exact (Option.some.inj h1).symm
    subst ex
    refine ⟨_, rfl, wpAny_letOwnedTupleGo_enum (s := { s with heap := h', toks := tk + 1 }) ho fun h'' he' sb => ?_⟩
    have hT2 : h''.get? s.heap.objs.size = some { cls := .type "tuple", data := .seq #[.int i tk, x'] } := (sb.2 _ (Nat.ne_of_gt hel)).trans hT
    have new : ObjOk X.prog X.w (upd H s.heap.objs.size (.tup [.int (i : Nat), x])) h'' s.heap.objs.size (.tup [.int (i : Nat), x]) :=
      ⟨by show 2 ≤ sizeLine; decide, [.int i tk, x'], .cons ⟨_, rfl⟩ (.cons ru .nil), ⟨_, hT2, rfl, _, rfl⟩⟩
    have I1 : Inv X pins σ (upd H s.heap.objs.size (.tup [.int (i : Nat), x])) { s with heap := h'', toks := tk + 1 } :=
      I.turnedNew (ch := [e, it]) (fun b ob hb q => (sb.2 b (fun z => hb (by simp [z]))).trans (hk b ob (fun z => hb (by simp [z])) (fun z => hb (by simp [z])) q)) hf (Nat.le_refl _) new
    refine ⟨.ref s.heap.objs.size, _, I1, rfl, ⟨_, x, rfl, I.hok.fresh (Nat.le_refl _), rfl, fun ys hy => by rw [I.tuple_inj hy hq]; exact hx⟩, ⟨⟨x', ?_⟩, hst.1.at fun o q => (sb.2 it (Ne.symm n1)).trans q, n1, n2, n3⟩, fun b hb => ?_⟩
    · have e1 : ((i + 1 : Nat) : Int) = (i : Int) + 1 := by omega
      rw [e1]; exact he'
    · have hb' : b < s.heap.objs.size := by
        rcases (show b = e ∨ b = it by simpa using hb) with z | z
        · rw [z]; exact hel
        · rw [z]; exact hil
      rw [upd_ne (Nat.ne_of_lt hb')]
      exact (hf b hb).1
  done := by
    intro X hP hw hK hc i pins s σ H E I hf st hg
    subst hP hw hK
    obtain ⟨⟨old, he⟩, hit, n1, n2, n3⟩ := st
    obtain ⟨xs, hq, hx⟩ := hg
    obtain ⟨its, rv, p, hz⟩ := I.tuple hq
    obtain ⟨f0, f1, f2, f3, f4, f5⟩ := hf it (by simp)
    have hl := rv.length
    have hh : X.A.in1.handled = Option.none := I.ok.hd hc
    have ei : i = its.toArray.size := by simp; omega
    subst ei
    exact wpAny_pyNext_enum_endD (Draws.tuple hh it a n2 its.toArray) he ⟨hit, (show s.heap.IsTuple a its.toArray from p)⟩ fun h' eb => ⟨rfl, I.turned (t' := s.toks) (fun b o hb q => eb b o hb q) f0 f1 f3 f4 f5⟩
  self := fun A i s Q E st h => let ⟨⟨_, he⟩, _⟩ := st; wpAny_pyIter_enum he h
end DL
set_option Elab.async false
set_option linter.all false
set_option maxRecDepth 100000
set_option maxHeartbeats 1000000
/-! The data layer, part l: enumerate, constants, isinstance of several, pop at a place, a list repeated, calls by keyword. -/
namespace DL
open PySem PySem.Spec PyProof.Rows L2
section
/-- pairs of a place and an item -/
def enumD : Nat → List D → List D
  | _, [] => []
  | j, x :: r => .tup [.int (j : Int), x] :: enumD (j + 1) r
theorem enumD_get : ∀ {j : Nat} {xs : List D} {i : Nat} {d : D}, (enumD j xs)[i]? = some d → ∃ x, xs[i]? = some x ∧ d = .tup [.int ((j + i : Nat) : Int), x]
  | _, [], _, _, h => by simp [enumD] at h
  | j, x :: r, 0, d, h => ⟨x, rfl, (Option.some.inj h).symm⟩
  | j, x :: r, i + 1, d, h => by
    obtain ⟨y, h1, h2⟩ := enumD_get (j := j + 1) (xs := r) (i := i) h
    exact ⟨y, h1, by rw [h2]; congr 3; omega⟩
theorem enumD_length : ∀ {j : Nat} {xs : List D}, (enumD j xs).length = xs.length
  | _, [] => rfl
  | j, x :: r => congrArg (· + 1) (enumD_length (j := j + 1) (xs := r))
def wEnum (w : WPe) : WPi := fun env S Q X => w env S (fun d S1 => some! (seqA S1 d) fun xs => Q (enumD 0 xs) (fun S' => seqA S' d = some xs) S1) X
def iEnA (K : PySem.W.Frag) (ta : TA) : TI := fun σ H R => ta σ H fun vs H1 => ∃ a, vs = [.ref a] ∧ (((∃ xs, SqL K H1 a xs) ∧ R (Ite K a) H1) ∨ ((∃ xs, SqT K H1 a xs) ∧ R (IteT K a) H1))
theorem pi_enA {X : Cx} {e : Expr} {ta : TA} {p pos tpos : Pos} {elts : List Expr} {kk : Nat} (hg : Gl X "enumerate") (hm : X.mg "enumerate" = none) (ha : PA X [e] ta) (hs : starEach [e] X.env = [(false, eval e X.env)] := by rfl) :
    PI X (.Tuple elts kk tpos) (.Call (.Name "enumerate" p) [e] [] pos) (iEnA X.K ta) := by
  refine ⟨fun pins s σ H R I h => ?_⟩
  refine Call_ (ld_blt I hg hm boot_enumerate (PyProof.Rows.callWith_type1 (thn (ha.run pos pins s σ H _ I h) fun us s1 ⟨vs, H1, I1, r1, a, ev, q1⟩ => ?_) hs rfl))
  subst ev
  cases r1 with
  | cons r rr =>
    cases rr
    cases r
    have fpk : ∀ b, b ∈ [s1.heap.objs.size + 1, s1.heap.objs.size] → FpOk X pins H1 b := fun b hb => by
      have hle : s1.heap.objs.size ≤ b := by
        rcases (show b = s1.heap.objs.size + 1 ∨ b = s1.heap.objs.size by simpa using hb) with z | z
        · rw [z]; exact Nat.le_add_right _ _
        · rw [z]; exact Nat.le_refl _
      exact I1.fpOk hle (I1.hok.fresh hle)
    rcases q1 with ⟨⟨xs, hq⟩, q⟩ | ⟨⟨xs, hq⟩, q⟩
    · obtain ⟨its, rv, pl, hz⟩ := I1.list hq
      refine call_enumerate_list pl.isList fun h' he hit hsz hk => wpAny_pyIter_enum he ?_
      exact ⟨s1.heap.objs.size + 1, [s1.heap.objs.size + 1, s1.heap.objs.size], _, _, H1, rfl, I1.kept (t' := s1.toks) hk, turn_enum a (s1.heap.objs.size + 1) s1.heap.objs.size, ⟨⟨.none, he⟩, hit, Nat.succ_ne_self _⟩, fpk, q⟩
    · obtain ⟨its, rv, pl, hz⟩ := I1.tuple hq
      have hT : s1.heap.IsTuple a its.toArray := pl
      have hal : a < s1.heap.objs.size := by
        obtain ⟨o, ho, _⟩ := hT
        exact Heap.lt_size ho
      refine call_enumT hT fun h' he hit hk => wpAny_pyIter_enum he ?_
      exact ⟨s1.heap.objs.size + 1, [s1.heap.objs.size + 1, s1.heap.objs.size], _, _, H1, rfl, I1.kept (t' := s1.toks) hk, turn_enumT a (s1.heap.objs.size + 1) s1.heap.objs.size, ⟨⟨.none, he⟩, hit, Nat.succ_ne_self _, Nat.ne_of_lt hal, (Nat.ne_of_lt (Nat.lt_succ_of_lt hal)).symm⟩, fpk, q⟩
end
section
variable {K : PySem.W.Frag}
theorem jok_enL {W0 : Hp} {S0 : Sto} {H0 : Hp} {d : D} {a : Addr} {xs : List D} (ok : Ok K W0 S0 H0) (r : Rep K W0 d (.ref a)) (hL : seqL S0 d = some xs) (hA : ∀ {S}, seqA S d = seqL S d) :
    (∃ vs, SqL K H0 a vs) ∧ JOk K (Ite K a) W0 (enumD 0 xs) (fun S' => seqA S' d = some xs) := by
  obtain ⟨b, ws, e1, e2, e3⟩ := seqL_rep ok r hL
  cases e1
  refine ⟨⟨ws, e2⟩, ⟨fun i W S H d' hd s1 ok1 g => ?_, fun W S H s1 ok1 g => ?_⟩⟩
  · rw [hA] at g
    obtain ⟨c, zs, e7, e8, e9⟩ := seqL_rep ok1 (r.mono s1) g
    cases e7
    obtain ⟨y, hy, rfl⟩ := enumD_get hd
    obtain ⟨u, hu, ru⟩ := e9.get hy
    refine ⟨⟨zs, u, e8, hu⟩, fun x H' ⟨T, x', e4, e5, e6, e10⟩ => ?_⟩
    subst e4 e6
    have e11 := e10 zs e8
    rw [hu] at e11
    cases e11
    have n := ok1.fresh e5
    exact ⟨_, ok1.stW e5, ok1.newW e5, T, _, rfl, SqT.of upd_same, _, _, rfl, by rw [Nat.zero_add]; rfl, _, _, rfl, ru.mono (same_new n.1), rfl⟩
  · rw [hA] at g
    obtain ⟨c, zs, e7, e8, e9⟩ := seqL_rep ok1 (r.mono s1) g
    cases e7
    rw [enumD_length]
    exact ⟨zs, e8, Nat.le_of_eq e9.length⟩
theorem jok_en {W0 : Hp} {S0 : Sto} {H0 : Hp} {d : D} {v : V} {xs : List D} (ok : Ok K W0 S0 H0) (r : Rep K W0 d v) (h : seqA S0 d = some xs) :
    ∃ a, v = .ref a ∧ (((∃ vs, SqL K H0 a vs) ∧ JOk K (Ite K a) W0 (enumD 0 xs) (fun S' => seqA S' d = some xs)) ∨ ((∃ vs, SqT K H0 a vs) ∧ JOk K (IteT K a) W0 (enumD 0 xs) (fun S' => seqA S' d = some xs))) := by
  obtain ⟨a, vs, rfl, hq, rv⟩ := seqA_rep ok r h
  refine ⟨a, rfl, ?_⟩
  cases d with
  | tup ys =>
    cases h
    obtain ⟨b, ws, e1, e2, e3⟩ := r
    cases e1
    refine .inr ⟨⟨ws, sqT_mono ok.vis e2⟩, ⟨fun i W S H d' hd s1 ok1 _ => ?_, fun W S H s1 ok1 _ => ?_⟩⟩
    · obtain ⟨y, hy, rfl⟩ := enumD_get hd
      obtain ⟨u, hu, ru⟩ := e3.get hy
      have hT := sqT_mono (s1.trans ok1.vis) e2
      refine ⟨⟨ws, u, hT, hu⟩, fun x H' ⟨T, x', e4, e5, e6, e10⟩ => ?_⟩
      subst e4 e6
      have e11 := e10 ws hT
      rw [hu] at e11
      cases e11
      have n := ok1.fresh e5
      exact ⟨_, ok1.stW e5, ok1.newW e5, T, _, rfl, SqT.of upd_same, _, _, rfl, by rw [Nat.zero_add]; rfl, _, _, rfl, (ru.mono s1).mono (same_new n.1), rfl⟩
    · rw [enumD_length]
      exact ⟨ws, sqT_mono (s1.trans ok1.vis) e2, e3.length⟩
  | lst ys => exact .inl (jok_enL ok r h rfl)
  | fro ys => exact .inl (jok_enL ok r h rfl)
  | ref b => exact .inl (jok_enL ok r h rfl)
  | _ => cases h
end
section
variable {X : Cx} {e : Expr} {w : WPe} {p pos tpos : Pos} {elts : List Expr} {kk : Nat}
theorem pdi_enum (hm : X.mg "enumerate" = none) (h : PD X e w) (hg : Gl X "enumerate" := by rfl) (hs : starEach [e] X.env = [(false, eval e X.env)] := by rfl) (hs2 : starEach [e] X.env = (false, eval e X.env) :: starEach [] X.env := by rfl) :
    PDi X (.Tuple elts kk tpos) (.Call (.Name "enumerate" p) [e] [] pos) (wEnum w) :=
  ⟨fun Wx tk => PI.imp (pi_enA hg hm (pa_cons (h.run Wx tk) pa_nil hs2) hs) fun σ H R ⟨W, env, S, Q0, X1, ok, sl, hw, cv, cx⟩ => ⟨W, env, S, _, X1, ok, sl, hw, fun d S1 v W1 H1 h1 s1 ok1 r1 => by
    obtain ⟨xs, e1, h1⟩ := some!_ex h1
    obtain ⟨a, rfl, ⟨q, j⟩ | ⟨q, j⟩⟩ := jok_en ok1 r1 e1
    · exact ⟨a, rfl, .inl ⟨q, cv _ _ S1 W1 H1 _ h1 s1 ok1 j⟩⟩
    · exact ⟨a, rfl, .inr ⟨q, cv _ _ S1 W1 H1 _ h1 s1 ok1 j⟩⟩, cx⟩⟩
/-- a constant of the module -/
theorem pd_glob {x : Str} {i : Int} (h : ∃ u, X.mg x = some u ∧ RelV (.int i) u) (hg : Gl X x := by rfl) (hd : (x == ("__debug__" : Str)) = false := by decide) : PD X (.Name x pos) (wC (.int i)) := by
  obtain ⟨u, hm, r⟩ := h
  exact pd_c (pe_glob hg hm r hd) fun _ => rfl
/-- xs.pop(i) -/
def oPopAt : OM := fun S d ds Q => mutL S d fun a xs => one ds fun e => asI e fun i => (-(2 ^ 63) ≤ i ∧ i < 2 ^ 63) ∧ some! (seqIndex? i xs.length) fun k => some! xs[k]? fun y => Q y (put S a (.lst (xs.eraseIdx k)))
theorem reps_erase {K : PySem.W.Frag} {W : Hp} : ∀ {xs : List D} {vs : List V} (k : Nat), Reps K W xs vs → Reps K W (xs.eraseIdx k) (vs.eraseIdx k)
  | [], _, _, h => by rw [show _ = [] from h]; rfl
  | _ :: _, _, 0, ⟨v, r, e1, e2, e3⟩ => by subst e1; exact e3
  | _ :: _, _, k + 1, ⟨v, r, e1, e2, e3⟩ => by
    subst e1
    exact ⟨v, _, rfl, e2, reps_erase k e3⟩
theorem md_popAt : MtR X "list.pop" (lM X.K oPopAt) := MtR.imp mt_popAt fun x vs H Q ⟨W, S, d, ds, Q0, ok, r, rs, ho, cv⟩ => by
  obtain ⟨a, xs, us, rfl, rfl, e1, e2, rv, h⟩ := mutL_rep ok r ho
  obtain ⟨y, rfl, h⟩ := one_ex h
  obtain ⟨i, rfl, hi, h⟩ := asI_ex h
  obtain ⟨k, ek, h⟩ := some!_ex h
  obtain ⟨z, ez, h⟩ := some!_ex h
  obtain ⟨t, rfl, rt⟩ := reps1 rs
  obtain ⟨u, e4, ru⟩ := rv.get ez
  exact ⟨a, us, i, k, u, rfl, by rw [show t = .int i from rt], e2, hi.1, hi.2, by rw [rv.length]; exact ek, e4, cv _ _ _ _ _ h (ok.stC e1) (ok.chg e1 ⟨_, rfl, reps_erase k rv⟩) ru⟩
/-! ### isinstance of several classes -/
def kitAnyB : String → List String → Option Bool
  | _, [] => some false
  | a, b :: bs => match kitB a b with
    | some true => some true
    | some false => kitAnyB a bs
    | none => none
theorem kit_any {K : PySem.W.Frag} {a : String} : ∀ {bs : List String} {r : Bool}, kitAnyB a bs = some r → PySem.W.kitAny K (.type a) (bs.map Value.type) = some r
  | [], r, h => by cases h; exact kitAny_nil
  | b :: bs, r, h => by
    have h' : (match kitB a b with | some true => some true | some false => kitAnyB a bs | none => none) = some r := h
    cases q : kitB a b with
    | none => rw [q] at h'; cases h'
    | some k =>
      rw [q] at h'
      cases k with
      | true => exact kitAny_cons (kit_ty q) (fun z => by cases z) fun _ => (Option.some.inj h').symm
      | false => exact kitAny_cons (kit_ty q) (fun _ => kit_any h') fun z => by cases z
def wIsiT (Ts : List String) (w : WPe) : WPe := fun env S Q X => w env S (fun d S1 => some! (tyN S1 d) fun n => some! (kitAnyB n Ts) fun b => Q (.bl b) S1) X
/-- the classes, one after the other -/
def tTys (Ts : List String) : TA := fun σ H Q => Q (Ts.map V.ty) H
theorem pa_tys0 {X : Cx} : PA X [] (tTys []) := pa_nil
theorem pa_tys {X : Cx} {e : Expr} {es : List Expr} {T : String} {Ts : List String} (h : PE X e (tC (.ty T))) (r : PA X es (tTys Ts)) (hs : starEach (e :: es) X.env = (false, eval e X.env) :: starEach es X.env := by rfl) : PA X (e :: es) (tTys (T :: Ts)) := pa_cons h r hs
theorem clsv_all : ∀ Ts : List String, Paired ClsV (Ts.map V.ty) (Ts.map Value.type)
  | [] => .nil
  | T :: Ts => .cons (.ty T) (clsv_all Ts)
theorem pd_isiT {X : Cx} {e : Expr} {w : WPe} {p p2 pos : Pos} {es : List Expr} {kk : Nat} {Ts : List String} (he : PD X e w) (ht : PA X es (tTys Ts)) (hm : X.mg "isinstance" = none) (hz : Ts.length ≤ sizeLine := by decide) (hg : Gl X "isinstance" := by rfl)
    (hs : starEach [e, .Tuple es kk p2] X.env = (false, eval e X.env) :: starEach [.Tuple es kk p2] X.env := by rfl) (hs2 : starEach [.Tuple es kk p2] X.env = [(false, eval (.Tuple es kk p2) X.env)] := by rfl) (hpl : (backTo pos (starEach [.Tuple es kk p2] X.env)).any (·.1) = false := by rfl) :
    PD X (.Call (.Name "isinstance" p) [e, .Tuple es kk p2] [] pos) (wIsiT Ts w) :=
  ⟨fun Wx tk => PE.imp (pe_callB call_isiT hg hm (by decide +kernel) (pa_cons (he.run Wx tk) (pa_cons (pe_tup ht) pa_nil hs2) hs) (by decide) (by decide) hs hpl) fun σ H Q ⟨W, env, S, Q0, X1, ok, sl, hw, cv, cx⟩ => ⟨W, env, S, _, X1, ok, sl, hw, fun d S1 v W1 H1 h1 s1 ok1 r1 => by
    obtain ⟨n, e1, h1⟩ := some!_ex h1
    obtain ⟨b, e2, h1⟩ := some!_ex h1
    refine ⟨by rw [List.length_map]; exact hz, fun q hq => ?_⟩
    have nq := ok1.fresh hq
    exact ⟨v, q, Ts.map V.ty, .type n, Ts.map Value.type, b, rfl, upd_same, clsv_all Ts, tyN_rep (ok1.newW (o := .tup (Ts.map V.ty)) hq) (r1.mono (same_new nq.1)) e1, kit_any e2, cv _ S1 _ _ _ h1 (s1.trans (ok1.stW hq)) (ok1.newW hq) rfl⟩, cx⟩⟩
end
/-! ### a list repeated -/
section
variable {X : Cx}
def oRep : O2 := fun S x y Q => match y with
  | .int k => some! (seqM S x) fun xs => (-(2 ^ 63) ≤ k ∧ k < 2 ^ 63 ∧ xs.length * k.toNat ≤ sizeLine) ∧ Q (.lst (List.replicate k.toNat xs).flatten) S
  | _ => False
theorem reps_rep {K : PySem.W.Frag} {W : Hp} {xs : List D} {vs : List V} (h : Reps K W xs vs) : ∀ n : Nat, Reps K W (List.replicate n xs).flatten (List.replicate n vs).flatten
  | 0 => rfl
  | n + 1 => by
    rw [List.replicate_succ, List.replicate_succ, List.flatten_cons, List.flatten_cons]
    exact h.append (reps_rep h n)
theorem opd_rep : OpR X (binaryOp .Mult) (lOp X.K oRep) := OpR.imp op_rep fun x y H Q ⟨W, S, a, b, Q0, ok, ra, rb, ho, cv⟩ => by
  cases b with
  | int k =>
    obtain ⟨xs, e1, hk, ho⟩ := some!_ex ho
    obtain ⟨l, vs, rfl, hl, rv⟩ := seqM_rep ok ra e1
    refine ⟨l, k, vs, rfl, rb, hl, hk.1, hk.2.1, by rw [rv.length]; exact hk.2.2, fun p hp => ?_⟩
    have n := ok.fresh hp
    exact cv _ S _ _ _ ho (ok.stW hp) (ok.newW hp) ⟨p, _, rfl, upd_same, (reps_rep rv _).mono (same_new n.1)⟩
  | _ => exact ho.elim
end
/-! ### calls by keyword -/
def pick {α : Type} (perm : List Nat) (l : List α) : List α := perm.filterMap fun i => l[i]?
/-- n arguments by place, m by name -/
def pickK (n m : Nat) (perm : List Nat) {α : Type} (us ws : List α) : List α := if us.length = n ∧ ws.length = m then pick perm (us ++ ws) else []
theorem paired_get {α β : Type} {R : α → β → Prop} : ∀ {xs : List α} {ys : List β}, Paired R xs ys → ∀ i : Nat, (∃ x y, xs[i]? = some x ∧ ys[i]? = some y ∧ R x y) ∨ (xs[i]? = none ∧ ys[i]? = none)
  | _, _, .nil, i => .inr ⟨by simp, by simp⟩
  | _, _, .cons h r, 0 => .inl ⟨_, _, rfl, rfl, h⟩
  | _, _, .cons h r, i + 1 => paired_get r i
theorem vals_pick {vs : List V} {us : List Value} (h : Vals vs us) : ∀ perm : List Nat, Vals (pick perm vs) (pick perm us)
  | [] => .nil
  | i :: r => by
    rcases paired_get h i with ⟨x, y, e1, e2, q⟩ | ⟨e1, e2⟩
    · show Vals (List.filterMap _ (i :: r)) (List.filterMap _ (i :: r))
      rw [List.filterMap_cons, List.filterMap_cons, e1, e2]
      exact .cons q (vals_pick h r)
    · show Vals (List.filterMap _ (i :: r)) (List.filterMap _ (i :: r))
      rw [List.filterMap_cons, List.filterMap_cons, e1, e2]
      exact vals_pick h r
theorem reps_pick {K : PySem.W.Frag} {W : Hp} {ds : List D} {vs : List V} (h : Reps K W ds vs) : ∀ perm : List Nat, Reps K W (pick perm ds) (pick perm vs)
  | [] => rfl
  | i :: r => by
    show Reps K W (List.filterMap _ (i :: r)) (List.filterMap _ (i :: r))
    rw [List.filterMap_cons, List.filterMap_cons]
    cases e : ds[i]? with
    | none =>
      have e2 : vs[i]? = none := by
        rw [List.getElem?_eq_none_iff] at e ⊢
        rw [h.length]; exact e
      rw [e2]
      exact reps_pick h r
    | some d =>
      obtain ⟨v, e2, rv⟩ := h.get e
      rw [e2]
      exact ⟨v, _, rfl, rv, reps_pick h r⟩
theorem reps_pickK {K : PySem.W.Frag} {W : Hp} {n m : Nat} {perm : List Nat} {ds es : List D} {vs zs : List V} (h1 : Reps K W ds vs) (h2 : Reps K W es zs) : Reps K W (pickK n m perm ds es) (pickK n m perm vs zs) := by
  unfold pickK
  rw [h1.length, h2.length]
  by_cases q : ds.length = n ∧ es.length = m
  · rw [if_pos q, if_pos q]; exact reps_pick (h1.append h2) perm
  · rw [if_neg q, if_neg q]; rfl
theorem kb_mk {K : PySem.W.Frag} {fd : FuncData} {ps ks : List Str} {n m : Nat} {perm : List Nat} (hps : ps ≠ []) (h : ∀ us ws : List Value, us.length = n → ws.length = m → bindArgs fd ⟨us, ks.zip ws⟩ = pure (ps.zip (pick perm (us ++ ws)))) :
    KBinds K fd ps ks (fun us ws => pickK n m perm us ws) (fun us ws => pickK n m perm us ws) where
  to := fun s us ws _ hl => by
    unfold pickK at hl ⊢
    by_cases q : us.length = n ∧ ws.length = m
    · rw [if_pos q]
      exact .of_eq (h us ws q.1 q.2)
    · rw [if_neg q] at hl
      exact absurd (List.eq_nil_of_length_eq_zero hl.symm) hps
  rel := fun {vs us zs ws} r1 r2 => by
    unfold pickK
    rw [r1.length, r2.length]
    by_cases q : us.length = n ∧ ws.length = m
    · rw [if_pos q, if_pos q]
      exact vals_pick (r1.append r2) perm
    · rw [if_neg q, if_neg q]
      exact .nil
def wCallK (spec : Ctr) (n m : Nat) (perm : List Nat) (wa wk : WPa) : WPe := fun env S Q X => wa env S (fun ds S1 => wk env S1 (fun es S2 => spec (pickK n m perm ds es) S2 Q X) X) X
structure PDk (X : Cx) (kws : List Keyword) (w : WPa) : Prop where
  run : ∀ Wx, Takes X Wx → PK X kws (lA X.K Wx w)
theorem PK.imp {X : Cx} {kws : List Keyword} {t t' : TA} (h : PK X kws t) (i : ∀ σ H Q, t' σ H Q → t σ H Q) : PK X kws t' := ⟨fun po pins s σ H Q I q => h.run po pins s σ H Q I (i σ H Q q)⟩
section
variable {X : Cx} {x : Str} {p pos kpos : Pos} {e : Expr} {es : List Expr} {kws : List Keyword} {wa wk r : WPa} {w : WPe} {nm : Option Str} {k n m : Nat} {perm : List Nat} {f : Addr} {fd : FuncData} {ps ks : List Str} {spec : Ctr}
theorem pdk_nil : PDk X [] wNil := ⟨fun Wx tk => PK.imp pk_nil fun σ H Q ⟨W, env, S, Q0, X1, ok, sl, hw, cv, cx⟩ => cv [] S [] W H hw Stp.refl ok rfl⟩
theorem pdk_cons (h : PD X e w) (hr : PDk X kws r) : PDk X (⟨nm, e, kpos⟩ :: kws) (wCons w r) :=
  ⟨fun Wx tk => PK.imp (pk_cons (h.run Wx tk) (hr.run Wx tk)) fun σ H Q ⟨W, env, S, Q0, X1, ok, sl, hw, cv, cx⟩ => ⟨W, env, S, _, X1, ok, sl, hw, fun d S1 v W1 H1 h1 s1 ok1 r1 =>
    ⟨W1, env, S1, _, X1, ok1, sl.mono s1.vis, h1, fun ds S2 vs W2 H2 h2 s2 ok2 r2 => cv _ S2 _ W2 H2 h2 (s1.trans s2) ok2 ⟨v, vs, rfl, r1.mono s2.vis, r2⟩, cx.mono s1⟩, cx⟩⟩
theorem run_fnKS {CX : CXT} {sp : Sp} {E : L2.St → XK} {g : List Value → List Value → List Value} {gV : List V → List V → List V} {pins : List (Addr × Obj)} {σ : L2.St} {H : Hp} {s : Shared} {Q : VK} {us ws : List Value} {vs zs : List V}
    (F : FnOk X.prog X.w X.K X.mg X.base CX k f fd ps sp) (hr : Room k X.A) (hb : KBinds X.K fd ps ks g gV) (hx : PassesAt CX X σ (E σ)) (I : L2.Inv X pins σ H s) (r1 : Vals vs us) (r2 : Vals zs ws) (h : sp (gV vs zs) H Q (E σ)) :
    wpAny (model X.prog X.w) X.A (call (.ref f) us (ks.zip ws)) (EP X pins σ Q) X.xe s := by
  have rr := hb.rel r1 r2
  have hl : (g us ws).length = ps.length := by rw [← rr.length]; exact F.len _ _ _ _ h
  refine wpAny_call (codeAny_mono (F.run X.A X.stack s H ⟨us, ks.zip ws⟩ (g us ws) (gV vs zs) Q (E σ) hr I.env0 (hb.to s us ws I.kIn hl) rr h) fun r s' hq => ?_)
  cases r with
  | error e => exact hx pins H s e s' I hq
  | ok fl =>
    cases fl with
    | ret u => exact I.after hq
    | next => exact hq.elim
    | brk => exact hq.elim
    | cont => exact hq.elim
/-- f(k = v, ..): by names alone -/
theorem pd_fnK0 (F : FnD X.prog X.w X.K X.mg X.base k f fd ps spec) (hm : X.mg x = some (.ref f)) (hk : PySem.W.keepIn X.K (.ref f) = true) (hb : KBinds X.K fd ps ks (fun us ws => pickK 0 m perm us ws) (fun us ws => pickK 0 m perm us ws)) (hr : Room k X.A) (hkw : PDk X kws wk)
    (hg : Gl X x := by rfl) (hdb : (x == ("__debug__" : Str)) = false := by decide) (hall : (backToKw pos (keywordEach kws X.env)).all (·.1.isSome) = true := by rfl) (hks : (backToKw pos (keywordEach kws X.env)).filterMap (·.1) = ks := by rfl)
    (hpl : ((backTo pos (starEach [] X.env)).any (·.1) || (backToKw pos (keywordEach kws X.env)).any (·.1.isNone)) = false := by rfl) : PD X (.Call (.Name x p) [] kws pos) (wCallK spec 0 m perm wNil wk) := by
  refine ⟨fun Wx tk => ⟨fun pins s σ H Q I h => ?_⟩⟩
  obtain ⟨W, env, S, Q0, X1, ok, sl, hw, cv, cx⟩ := h
  refine wpAny_Call_Name_kw (ld_glob I hg hm ?_ hdb)
  refine PySem.W.callWith_KW0 (h₀ := X.base) I.ok.mod.kin hk hall ?_ hpl
  have h2 : lA X.K Wx wk σ H fun zs H2 => lSp X.K spec (pickK 0 m perm [] zs) H2 Q fun c d H' => Wx c d σ H' := ⟨W, env, S, _, X1, ok, sl, hw, fun ds S1 vs W1 H1 h1 s1 ok1 r1 => by
    exact ⟨W1, S1, pickK 0 m perm [] ds, Q0, X1, ok1, reps_pickK (ds := []) (vs := []) rfl r1, h1, cv.mono s1, cx.mono s1⟩, cx⟩
  refine thn ((hkw.run Wx tk).run pos pins s σ H _ I h2) fun ws s2 ⟨zs, H2, I2, rz, q2⟩ => ⟨I2.kIn, ?_⟩
  rw [hks]
  exact run_fnKS F hr hb (passAt tk σ) I2 .nil rz q2
/-- f(e, .., k = v, ..) -/
theorem pd_fnK (F : FnD X.prog X.w X.K X.mg X.base k f fd ps spec) (hm : X.mg x = some (.ref f)) (hk : PySem.W.keepIn X.K (.ref f) = true) (hb : KBinds X.K fd ps ks (fun us ws => pickK n m perm us ws) (fun us ws => pickK n m perm us ws)) (hr : Room k X.A) (ha : PDa X (e :: es) wa) (hkw : PDk X kws wk)
    (hg : Gl X x := by rfl) (hdb : (x == ("__debug__" : Str)) = false := by decide) (hall : (backToKw pos (keywordEach kws X.env)).all (·.1.isSome) = true := by rfl) (hks : (backToKw pos (keywordEach kws X.env)).filterMap (·.1) = ks := by rfl)
    (he : starEach (e :: es) X.env = (false, eval e X.env) :: starEach es X.env := by rfl)
    (hpl : ((backTo pos (starEach (e :: es) X.env)).any (·.1) || (backToKw pos (keywordEach kws X.env)).any (·.1.isNone)) = false := by rfl) : PD X (.Call (.Name x p) (e :: es) kws pos) (wCallK spec n m perm wa wk) := by
  refine ⟨fun Wx tk => ⟨fun pins s σ H Q I h => ?_⟩⟩
  obtain ⟨W, env, S, Q0, X1, ok, sl, hw, cv, cx⟩ := h
  refine wpAny_Call_Name_kw (ld_glob I hg hm ?_ hdb)
  have h1 : lA X.K Wx wa σ H fun vs H1 => lA X.K Wx wk σ H1 fun zs H2 => lSp X.K spec (pickK n m perm vs zs) H2 Q fun c d H' => Wx c d σ H' := ⟨W, env, S, _, X1, ok, sl, hw, fun ds S1 vs W1 H1 h1 s1 ok1 r1 =>
    ⟨W1, env, S1, _, X1, ok1, sl.mono s1.vis, h1, fun es S2 zs W2 H2 h2 s2 ok2 r2 => by
      exact ⟨W2, S2, pickK n m perm ds es, Q0, X1, ok2, reps_pickK (r1.mono s2.vis) r2, h2, cv.mono (s1.trans s2), cx.mono (s1.trans s2)⟩, cx.mono s1⟩, cx⟩
  refine PySem.W.callWith_KW (h₀ := X.base) I.ok.mod.kin hk hall (thn ((ha.run Wx tk).run pos pins s σ H _ I h1) fun us s1 ⟨vs, H1, I1, r, q⟩ => ?_) hpl he
  refine thn ((hkw.run Wx tk).run pos pins s1 σ H1 _ I1 q) fun ws s2 ⟨zs, H2, I2, rz, q2⟩ => ⟨I2.kIn, ?_⟩
  rw [hks]
  exact run_fnKS F hr hb (passAt tk σ) I2 r rz q2
end
end DL
set_option Elab.async false
set_option linter.all false
set_option maxRecDepth 100000
set_option maxHeartbeats 1000000
/-! The data layer, part m: own exceptions with one field: made, raised, caught, asked. -/
namespace DL
open PySem PySem.Spec PyProof.Rows L2
/-! ### C(v): C's own __init__ is self.f = p -/
def spEx (K : PySem.W.Frag) (C : Addr) (f : Str) : Sp := fun vs H Q _ => ∃ (a : Addr) (v : V), vs = [.ref a, v] ∧ OexC K C ∧ PySem.W.findIn K (.ref C) f = some none ∧ H a = some (exo a C none) ∧
  ∀ dx, H dx = none → dx ≠ a → Q .non (upd (upd H dx (exd dx [(f, v)])) a (exo a C (some dx)))
section
variable {P : Program} {w : World} {K : PySem.W.Frag} {mg : Str → Option Value} {base : Heap} {qual : Str} {st : Stmt} {fI : Addr} {fd : FuncData} {f p : Str} {C : Addr}
theorem exInit_ok (F : Fun K "__init__" qual st fI fd) (S : FnScope ["self", p] ["self", p] (defScope st))
    (hb : ∀ (cdv : Value) (A : Around) (outer : List Env) (s : Shared) (H : Hp) (E : XK), PSs (cxOf (L2.CX P w) P w K mg base ["self", p] qual (defScope st) fI cdv A outer s H E) (defBody st) (tOst K f (tVar 0) (tVar 1))) :
    FnOk P w K mg base (L2.CX P w) 1 fI fd ["self", p] (spEx K C f) := by
  refine F.okX S (fun vs H Q E ⟨a, v, e, _⟩ => by rw [e]; rfl) (fun cdv A outer s H vs Q E hr ⟨a, v, e, T, hn, ha, q⟩ => ⟨_, hb cdv A outer s H E, ?_⟩)
  subst e
  exact ⟨v, rfl, .ref a, rfl, a, C, rfl, T, hn, .inl ⟨ha, fun dx h1 h2 => q dx h1 h2⟩⟩
end
/-- the class x at C, whose __init__ keeps one value as f -/
structure ExAt (K : PySem.W.Frag) (mg : Str → Option Value) (x : Str) (C : Addr) (f p : Str) (qual : Str) (st : Stmt) : Prop where
  ox : OexC K C
  nf : PySem.W.findIn K (.ref C) f = some none
  mg : mg x = some (.ref C)
  fn : ∃ fI fd, Fun K "__init__" qual st fI fd ∧ PySem.W.findIn K (.ref C) "__init__" = some (some (.ref fI)) ∧ PySem.W.typeIn K (.ref fI) = some (.type "function") ∧ Binds K fd ["self", p] []
/-- .. as it is used -/
def ExC (P : Program) (w : World) (K : PySem.W.Frag) (mg : Str → Option Value) (base : Heap) (x : Str) (C : Addr) (f : Str) : Prop :=
  OexC K C ∧ PySem.W.findIn K (.ref C) f = some none ∧ mg x = some (.ref C) ∧ ∃ fI fd ps, FnOk P w K mg base (L2.CX P w) 1 fI fd ps (spEx K C f) ∧ PySem.W.findIn K (.ref C) "__init__" = some (some (.ref fI)) ∧ PySem.W.typeIn K (.ref fI) = some (.type "function") ∧ Binds K fd ps []
theorem ExC.mk {P : Program} {w : World} {K : PySem.W.Frag} {mg : Str → Option Value} {base : Heap} {x f p qual : Str} {C : Addr} {st : Stmt} (E : ExAt K mg x C f p qual st) (S : FnScope ["self", p] ["self", p] (defScope st))
    (hb : ∀ (fI : Addr) (cdv : Value) (A : Around) (outer : List Env) (s : Shared) (H : Hp) (E : XK), PSs (cxOf (L2.CX P w) P w K mg base ["self", p] qual (defScope st) fI cdv A outer s H E) (defBody st) (tOst K f (tVar 0) (tVar 1))) : ExC P w K mg base x C f := by
  obtain ⟨fI, fd, F, i1, t1, b⟩ := E.fn
  exact ⟨E.ox, E.nf, E.mg, fI, fd, _, exInit_ok F S (hb fI), i1, t1, b⟩
/-- an expression that makes an exception -/
abbrev WPx := DE → Sto → XQ → XQ → Prop
def lX (K : PySem.W.Frag) (Wx : WX) (w : WPx) : L2.St → Hp → XK → Prop := fun σ H Q => ∃ W env S Q0 X0, Ok K W S H ∧ Sl K W env σ ∧ w env S Q0 X0 ∧ CXc K W S H Q0 Q ∧ CXc K W S H X0 (fun c d H' => Wx c d σ H')
structure PDx (X : Cx) (e : Expr) (w : WPx) : Prop where
  run : ∀ Wx, Takes X Wx → PMk X e (lX X.K Wx w)
def wMkE (C : Addr) (f : Str) (w : WPe) : WPx := fun env S Q X => w env S (fun d S1 => Q C [(f, d)] S1) X
theorem repf_one {K : PySem.W.Frag} {W : Hp} {f : Str} {d : D} {v : V} (r : Rep K W d v) : Repf K W [(f, d)] [(f, v)] := fun g x h => by
  rw [List.lookup_cons] at h ⊢
  cases q : (g == f) with
  | true =>
    rw [q] at h
    cases h
    exact ⟨v, rfl, r⟩
  | false =>
    rw [q] at h
    cases h
section
variable {X : Cx} {x f : Str} {C : Addr} {e : Expr} {w : WPe} {p pos : Pos}
theorem pdx_mk (T : ExC X.prog X.w X.K X.mg X.base x C f) (hr : Room 2 X.A) (he : PD X e w) (hg : Gl X x := by rfl) (hdb : (x == ("__debug__" : Str)) = false := by decide) (hs : starEach [e] X.env = (false, eval e X.env) :: starEach [] X.env := by rfl) (hpl : (backTo pos (starEach [] X.env)).any (·.1) = false := by rfl) :
    PDx X (.Call (.Name x p) [e] [] pos) (wMkE C f w) := by
  obtain ⟨T1, nf, hm, fI, fd, ps, F, i1, t1, b⟩ := T
  refine ⟨fun Wx tk pins s σ H Q I h => ?_⟩
  refine pmk_oex T1 i1 t1 F hr b .nil passL hg hm (pa_cons (he.run Wx tk) pa_nil hs) hdb hs hpl pins s σ H Q I ?_
  obtain ⟨W, env, S, Q0, X1, ok, sl, hw, cq, cx⟩ := h
  refine ⟨W, env, S, _, X1, ok, sl, hw, fun d S1 v W1 H1 h1 s1 ok1 r1 => ?_, cx⟩
  refine ⟨by show 1 ≤ 1000; decide, fun a ha => ⟨a, v, rfl, T1, nf, upd_same, fun dx hdx ne => ⟨rfl, dx, [(f, v)], upd_same, ?_, ?_, ?_⟩⟩⟩
  · rw [upd_ne ne, upd_same]
  · rw [upd_ne ne] at hdx; exact hdx
  · have hdx' : H1 dx = none := by rw [upd_ne ne] at hdx; exact hdx
    have e1 : upd (L2.del (upd (upd (upd H1 a (exo a C none)) dx (exd dx [(f, v)])) a (exo a C (some dx))) a) dx (.xd [(f, v)]) = upd H1 dx (.xd [(f, v)]) := by
      funext b
      by_cases q : b = dx
      · subst q; rw [upd_same, upd_same]
      · rw [upd_ne q, upd_ne q]
        by_cases q2 : b = a
        · subst q2
          rw [del_same, ha]
        · rw [del_ne q2, upd_ne q2, upd_ne q, upd_ne q2]
    rw [e1]
    have n := ok1.fresh hdx'
    exact cq C _ S1 dx _ _ _ h1 (s1.trans (ok1.stW hdx')) (ok1.newW hdx') upd_same (repf_one (r1.mono (same_new n.1)))
def wRaise (w : WPx) : WPs := fun env S q => w env S (xcQ q env) (xcQ q env)
theorem pds_raise {wx : WPx} {pos2 : Pos} {e : Expr} (hc : X.calm = true) (he : PDx X e wx) : PDs X (.Raise (some e) none pos2) (wRaise wx) :=
  ⟨fun Wx tk => PS.imp (ps_raise hc tk (he.run Wx tk)) fun D σ H ⟨W, env, S, q, ok, sl, hl, hw, cs⟩ => ⟨W, env, S, _, _, ok, sl, hw, CXc.of cs sl, CXc.of cs sl⟩⟩
end
/-! ### try .. except T as e -/
theorem sl_del {K : PySem.W.Frag} {W : Hp} {e : DE} {σ : L2.St} {i : Nat} (h : Sl K W e σ) : Sl K W (delV e i) (σ.set i none) := fun j d q => by
  obtain ⟨n, g⟩ := getV_delV q
  obtain ⟨v, a, r⟩ := h j d g
  exact ⟨v, by rw [List.getElem?_set_ne (Ne.symm n)]; exact a, r⟩
/-- .. where the slots' number is not told -/
def lSn (K : PySem.W.Frag) (Wx : WX) (n : Nat) (w : WPs) : TS := fun D σ H => ∃ W env S q, Ok K W S H ∧ (σ.length = n → Sl K W env σ) ∧ w env S q ∧ CS K Wx W S H q { D with nx := fun σ' H' => σ'.length = n → D.nx σ' H', bk := fun σ' H' => σ'.length = n → D.bk σ' H', ct := fun σ' H' => σ'.length = n → D.ct σ' H' }
theorem pss_n {X : Cx} {st : List Stmt} {K : PySem.W.Frag} {Wx : WX} {w : WPs} (h : PSs X st (lS K Wx X.N.length w)) : PSs X st (lSn K Wx X.N.length w) :=
  ⟨fun pins s σ H D I ⟨W, env, S, q, ok, sl, hw, cs⟩ => h.run pins s σ H D I ⟨W, env, S, q, ok, sl I.len, I.len, hw, cs⟩⟩
/-- the suite: of the exception's address, its dict's, its class -/
abbrev WPu := Addr → Addr → Addr → WPs
def wTry (K : PySem.W.Frag) (T : Addr) (i : Nat) (body : WPs) (suite : WPu) : WPs := fun env S q => body env S { q with xc := fun C fs e S1 => ∃ b, PySem.W.exmOne K (.ref C) (.ref T) = some b ∧
  (b = true → ∃ f x, fs = [(f, x)] ∧ ∀ a dd, suite a dd C (setV e i (.exc a dd C f x)) S1 { nx := fun e2 S2 => q.nx (delV e2 i) S2, rt := q.rt, bk := fun e2 S2 => q.bk (delV e2 i) S2, ct := fun e2 S2 => q.ct (delV e2 i) S2, xc := fun _ _ _ _ => False }) ∧
  (b = false → q.xc C fs e S1) }
section
variable {X : Cx} {x n : Str} {T : Addr} {i : Nat} {body suite : List Stmt} {b₀ : Stmt} {np pos pos' : Pos} {wb : WPs} {ws : WPu}
theorem pds_try (hs : X.stack = X.env :: X.outer) (hf : X.env.frame = some X.env.locals) (hN : X.N.Nodup) (hi : X.N[i]? = some n) (hln : X.env.kindOf n = some .local) (hm : X.mg x = some (.ref T)) (hg : Gl X x) (hdb : (x == ("__debug__" : Str)) = false)
    (hb : ∀ (pn : List (Addr × Obj)) (xe : Value → Shared → Prop), PassesOwn (model X.prog X.w) X.A X.env xe → PDss (X.tr pn xe) body wb)
    (hsu : ∀ (a dd C : Addr) (oe : Obj) (pn : List (Addr × Obj)), Zc (.ref C) (some dd) oe → (∃ vs, oe.data = .fields vs) → PDss (X.suite a ((a, oe) :: pn)) (b₀ :: suite) (ws a dd C)) :
    PDs X (.Try body [.ExceptHandler (some (.Name x np)) (some n) (b₀ :: suite) pos'] [] [] pos) (wTry X.K T i wb ws) := by
  refine ⟨fun Wx tk => ?_⟩
  refine PS.imp (L2.ps_try_as hs hf hN hi hln ⟨hg, hdb, .inl hm⟩ tk (tb := fun W => lS X.K W X.N.length wb) (ts := fun a cls d => match cls, d with
    | .ref C, some dd => lSn X.K (fun _ _ _ _ => False) X.N.length (ws a dd C)
    | _, _ => fun _ _ _ => False) (fun W pn xe tkW pass => (hb pn xe pass).run W tkW) fun a oe cls d pn hz hfl => ?_) ?_
  · cases cls with
    | ref C =>
      cases d with
      | some dd => exact pss_n (X := X.suite a ((a, oe) :: pn)) ((hsu a dd C oe pn hz hfl).run _ takes0)
      | none => exact ⟨fun pins s σ H D I h => h.elim⟩
    | _ => exact ⟨fun pins s σ H D I h => h.elim⟩
  · rintro D σ H ⟨W, env, S, q, ok, sl, hl, hw, cs⟩
    refine ⟨W, env, S, _, ok, sl, hl, hw, cs.nx, cs.rt, cs.bk, cs.ct, ?_⟩
    rintro C fs e S1 dd gs σ1 W1 H1 ⟨b, hb1, hy, hn⟩ s1 ok1 sl1 e1 r1
    refine ⟨b, hb1, fun h a ha => ?_, fun h => cs.xc C fs e S1 dd gs σ1 W1 H1 (hn h) s1 ok1 sl1 e1 r1⟩
    obtain ⟨f, y, rfl, hsuite⟩ := hy h
    obtain ⟨u, hu, ru⟩ := r1 f y (by rw [List.lookup_cons]; simp)
    have rex : Rep X.K W1 (.exc a dd C f y) (.ref a) := ⟨rfl, gs, u, e1, hu, ru⟩
    have sl2 : (σ1.set i (some (.ref a))).length = X.N.length → Sl X.K W1 (setV e i (.exc a dd C f y)) (σ1.set i (some (.ref a))) := fun hlen j d hj => by
      rcases getV_setV hj with ⟨z1, z2⟩ | ⟨z1, z2⟩
      · subst z1 z2
        exact ⟨_, List.getElem?_set_self (by rw [List.length_set] at hlen; rw [hlen]; exact lt_of_some hi), rex⟩
      · obtain ⟨v, hv, rv⟩ := sl1 j d z2
        exact ⟨v, by rw [List.getElem?_set_ne (Ne.symm z1)]; exact hv, rv⟩
    refine ⟨W1, _, S1, _, ok1, sl2, hsuite a dd, ?_, ?_, ?_, ?_, ?_⟩
    · exact fun e2 S2 σ2 W2 H2 hq st ok2 sl3 hl2 => cs.nx _ S2 _ W2 H2 hq (s1.trans st) ok2 (sl_del sl3) (by rw [List.length_set]; exact hl2)
    · exact fun d S2 v W2 H2 hq st ok2 rv => cs.rt d S2 v W2 H2 hq (s1.trans st) ok2 rv
    · exact fun e2 S2 σ2 W2 H2 hq st ok2 sl3 hl2 => cs.bk _ S2 _ W2 H2 hq (s1.trans st) ok2 (sl_del sl3) (by rw [List.length_set]; exact hl2)
    · exact fun e2 S2 σ2 W2 H2 hq st ok2 sl3 hl2 => cs.ct _ S2 _ W2 H2 hq (s1.trans st) ok2 (sl_del sl3) (by rw [List.length_set]; exact hl2)
    · exact fun C fs e2 S2 dd gs σ2 W2 H2 hq _ _ _ _ _ => hq.elim
/-! ### in the suite -/
/-- e.f -/
def wExF (K : PySem.W.Frag) (a dd C : Addr) (f : Str) (w : WPe) : WPe := fun env S Q X => (XfC K C ∧ PySem.W.findIn K (.ref C) f = some none) ∧ w env S (fun d S1 => match d with
  | .exc a' dd' C' g x => (a' = a ∧ dd' = dd ∧ C' = C ∧ g = f) ∧ Q x S1
  | _ => False) X
section
variable {X : Cx} {a dd C : Addr} {oe : Obj} {pn : List (Addr × Obj)} {e : Expr} {f : Str} {w : WPe} {pos : Pos}
theorem pd_exf (hz : Zc (.ref C) (some dd) oe) (hf : ∃ vs, oe.data = .fields vs) (he : PD (X.suite a ((a, oe) :: pn)) e w) (hb : attributeBase e f X.env (eval e X.env) = eval e X.env := by rfl) :
    PD (X.suite a ((a, oe) :: pn)) (.Attribute e f pos) (wExF X.K a dd C f w) :=
  ⟨fun Wx tk => ⟨fun pins s σ H Q I ⟨W, env, S, Q0, X1, ok, sl, ⟨⟨T, hno⟩, hw⟩, cv, cx⟩ => (pe_xf T hno hz hf (he.run Wx tk) hb).run pins s σ H Q I ⟨W, env, S, _, X1, ok, sl, hw, fun d S1 v W1 H1 h1 s1 ok1 r1 => by
    cases d with
    | exc a' dd' C' g x =>
      obtain ⟨⟨rfl, rfl, rfl, rfl⟩, h1⟩ := h1
      obtain ⟨e1, gs, u, e2, e3, ru⟩ := r1
      exact ⟨e1, rfl, dd', gs, u, rfl, ok1.vis _ _ e2, e3, cv x S1 u W1 H1 h1 s1 ok1 ru⟩
    | _ => exact h1.elim, cx⟩⟩⟩
/-- what the class of a caught exception must say, so that isinstance asks rightly -/
structure IsC (K : PySem.W.Frag) (C : Addr) : Prop where
  cl : (PySem.W.clsIn K C).isSome = true
  ga : PySem.W.findIn K (.ref C) "__getattribute__" = some (some (.builtin "BaseException.__getattribute__"))
  gt : PySem.W.findIn K (.ref C) "__getattr__" = some none
  su : PySem.W.subIn K (.ref C) (.type "BaseException") = some true
  ca : PySem.W.findIn K (.ref C) "__class__" = some (some (.builtin "object.__class__"))
  cg : PySem.W.specialIn K (.builtin "object.__class__") "__get__" = some (some (.builtin "getset_descriptor.__get__"))
  ct : PySem.W.takesIn K (.builtin "object.__class__") = some true
  mo : PySem.W.mroIn K C (.type "object") = some true
/-- isinstance(e, T), e the caught exception with the dict at dd -/
def rIsD (K : PySem.W.Frag) (C a dd : Addr) : List V → Hp → VK → Prop := fun xs H Q => ∃ (c : V) (u : Value) (b : Bool) (gs : List (Str × V)), xs = [.ref a, c] ∧ H dd = some (.xd gs) ∧ ClsV c u ∧ IsC K C ∧ PySem.W.kitOne K (.ref C) u = some b ∧ Q (.bl b) H
theorem inst_of {pins : List (Addr × Obj)} {σ : L2.St} {H : Hp} {s : Shared} {gs : List (Str × V)} (I : L2.Inv (X.suite a ((a, oe) :: pn)) pins σ H s) (hz : Zc (.ref C) (some dd) oe) (hf : ∃ vs, oe.data = .fields vs) (hd : H dd = some (.xd gs)) : ∃ od, PySem.W.InstAt s.heap a oe C (some od) := by
  obtain ⟨hget, _⟩ := I.pin (a, oe) (List.mem_append.mpr (.inl List.mem_cons_self))
  obtain ⟨vs, hv⟩ := hf
  have hx : ObjOk X.prog X.w H s.heap dd (.xd gs) := I.hok dd _ hd
  obtain ⟨mA, hns, hr⟩ := hx
  obtain ⟨od, ho, hl⟩ := lookIn_ns hns
  exact ⟨od, hget, hz.1, by unfold PySem.W.notCls; rw [hv] <;> rfl, by rw [hz.2]; exact ho⟩
theorem call_isD (hz : Zc (.ref C) (some dd) oe) (hf : ∃ vs, oe.data = .fields vs) : CallR (X.suite a ((a, oe) :: pn)) (.builtin "isinstance") (rIsD X.K C a dd) := by
  intro pins s σ H xs us Q I r h
  obtain ⟨c, u, b, gs, rfl, hd, k, T, e, q⟩ := h
  obtain ⟨u1, u2, rfl, r1, r2⟩ := vals2 r
  have e2 := k.eq r2
  subst e2
  cases (show u1 = Value.ref a from r1)
  obtain ⟨od, J⟩ := inst_of I hz hf hd
  exact PySem.W.kia_one (PySem.W.kitx_exc T.cl T.ga T.gt T.su T.ca T.cg T.ct T.mo) I.kIn J e (fun z => nomatch z) fun tk => ⟨.bl b, H, I.tok tk, rfl, q⟩
/-- isinstance(e, (T1, T2, ..)) -/
def rIsDT (K : PySem.W.Frag) (C a dd : Addr) : List V → Hp → VK → Prop := fun xs H Q => ∃ (tp : Addr) (cs : List V) (ws : List Value) (b : Bool) (gs : List (Str × V)), xs = [.ref a, .ref tp] ∧ H dd = some (.xd gs) ∧ H tp = some (.tup cs) ∧ Paired ClsV cs ws ∧ IsC K C ∧ PySem.W.kitAny K (.ref C) ws = some b ∧ Q (.bl b) H
theorem call_isDT (hz : Zc (.ref C) (some dd) oe) (hf : ∃ vs, oe.data = .fields vs) : CallR (X.suite a ((a, oe) :: pn)) (.builtin "isinstance") (rIsDT X.K C a dd) := by
  intro pins s σ H xs us Q I r h
  obtain ⟨tp, cs, ws, b, gs, rfl, hd, hT, k, T, e, q⟩ := h
  obtain ⟨u1, u2, rfl, r1, r2⟩ := vals2 r
  cases (show u1 = Value.ref a from r1)
  cases (show u2 = Value.ref tp from r2)
  obtain ⟨od, J⟩ := inst_of I hz hf hd
  obtain ⟨_, its, rv, o, h1, h2, n, h3⟩ := (show ObjOk X.prog X.w H s.heap tp (.tup cs) from I.hok tp _ hT)
  have e3 := ClsV.all k rv
  subst e3
  obtain ⟨oc, od2, dt, sl⟩ := o
  simp only at h2 h3
  subst h2 h3
  exact PySem.W.kia_tup (PySem.W.kitx_exc T.cl T.ga T.gt T.su T.ca T.cg T.ct T.mo) I.kIn J h1 e (fun z => nomatch z) fun tk => ⟨.bl b, H, I.tok tk, rfl, q⟩
end
end
def wIsE (K : PySem.W.Frag) (a dd C T : Addr) (w : WPe) : WPe := fun env S Q X => w env S (fun d S1 => match d with
  | .exc a' dd' C' _ _ => (a' = a ∧ dd' = dd ∧ C' = C ∧ IsC K C) ∧ some! (PySem.W.kitOne K (.ref C) (.ref T)) fun b => Q (.bl b) S1
  | _ => False) X
def wIsET (K : PySem.W.Frag) (a dd C : Addr) (Ts : List Addr) (w : WPe) : WPe := fun env S Q X => w env S (fun d S1 => match d with
  | .exc a' dd' C' _ _ => (a' = a ∧ dd' = dd ∧ C' = C ∧ IsC K C) ∧ some! (PySem.W.kitAny K (.ref C) (Ts.map Value.ref)) fun b => Q (.bl b) S1
  | _ => False) X
def tRefs (Ts : List Addr) : TA := fun σ H Q => Q (Ts.map V.ref) H
theorem pa_refs0 {X : Cx} : PA X [] (tRefs []) := pa_nil
theorem pe_cls {X : Cx} {x : Str} {T : Addr} {pos : Pos} (hm : X.mg x = some (.ref T)) (hg : Gl X x := by rfl) (hd : (x == ("__debug__" : Str)) = false := by decide) : PE X (.Name x pos) (tC (.ref T)) := pe_glob hg hm rfl hd
theorem pa_refs {X : Cx} {e : Expr} {es : List Expr} {T : Addr} {Ts : List Addr} (h : PE X e (tC (.ref T))) (r : PA X es (tRefs Ts)) (hs : starEach (e :: es) X.env = (false, eval e X.env) :: starEach es X.env := by rfl) : PA X (e :: es) (tRefs (T :: Ts)) := pa_cons h r hs
theorem clsv_refs : ∀ Ts : List Addr, Paired ClsV (Ts.map V.ref) (Ts.map Value.ref)
  | [] => .nil
  | T :: Ts => .cons (.own T) (clsv_refs Ts)
section
variable {X : Cx} {a dd C T : Addr} {Ts : List Addr} {oe : Obj} {pn : List (Addr × Obj)} {e e2 : Expr} {es : List Expr} {w : WPe} {p p2 pos : Pos} {kk : Nat}
theorem pd_isE (hz : Zc (.ref C) (some dd) oe) (hf : ∃ vs, oe.data = .fields vs) (he : PD (X.suite a ((a, oe) :: pn)) e w) (hc : PE (X.suite a ((a, oe) :: pn)) e2 (tC (.ref T))) (hm : X.mg "isinstance" = none) (hg : Gl (X.suite a ((a, oe) :: pn)) "isinstance" := by rfl)
    (hs : starEach [e, e2] X.env = (false, eval e X.env) :: starEach [e2] X.env := by rfl) (hs2 : starEach [e2] X.env = [(false, eval e2 X.env)] := by rfl) (hpl : (backTo pos (starEach [e2] X.env)).any (·.1) = false := by rfl) :
    PD (X.suite a ((a, oe) :: pn)) (.Call (.Name "isinstance" p) [e, e2] [] pos) (wIsE X.K a dd C T w) :=
  ⟨fun Wx tk => PE.imp (pe_callB (call_isD hz hf) hg hm (by decide +kernel) (pa_cons (he.run Wx tk) (pa_cons hc pa_nil hs2) hs) (by decide) (by decide) hs hpl) fun σ H Q ⟨W, env, S, Q0, X1, ok, sl, hw, cv, cx⟩ => ⟨W, env, S, _, X1, ok, sl, hw, fun d S1 v W1 H1 h1 s1 ok1 r1 => by
    cases d with
    | exc a' dd' C' g x =>
      obtain ⟨⟨rfl, rfl, rfl, ic⟩, h1⟩ := h1
      obtain ⟨b, e5, h1⟩ := some!_ex h1
      obtain ⟨e1, gs, u, e2, e3, ru⟩ := r1
      subst e1
      exact ⟨.ref T, .ref T, b, gs, rfl, ok1.vis _ _ e2, .own T, ic, e5, cv _ S1 _ W1 H1 h1 s1 ok1 rfl⟩
    | _ => exact h1.elim, cx⟩⟩
theorem pd_isET (hz : Zc (.ref C) (some dd) oe) (hf : ∃ vs, oe.data = .fields vs) (he : PD (X.suite a ((a, oe) :: pn)) e w) (ht : PA (X.suite a ((a, oe) :: pn)) es (tRefs Ts)) (hm : X.mg "isinstance" = none) (hzl : Ts.length ≤ sizeLine) (hg : Gl (X.suite a ((a, oe) :: pn)) "isinstance" := by rfl)
    (hs : starEach [e, .Tuple es kk p2] X.env = (false, eval e X.env) :: starEach [.Tuple es kk p2] X.env := by rfl) (hs2 : starEach [.Tuple es kk p2] X.env = [(false, eval (.Tuple es kk p2) X.env)] := by rfl) (hpl : (backTo pos (starEach [.Tuple es kk p2] X.env)).any (·.1) = false := by rfl) :
    PD (X.suite a ((a, oe) :: pn)) (.Call (.Name "isinstance" p) [e, .Tuple es kk p2] [] pos) (wIsET X.K a dd C Ts w) :=
  ⟨fun Wx tk => PE.imp (pe_callB (call_isDT hz hf) hg hm (by decide +kernel) (pa_cons (he.run Wx tk) (pa_cons (pe_tup ht) pa_nil hs2) hs) (by decide) (by decide) hs hpl) fun σ H Q ⟨W, env, S, Q0, X1, ok, sl, hw, cv, cx⟩ => ⟨W, env, S, _, X1, ok, sl, hw, fun d S1 v W1 H1 h1 s1 ok1 r1 => by
    cases d with
    | exc a' dd' C' g x =>
      obtain ⟨⟨rfl, rfl, rfl, ic⟩, h1⟩ := h1
      obtain ⟨b, e5, h1⟩ := some!_ex h1
      obtain ⟨e1, gs, u, e2, e3, ru⟩ := r1
      subst e1
      refine ⟨by rw [List.length_map]; exact hzl, fun q hq => ?_⟩
      exact ⟨q, _, _, b, gs, rfl, (ok1.newW hq).vis _ _ (same_new (ok1.fresh hq).1 _ _ e2), upd_same, clsv_refs Ts, ic, e5, cv _ S1 _ _ _ h1 (s1.trans (ok1.stW hq)) (ok1.newW (o := .tup (Ts.map V.ref)) hq) rfl⟩
    | _ => exact h1.elim, cx⟩⟩
end
end DL
set_option Elab.async false
set_option linter.all false
set_option maxRecDepth 100000
set_option maxHeartbeats 1000000
/-! The data layer, part n: contracts of defs called by keyword. -/
namespace DL
open PySem PySem.Spec PyProof.Rows L2
def DefAtK (K : PySem.W.Frag) (mg : Str → Option Value) (x qual : Str) (st : Stmt) (ps ks : List Str) (n m : Nat) (perm : List Nat) : Prop := ∃ f fd, Fun K x qual st f fd ∧ mg x = some (.ref f) ∧ KBinds K fd ps ks (fun us ws => pickK n m perm us ws) (fun us ws => pickK n m perm us ws)
def FnCK (P : Program) (w : World) (K : PySem.W.Frag) (mg : Str → Option Value) (base : Heap) (k : Nat) (x : Str) (ps ks : List Str) (n m : Nat) (perm : List Nat) (spec : Ctr) : Prop :=
  ∃ f fd, FnD P w K mg base k f fd ps spec ∧ mg x = some (.ref f) ∧ PySem.W.keepIn K (.ref f) = true ∧ KBinds K fd ps ks (fun us ws => pickK n m perm us ws) (fun us ws => pickK n m perm us ws)
theorem FnCK.mk {P : Program} {w : World} {K : PySem.W.Frag} {mg : Str → Option Value} {base : Heap} {x qual : Str} {st : Stmt} {N ps ks : List Str} {k n m : Nat} {perm : List Nat} {spec : Ctr} {ws : WPs} (D : DefAtK K mg x qual st ps ks n m perm) (S : FnScope N ps (defScope st)) (hle : ps.length ≤ N.length)
    (len : ∀ ds S Q E, spec ds S Q E → ds.length = ps.length)
    (hd : ∀ (f : Addr) (cdv : Value) (A : Around) (outer : List Env) (s : Shared) (H : Hp) (E : XK), Room k (A.deeper (envOfC qual (defScope st) s.heap.objs.size f cdv)) → PDss (cxOf (L2.CX P w) P w K mg base N qual (defScope st) f cdv A outer s H E) (defBody st) ws)
    (hr : ∀ ds S Q X1, spec ds S Q X1 → ws (startD N ds) S (endQ Q X1)) : FnCK P w K mg base (k + 1) x ps ks n m perm spec := by
  obtain ⟨f, fd, F, hm, hb⟩ := D
  exact ⟨f, fd, fnd_mk F S hle len hd hr, hm, F.kp, hb⟩
section
variable {X : Cx} {x : Str} {p pos : Pos} {e : Expr} {es : List Expr} {kws : List Keyword} {wa wk : WPa} {k n m : Nat} {perm : List Nat} {ps ks : List Str} {spec : Ctr}
theorem pd_fcK0 (G : FnCK X.prog X.w X.K X.mg X.base k x ps ks 0 m perm spec) (hr : Room k X.A) (hkw : PDk X kws wk)
    (hg : Gl X x := by rfl) (hdb : (x == ("__debug__" : Str)) = false := by decide) (hall : (backToKw pos (keywordEach kws X.env)).all (·.1.isSome) = true := by rfl) (hks : (backToKw pos (keywordEach kws X.env)).filterMap (·.1) = ks := by rfl)
    (hpl : ((backTo pos (starEach [] X.env)).any (·.1) || (backToKw pos (keywordEach kws X.env)).any (·.1.isNone)) = false := by rfl) : PD X (.Call (.Name x p) [] kws pos) (wCallK spec 0 m perm wNil wk) := by
  obtain ⟨f, fd, F, hm, hk, hb⟩ := G
  exact pd_fnK0 F hm hk hb hr hkw hg hdb hall hks hpl
theorem pd_fcK (G : FnCK X.prog X.w X.K X.mg X.base k x ps ks n m perm spec) (hr : Room k X.A) (ha : PDa X (e :: es) wa) (hkw : PDk X kws wk)
    (hg : Gl X x := by rfl) (hdb : (x == ("__debug__" : Str)) = false := by decide) (hall : (backToKw pos (keywordEach kws X.env)).all (·.1.isSome) = true := by rfl) (hks : (backToKw pos (keywordEach kws X.env)).filterMap (·.1) = ks := by rfl)
    (he : starEach (e :: es) X.env = (false, eval e X.env) :: starEach es X.env := by rfl)
    (hpl : ((backTo pos (starEach (e :: es) X.env)).any (·.1) || (backToKw pos (keywordEach kws X.env)).any (·.1.isNone)) = false := by rfl) : PD X (.Call (.Name x p) (e :: es) kws pos) (wCallK spec n m perm wa wk) := by
  obtain ⟨f, fd, F, hm, hk, hb⟩ := G
  exact pd_fnK F hm hk hb hr ha hkw hg hdb hall hks he hpl
end
end DL
set_option Elab.async false
set_option linter.all false
set_option maxRecDepth 100000
set_option maxHeartbeats 1000000
/-! The data layer, part o: what later laws want. -/
namespace DL
open PySem PySem.Spec PyProof.Rows L2
/-- + of lists, made to change -/
def oAddM : O2 := fun S x y Q => some! (seqM S x) fun xs => some! (seqM S y) fun ys => xs.length + ys.length ≤ sizeLine ∧ ∀ p, S p = none → Q (.ref p) (put S p (.lst (xs ++ ys)))
theorem opd_addM {X : Cx} : OpR X (binaryOp .Add) (lOp X.K oAddM) := fun pins s σ H x y v u Q I rx ry h => by
  obtain ⟨W, S, a, b, Q0, ok, ra, rb, ho, cv⟩ := h
  obtain ⟨xs, e1, z⟩ := some!_ex ho
  obtain ⟨ys, e2, hz, z⟩ := some!_ex z
  obtain ⟨p, vs, rfl, hp, r1⟩ := seqM_rep ok ra e1
  obtain ⟨q, ws, rfl, hq, r2⟩ := seqM_rep ok rb e2
  refine op_cat pins s σ H _ _ v u Q I rx ry ⟨p, q, vs, ws, rfl, rfl, hp, hq, by rw [r1.length, r2.length]; exact hz, fun o no => ?_⟩
  have n := ok.fresh no
  exact cv _ _ _ _ _ (z o n.2) (ok.stS no) (ok.newS no ⟨_, rfl, r1.append r2⟩) rfl
/-! ### own exception classes: what the written part tells -/
theorem kitc_of {K : PySem.W.Frag} {C S : Addr} {b : Bool} (h2 : PySem.W.isClsIn K S = true) (h3 : PySem.W.typeIn K (.ref S) = some (.type "type")) (h4 : PySem.W.subIn K (.ref C) (.ref S) = some b) : PySem.W.kitCls K (.ref C) (.ref S) = some b := by
  have e2 : ((PySem.W.clsIn K S).isSome && PySem.W.typeIn K (.ref S) == some (.type "type")) = true := by
    have h2' : (PySem.W.clsIn K S).isSome = true := h2
    rw [h2', h3] <;> rfl
  show (if ((PySem.W.clsIn K S).isSome && PySem.W.typeIn K (.ref S) == some (.type "type")) = true then PySem.W.subIn K (.ref C) (.ref S) else none) = some b
  rw [if_pos e2]
  exact h4
theorem exm_of {K : PySem.W.Frag} {C S : Addr} {b : Bool} (h1 : PySem.W.subIn K (.ref S) (.type "BaseException") = some true) (h2 : PySem.W.isClsIn K S = true) (h3 : PySem.W.typeIn K (.ref S) = some (.type "type")) (h4 : PySem.W.subIn K (.ref C) (.ref S) = some b) : PySem.W.exmOne K (.ref C) (.ref S) = some b := by
  have e1 : (PySem.W.subIn K (.ref S) (.type "BaseException") == some true) = true := by rw [h1] <;> rfl
  show (if (PySem.W.subIn K (.ref S) (.type "BaseException") == some true) = true then PySem.W.kitCls K (.ref C) (.ref S) else none) = some b
  rw [if_pos e1]
  exact kitc_of h2 h3 h4
theorem kit_self {K : PySem.W.Frag} {C : Addr} : PySem.W.kitOne K (.ref C) (.ref C) = some true := by
  unfold PySem.W.kitOne
  rw [if_pos (by simp)]
theorem kit_of {K : PySem.W.Frag} {C S : Addr} {b : Bool} (hne : C ≠ S) (h2 : PySem.W.isClsIn K S = true) (h3 : PySem.W.typeIn K (.ref S) = some (.type "type")) (h4 : PySem.W.subIn K (.ref C) (.ref S) = some b) : PySem.W.kitOne K (.ref C) (.ref S) = some b := by
  unfold PySem.W.kitOne
  rw [if_neg fun z => hne (Value.ref.inj (beq_iff_eq.mp z))]
  exact kitc_of h2 h3 h4
theorem kitn_nil {K : PySem.W.Frag} {t : Value} : PySem.W.kitAny K t [] = some false := rfl
theorem kitn_cons {K : PySem.W.Frag} {t c : Value} {r : List Value} {b : Bool} (h1 : PySem.W.kitOne K t c = some false) (h2 : PySem.W.kitAny K t r = some b) : PySem.W.kitAny K t (c :: r) = some b := by
  show (match PySem.W.kitOne K t c with | some true => some true | some false => PySem.W.kitAny K t r | none => none) = some b
  rw [h1]; exact h2
theorem kitn_here {K : PySem.W.Frag} {t c : Value} {r : List Value} (h1 : PySem.W.kitOne K t c = some true) : PySem.W.kitAny K t (c :: r) = some true := by
  show (match PySem.W.kitOne K t c with | some true => some true | some false => PySem.W.kitAny K t r | none => none) = some true
  rw [h1]
end DL
set_option Elab.async false
set_option linter.all false
set_option maxRecDepth 100000
set_option maxHeartbeats 1000000
/-! The data layer, part p: dicts whose keys are tuples (of ints, bools, None and of such tuples). -/
namespace DL
open PySem PySem.Spec PyProof.Rows L2
mutual
theorem khash_eq (w : World) : ∀ {d : D} {k : NestedKey}, nkD d = some k → k.hash w = khash k
  | .non, k, h => by cases h; rfl
  | .bl _, k, h => by cases h; rfl
  | .int _, k, h => by cases h; rfl
  | .tup xs, k, h => by
    have h' : (nksD xs).map NestedKey.tup = some k := h
    obtain ⟨ks, e1, e2⟩ := Option.map_eq_some_iff.mp h'
    subst e2
    show reduceHash (Builtin.Tuple.tupleHashOf (NestedKey.hashes w ks)) = reduceHash (Builtin.Tuple.tupleHashOf (khashes ks))
    rw [khashes_eq w e1]
  | .str _, _, h => by cases h
  | .ref _, _, h => by cases h
  | .lst _, _, h => by cases h
  | .fro _, _, h => by cases h
  | .obj _ _ _, _, h => by cases h
  | .exc _ _ _ _ _, _, h => by cases h
theorem khashes_eq (w : World) : ∀ {ds : List D} {ks : List NestedKey}, nksD ds = some ks → NestedKey.hashes w ks = khashes ks
  | [], ks, h => by cases h; rfl
  | d :: r, ks, h => by
    have h' : ((nkD d).bind fun k => (nksD r).map (k :: ·)) = some ks := h
    obtain ⟨k, e1, e2⟩ := Option.bind_eq_some_iff.mp h'
    obtain ⟨ks', e3, e4⟩ := Option.map_eq_some_iff.mp e2
    subst e4
    show NestedKey.hash w k :: NestedKey.hashes w ks' = khash k :: khashes ks'
    rw [khash_eq w e1, khashes_eq w e3]
end
section
variable {X : Cx} {pins : List (Addr × Obj)} {σ : L2.St} {H W : Hp} {s : Shared}
mutual
theorem nest_of (I : L2.Inv X pins σ H s) (e : Same W H) : ∀ {d : D} {v : V} {u : Value} {k : NestedKey}, Rep X.K W d v → RelV v u → nkD d = some k → NestedIs s.heap k u
  | .non, v, u, k, r, ru, h => by
    cases h
    rw [show v = V.non from r] at ru
    rw [show u = Value.none from ru]; exact .none
  | .bl b, v, u, k, r, ru, h => by
    cases h
    rw [show v = V.bl b from r] at ru
    rw [show u = Value.bool b from ru]; exact .bool rfl
  | .int i, v, u, k, r, ru, h => by
    cases h
    rw [show v = V.int i from r] at ru
    obtain ⟨t, ht⟩ := (show ∃ t, u = Value.int i t from ru)
    rw [ht]; exact .int i t
  | .tup xs, v, u, k, r, ru, h => by
    have h' : (nksD xs).map NestedKey.tup = some k := h
    obtain ⟨ks, e1, e2⟩ := Option.map_eq_some_iff.mp h'
    subst e2
    obtain ⟨a, vs, rfl, hq, rv⟩ := r
    obtain rfl : u = Value.ref a := ru
    obtain ⟨its, rvs, ⟨o, ho, hc, n, hd⟩, hz⟩ := I.tuple (sqT_mono e hq)
    exact .tup ho hc hd (nests_of I e rv rvs e1)
  | .str _, _, _, _, _, _, h => by cases h
  | .ref _, _, _, _, _, _, h => by cases h
  | .lst _, _, _, _, _, _, h => by cases h
  | .fro _, _, _, _, _, _, h => by cases h
  | .obj _ _ _, _, _, _, _, _, h => by cases h
  | .exc _ _ _ _ _, _, _, _, _, _, h => by cases h
theorem nests_of (I : L2.Inv X pins σ H s) (e : Same W H) : ∀ {ds : List D} {vs : List V} {us : List Value} {ks : List NestedKey}, Reps X.K W ds vs → Vals vs us → nksD ds = some ks → NestedAll s.heap ks us
  | [], vs, us, ks, r, rv, h => by
    cases h
    rw [show vs = [] from r] at rv
    cases rv
    exact .nil
  | d :: ds, vs, us, ks, ⟨v, r, e1, e2, e3⟩, rv, h => by
    subst e1
    cases rv with
    | cons r1 r2 =>
      have h' : ((nkD d).bind fun k => (nksD ds).map (k :: ·)) = some ks := h
      obtain ⟨k, g1, g2⟩ := Option.bind_eq_some_iff.mp h'
      obtain ⟨ks', g3, g4⟩ := Option.map_eq_some_iff.mp g2
      subst g4
      exact .cons (nest_of I e e2 r1 g1) (nests_of I e e3 r2 g3)
end
theorem DN.length {K : PySem.W.Frag} : ∀ {kvs : List (D × D)} {xs : List (NestedKey × Addr × Value)}, DN K W kvs xs → xs.length = kvs.length
  | [], xs, h => by rw [show xs = [] from h]; rfl
  | _ :: _, _, ⟨k, b, u, v, r', e1, _, _, _, e6⟩ => by rw [e1, List.length_cons, List.length_cons, DN.length e6]
theorem DN.mem {K : PySem.W.Frag} : ∀ {kvs : List (D × D)} {xs : List (NestedKey × Addr × Value)}, DN K W kvs xs → ∀ x, x ∈ xs → ∃ kd, (nkD kd = some x.1 ∧ x.1.depth ≤ 8) ∧ Rep K W kd (.ref x.2.1)
  | [], xs, h, x, hx => by rw [show xs = [] from h] at hx; cases hx
  | p :: _, _, ⟨k, b, u, v, r', e1, e2, e3, _, e6⟩, x, hx => by
    subst e1
    cases hx with
    | head => exact ⟨p.1, e2, e3⟩
    | tail _ hx => exact DN.mem e6 x hx
/-- the dict's object, as the kit's rules want it -/
theorem dict_at {S : Sto} {a : Addr} {kvs : List (D × D)} (I : L2.Inv X pins σ H s) (ok : Ok X.K W S H) (hS : S a = some (.dN a kvs)) :
    ∃ xs, H a = some (.ext (dnP a xs)) ∧ DN X.K W kvs xs ∧ (kvs.length ≤ sizeLine ∧ (a == sysModules) = false ∧ (xs.map (·.1)).Nodup) ∧ s.heap.DictOfH (nestedKind X.prog X.w) a xs := by
  obtain ⟨o, h1, xs, h2, h3, h4⟩ := ok.sto _ _ hS
  subst h2
  obtain ⟨⟨ob, es, ep, g1, g2, g3, g4⟩, _, _⟩ := (show ObjOk X.prog X.w H s.heap a (.ext (dnP a xs)) from I.hok a _ h1)
  refine ⟨xs, h1, h4, h3, ob, es, ep, g1, g2, g3, ?_, fun x hx => ?_, h3.2.2⟩
  · rw [g4]
    refine List.map_congr_left fun x hx => ?_
    obtain ⟨kd, ⟨q1, _⟩, _⟩ := DN.mem h4 x hx
    show (⟨khash x.1, .ref x.2.1, x.2.2⟩ : DictEntry) = ⟨x.1.hash X.w, .ref x.2.1, x.2.2⟩
    rw [khash_eq X.w q1]
  · obtain ⟨kd, ⟨q1, q2⟩, q3⟩ := DN.mem h4 x hx
    exact ⟨nest_of I ok.vis q3 rfl q1, q2⟩
/-- what the dict holds at a key -/
def fndN (kvs : List (D × D)) (k : NestedKey) : Option D := match kvs with
  | [] => none
  | p :: r => if nkD p.1 = some k then some p.2 else fndN r k
def putN (kvs : List (D × D)) (k : NestedKey) (i d : D) : List (D × D) := if (fndN kvs k).isSome = true then kvs.map fun p => if nkD p.1 = some k then (p.1, d) else p else kvs ++ [(i, d)]
theorem at_cons {x : NestedKey × Addr × Value} {xs : List (NestedKey × Addr × Value)} {k : NestedKey} : atKey (x :: xs) k = if x.1 = k then some x.2 else atKey xs k := by
  unfold atKey
  rw [List.find?_cons]
  by_cases e : x.1 = k
  · rw [decide_eq_true e, if_pos e]; rfl
  · rw [decide_eq_false e, if_neg e]
theorem DN.find {K : PySem.W.Frag} {k : NestedKey} : ∀ {kvs : List (D × D)} {xs : List (NestedKey × Addr × Value)}, DN K W kvs xs → (fndN kvs k = none ∧ atKey xs k = none) ∨ ∃ d b u v, fndN kvs k = some d ∧ atKey xs k = some (b, u) ∧ Rep K W d v ∧ RelV v u
  | [], xs, h => by rw [show xs = [] from h]; exact .inl ⟨rfl, rfl⟩
  | p :: r, _, ⟨k', b, u, v, r', e1, ⟨e2, _⟩, e3, ⟨e4, e5⟩, e6⟩ => by
    subst e1
    rw [at_cons]
    by_cases e : k' = k
    · subst e
      exact .inr ⟨p.2, b, u, v, by unfold fndN; rw [if_pos e2], if_pos rfl, e4, e5⟩
    · rw [if_neg e]
      have : fndN (p :: r) k = fndN r k := by
        show (if nkD p.1 = some k then some p.2 else fndN r k) = _
        rw [if_neg (by rw [e2]; exact fun z => e (Option.some.inj z))]
      rw [this]
      exact DN.find e6
/-- a key -/
def keyD (d : D) : Option NestedKey := match d with
  | .tup xs => (nkD (.tup xs)).bind fun k => if k.depth ≤ 8 then some k else none
  | _ => none
theorem keyD_ex {d : D} {k : NestedKey} (h : keyD d = some k) : (nkD d = some k ∧ k.depth ≤ 8) ∧ ∃ xs, d = .tup xs := by
  cases d with
  | tup xs =>
    have h' : ((nkD (.tup xs)).bind fun k => if k.depth ≤ 8 then some k else none) = some k := h
    obtain ⟨k', e1, e2⟩ := Option.bind_eq_some_iff.mp h'
    by_cases q : k'.depth ≤ 8
    · rw [if_pos q] at e2; cases e2; exact ⟨⟨e1, q⟩, _, rfl⟩
    · rw [if_neg q] at e2; cases e2
  | _ => cases h
def dnAt (S : Sto) (y : D) (k : Addr → List (D × D) → Prop) : Prop := match y with
  | .ref a => match S a with
    | some (.dN a' kvs) => a' = a ∧ k a kvs
    | _ => False
  | _ => False
theorem dnAt_ex {S : Sto} {y : D} {k : Addr → List (D × D) → Prop} (h : dnAt S y k) : ∃ a kvs, y = .ref a ∧ S a = some (.dN a kvs) ∧ k a kvs := by
  cases y with
  | ref a =>
    have h' : (match S a with | some (.dN a' kvs) => a' = a ∧ k a kvs | _ => False) := h
    cases q : S a with
    | none => rw [q] at h'; exact h'.elim
    | some m =>
      rw [q] at h'
      cases m with
      | dN a' kvs => obtain ⟨rfl, h'⟩ := h'; exact ⟨_, kvs, rfl, q, h'⟩
      | _ => exact h'.elim
  | _ => exact h.elim
theorem dnAt_mk {S : Sto} {a : Addr} {kvs : List (D × D)} {k : Addr → List (D × D) → Prop} (h : S a = some (.dN a kvs)) (q : k a kvs) : dnAt S (.ref a) k := by
  show (match S a with | some (.dN a' kvs) => a' = a ∧ k a kvs | _ => False)
  rw [h]
  exact ⟨rfl, q⟩
def oInN (neg : Bool) : O2 := fun S x y Q => dnAt S y fun _ kvs => some! (keyD x) fun k => Q (.bl (if neg = true then !(fndN kvs k).isSome else (fndN kvs k).isSome)) S
theorem room_in1 {A : Around} (hu : A.units + 64 < cLine) : (nestedKind X.prog X.w).room A.in1 := by
  show A.in1.units + 8 < cLine
  have : A.in1.units ≤ A.units + 1 := by first | exact Nat.le_refl _ | (unfold Around.in1; split <;> simp) | (show _ ≤ _; simp [Around.in1, Around.units])
  omega
theorem DN.some_eq {K : PySem.W.Frag} {k : NestedKey} {kvs : List (D × D)} {xs : List (NestedKey × Addr × Value)} (h : DN K W kvs xs) : (fndN kvs k).isSome = (atKey xs k).isSome := by
  rcases h.find (k := k) with ⟨e1, e2⟩ | ⟨d, b, u, v, e1, e2, _⟩ <;> rw [e1, e2] <;> rfl
end
theorem opd_inN {X : Cx} (hu : X.A.units + 64 < cLine) : OpR X (compareOp .In) (lOp X.K (oInN false)) := fun pins s σ H x y v u Q I rx ry h => by
  obtain ⟨W, S, a, b, Q0, ok, ra, rb, ho, cv⟩ := h
  obtain ⟨p, kvs, rfl, hS, ho⟩ := dnAt_ex ho
  obtain ⟨k, hk, hq0⟩ := some!_ex ho
  obtain ⟨⟨k1, k2⟩, xs, rfl⟩ := keyD_ex hk
  obtain ⟨es, h1, dn, ⟨z1, z2, z3⟩, dd⟩ := dict_at I ok hS
  obtain ⟨q, vs, rfl, hq, rv⟩ := id ra
  obtain rfl : v = Value.ref q := rx
  rw [show y = V.ref p from rb] at ry
  obtain rfl : u = Value.ref p := ry
  refine wpAny_in_heap (room_in1 hu) ⟨nest_of I ok.vis ra rfl k1, k2⟩ z2 dd ?_
  rw [← dn.some_eq]
  exact ⟨.bl (fndN kvs k).isSome, H, I.tok _, rfl, cv (.bl (fndN kvs k).isSome) S _ W H (by simpa using hq0) Stp.refl ok rfl⟩
theorem opd_notInN {X : Cx} (hu : X.A.units + 64 < cLine) : OpR X (compareOp .NotIn) (lOp X.K (oInN true)) := fun pins s σ H x y v u Q I rx ry h => by
  obtain ⟨W, S, a, b, Q0, ok, ra, rb, ho, cv⟩ := h
  obtain ⟨p, kvs, rfl, hS, ho⟩ := dnAt_ex ho
  obtain ⟨k, hk, hq0⟩ := some!_ex ho
  obtain ⟨⟨k1, k2⟩, xs, rfl⟩ := keyD_ex hk
  obtain ⟨es, h1, dn, ⟨z1, z2, z3⟩, dd⟩ := dict_at I ok hS
  obtain ⟨q, vs, rfl, hq, rv⟩ := id ra
  obtain rfl : v = Value.ref q := rx
  rw [show y = V.ref p from rb] at ry
  obtain rfl : u = Value.ref p := ry
  refine wpAny_notIn_heap (room_in1 hu) ⟨nest_of I ok.vis ra rfl k1, k2⟩ z2 dd ?_
  rw [← dn.some_eq]
  exact ⟨.bl (!(fndN kvs k).isSome), H, I.tok _, rfl, cv (.bl (!(fndN kvs k).isSome)) S _ W H (by simpa using hq0) Stp.refl ok rfl⟩
end DL
set_option Elab.async false
set_option linter.all false
set_option maxRecDepth 100000
set_option maxHeartbeats 1000000
/-! The data layer, part q: dicts with tuple keys: written, made, read. -/
namespace DL
open PySem PySem.Spec PyProof.Rows L2
section
variable {X : Cx} {pins : List (Addr × Obj)} {σ : L2.St} {H W : Hp} {s : Shared}
theorem DN.snoc {K : PySem.W.Frag} {i d : D} {k : NestedKey} {b : Addr} {u : Value} {v : V} (hk : nkD i = some k ∧ k.depth ≤ 8) (ri : Rep K W i (.ref b)) (rd : Rep K W d v ∧ RelV v u) : ∀ {kvs : List (D × D)} {xs : List (NestedKey × Addr × Value)}, DN K W kvs xs → DN K W (kvs ++ [(i, d)]) (xs ++ [(k, b, u)])
  | [], xs, h => by rw [show xs = [] from h]; exact ⟨k, b, u, v, [], rfl, hk, ri, rd, rfl⟩
  | p :: r, _, ⟨k', b', u', v', r', e1, e2, e3, e4, e6⟩ => by
    subst e1
    exact ⟨k', b', u', v', _, rfl, e2, e3, e4, DN.snoc hk ri rd e6⟩
theorem DN.upd {K : PySem.W.Frag} {d : D} {k : NestedKey} {u : Value} {v : V} (rd : Rep K W d v ∧ RelV v u) : ∀ {kvs : List (D × D)} {xs : List (NestedKey × Addr × Value)}, DN K W kvs xs →
    DN K W (kvs.map fun p => if nkD p.1 = some k then (p.1, d) else p) (xs.map (putAt k u))
  | [], xs, h => by rw [show xs = [] from h]; rfl
  | p :: r, _, ⟨k', b', u', v', r', e1, e2, e3, e4, e6⟩ => by
    subst e1
    rw [List.map_cons, List.map_cons]
    by_cases e : k' = k
    · subst e
      rw [if_pos e2.1]
      refine ⟨k', b', u, v, _, ?_, e2, e3, rd, DN.upd rd e6⟩
      rw [show putAt k' u (k', b', u') = (k', b', u) from if_pos rfl]
    · rw [if_neg (by rw [e2.1]; exact fun z => e (Option.some.inj z))]
      refine ⟨k', b', u', v', _, ?_, e2, e3, e4, DN.upd rd e6⟩
      rw [show putAt k u (k', b', u') = (k', b', u') from if_neg e]
theorem DN.put {K : PySem.W.Frag} {i d : D} {k : NestedKey} {b : Addr} {u : Value} {v : V} {kvs : List (D × D)} {xs : List (NestedKey × Addr × Value)} (h : DN K W kvs xs) (hk : nkD i = some k ∧ k.depth ≤ 8) (ri : Rep K W i (.ref b)) (rd : Rep K W d v ∧ RelV v u) :
    DN K W (putN kvs k i d) (storedH xs k b u) := by
  unfold putN storedH
  rw [h.some_eq (k := k)]
  by_cases e : (atKey xs k).isSome = true
  · rw [if_pos e, if_pos e]; exact h.upd rd
  · rw [if_neg e, if_neg e]; exact h.snoc hk ri rd
theorem putN_len {kvs : List (D × D)} {k : NestedKey} {i d : D} : (putN kvs k i d).length ≤ kvs.length + 1 := by
  unfold putN
  split
  · rw [List.length_map]; omega
  · rw [List.length_append]; exact Nat.le_refl _
/-- the object of a dict, told by its entries -/
theorem dn_obj {P : Program} {w : World} {H' : Hp} {h' : Heap} {a : Addr} {kvs : List (D × D)} {xs : List (NestedKey × Addr × Value)} (dn : DN X.K W kvs xs) (dd : h'.DictOfH (nestedKind P w) a xs) : ObjOk P w H' h' a (.ext (dnP a xs)) := by
  obtain ⟨o, es, ep, h1, h2, h3, h4, _, _⟩ := dd
  refine ⟨⟨o, es, ep, h1, h2, h3, ?_⟩, ⟨o, h1⟩, fun k1 k2 ⟨o', es', ep', g1, g2⟩ e => ⟨o', es', ep', e _ g1, g2⟩⟩
  rw [h4]
  refine List.map_congr_left fun x hx => ?_
  obtain ⟨kd, ⟨q1, _⟩, _⟩ := DN.mem dn x hx
  show (⟨x.1.hash w, .ref x.2.1, x.2.2⟩ : DictEntry) = ⟨khash x.1, .ref x.2.1, x.2.2⟩
  rw [khash_eq w q1]
/-- o[i] = e for a dict with tuple keys -/
def setN (S : Sto) (o i d : D) (k : Sto → Prop) : Prop := dnAt S o fun a kvs => some! (keyD i) fun key => kvs.length < sizeLine ∧ k (DL.put S a (.dN a (putN kvs key i d)))
def wSetN (wo wi we : WPe) : WPs := fun env S q => we env S (fun d S1 => wo env S1 (fun o S2 => wi env S2 (fun i S3 => setN S3 o i d fun S4 => q.nx env S4) (xcQ q env)) (xcQ q env)) (xcQ q env)
def lSetN (K : PySem.W.Frag) : TSet := fun o i v H Q => ∃ W S od id vd k, Ok K W S H ∧ Rep K W od o ∧ Rep K W id i ∧ Rep K W vd v ∧ setN S od id vd k ∧ ∀ S' H', k S' → Stp W S H W S' H' → Ok K W S' H' → Q H'
theorem set_N (hu : X.A.units + 64 < cLine) : PSet X (lSetN X.K) := by
  intro pins s σ H o i v ov iv u Q I ro ri rv ⟨W, S, od, id_, vd, k, ok, r1, r2, r3, hs, hq⟩
  obtain ⟨a, kvs, rfl, hS, hs⟩ := dnAt_ex hs
  obtain ⟨key, hk, hz, hk2⟩ := some!_ex hs
  obtain ⟨⟨k1, k2⟩, xs0, rfl⟩ := keyD_ex hk
  rw [show o = V.ref a from r1] at ro
  obtain rfl : ov = Value.ref a := ro
  obtain ⟨b, vs, rfl, hq0, rv0⟩ := id r2
  obtain rfl : iv = Value.ref b := ri
  obtain ⟨xs, h1, dn, ⟨z1, z2, z3⟩, dd⟩ := dict_at I ok hS
  have hl := dn.length
  have hlN : (putN kvs key (.tup xs0) vd).length ≤ kvs.length + 1 := putN_len
  refine wpAny_setItem_heap (hsz := by omega) (room_in1 hu) ⟨nest_of I ok.vis r2 rfl k1, k2⟩ dd fun h' dd' hsb => ?_
  have dn' := dn.put ⟨k1, k2⟩ r2 ⟨r3, rv⟩
  have he : ∃ q, h'.get? a = some q := let ⟨q, _, _, hq, _⟩ := dd'; ⟨q, hq⟩
  refine ⟨L2.upd H a (.ext (dnP a (storedH xs key b u))), d_write I (by rw [h1]; exact True.intro) hsb he (dn_obj dn' dd'), hq _ _ hk2 (ok.stC hS) (ok.chg hS ⟨_, rfl, ⟨by omega, z2, ?_⟩, dn'⟩)⟩
  obtain ⟨_, _, _, _, _, _, _, _, nd⟩ := dd'
  exact nd
theorem pds_setN {X : Cx} {o ip e : Expr} {wo wi we : WPe} {pos p2 : Pos} (hu : X.A.units + 64 < cLine) (ho : PD X o wo) (hi : PD X ip wi) (he : PD X e we) (hs : swapsWithSole [.Subscript o ip p2] e pos.line X.env = pure false := by rfl) (hw : swappedStores [.Subscript o ip p2] e X.env = pure none := by rfl)
    (h1 : (assignEach [.Subscript o ip p2] X.env).map (·.2) = [assign (.Subscript o ip p2) X.env] := by rfl)
    (ha : ∀ v, assign (.Subscript o ip p2) X.env v = (do
      let ov ← holding [v] (eval o X.env)
      let iv ← holding [v, ov] (eval ip X.env)
      standAt p2
      holding [v, ov, iv] (setItem ov iv v)
      release [v, ov, iv] []) := by intro _; rfl) : PDs X (.Assign [.Subscript o ip p2] e pos) (wSetN wo wi we) :=
  ⟨fun Wx tk => PS.imp (ps_asg (he.run Wx tk) (pg_sub (ho.run Wx tk) (hi.run Wx tk) (set_N hu) ha) hs hw h1) fun D σ H ⟨W, env, S, q, ok, sl, hl, hw, cs⟩ => ⟨W, env, S, _, _, ok, sl, hw, fun d S1 v W1 H1 h1 s1 ok1 r1 =>
    ⟨W1, env, S1, _, _, ok1, sl.mono s1.vis, h1, fun o1 S2 u W2 H2 h2 s2 ok2 r2 => ⟨W2, env, S2, _, _, ok2, sl.mono (s1.trans s2).vis, h2, fun i1 S3 t W3 H3 h3 s3 ok3 r3 =>
      ⟨W3, S3, o1, i1, d, _, ok3, r2.mono s3.vis, r3, r1.mono (s2.trans s3).vis, h3, fun S4 H4 h4 st4 ok4 => cs.nx _ S4 _ W3 _ h4 (s1.trans (s2.trans (s3.trans st4))) ok4 (sl.mono (s1.trans (s2.trans s3)).vis) hl⟩, CXc.of (cs.mono (s1.trans s2)) (sl.mono (s1.trans s2).vis)⟩, CXc.of (cs.mono s1) (sl.mono s1.vis)⟩, CXc.of cs sl⟩⟩
end
/-- {k: v} -/
def wDict1 (wk wv : WPe) : WPe := fun env S Q X => wk env S (fun kd S1 => wv env S1 (fun vd S2 => some! (keyD kd) fun _ => ∀ p, S2 p = none → Q (.ref p) (DL.put S2 p (.dN p [(kd, vd)]))) X) X
theorem Stp.grow {W : Hp} {S : Sto} {H H1 : Hp} (h : ∀ a o, H a = some o → H1 a = some o) : Stp W S H W S H1 := ⟨Same.refl W, fun a o e h1 h2 => ⟨h a o e, h1, h2⟩⟩
theorem pd_dict1 {X : Cx} {ek ev : Expr} {pos : Pos} {wk wv : WPe} (hu : X.A.units + 64 < cLine) (hk : PD X ek wk) (hv : PD X ev wv) : PD X (.Dict [some ek] [ev] pos) (wDict1 wk wv) := by
  refine ⟨fun Wx tk => ⟨fun pins s σ H Q I h => ?_⟩⟩
  obtain ⟨W, env, S, Q0, X1, ok, sl, hw, cv, cx⟩ := h
  refine wpAny_Dict_any rfl rfl (by simp) (by show 1 ≤ 15; omega) ?_
  have hp : H s.heap.objs.size = none := I.hok.fresh (Nat.le_refl _)
  have hnm : (s.heap.objs.size == sysModules) = false := beq_eq_false_iff_ne.mpr (Ne.symm (Nat.ne_of_lt I.big))
  have new0 : ∀ H', ObjOk X.prog X.w H' (s.heap.push { cls := .type "dict", data := .dict #[] }) s.heap.objs.size (.ext (dnP s.heap.objs.size [])) := fun H' =>
    ⟨⟨_, #[], 0, Heap.get?_push_size _ rfl, ⟨rfl, rfl, rfl⟩, rfl, rfl⟩, ⟨_, Heap.get?_push_size _ rfl⟩, fun k1 k2 ⟨o', es', ep', g1, g2⟩ e => ⟨o', es', ep', e _ g1, g2⟩⟩
  have I1 := I.laid (a := s.heap.objs.size) (o := .ext (dnP s.heap.objs.size [])) (t' := s.toks) (fun _ _ q => Heap.get?_push_of_some _ q) (Nat.le_refl _) (new0 _)
  generalize s.heap.objs.size = p at hp hnm I1
  obtain ⟨hW, hS⟩ := ok.fresh hp
  have ok1 := ok.junk (o := .ext (dnP p [])) hp
  have st1 := ok.stJ (o := .ext (dnP p [])) hp
  show wpAny _ _ (evalPairs [(eval ek X.env, do let x ← eval ev X.env; standAt pos; pure x)]) _ _ _
  refine evalPairs_cons ?_
  refine thn ((hk.run Wx tk).run pins _ σ _ _ I1 ⟨W, env, S, _, X1, ok1, sl, hw, fun kd S2 v2 W2 H2 h2 s2 ok2 r2 => (⟨W2, S2, kd, h2, s2, ok2, r2⟩ : ∃ W2 S2 kd, (fun kd S1 => wv env S1 (fun vd S2 => some! (keyD kd) fun _ => ∀ p, S2 p = none → Q0 (.ref p) (DL.put S2 p (.dN p [(kd, vd)]))) X1) kd S2 ∧ Stp W S (L2.upd H p (.ext (dnP p []))) W2 S2 H2 ∧ Ok X.K W2 S2 H2 ∧ Rep X.K W2 kd v2), cx.mono st1⟩) ?_
  rintro uk s2 ⟨vk, H2, I2, rk, W2, S2, kd, h2, st2, ok2, r2⟩
  refine wpAny_bind (thn ((hv.run Wx tk).run pins _ σ _ _ I2 ⟨W2, env, S2, _, X1, ok2, sl.mono st2.vis, h2, fun vd S3 v3 W3 H3 h3 s3 ok3 r3 => (⟨W3, S3, vd, h3, s3, ok3, r3⟩ : ∃ W3 S3 vd, (fun vd S2 => some! (keyD kd) fun _ => ∀ p, S2 p = none → Q0 (.ref p) (DL.put S2 p (.dN p [(kd, vd)]))) vd S3 ∧ Stp W2 S2 H2 W3 S3 H3 ∧ Ok X.K W3 S3 H3 ∧ Rep X.K W3 vd v3), cx.mono (st1.trans st2)⟩) ?_)
  rintro uv s3 ⟨vv, H3, I3, rv, W3, S3, vd, h3, st3, ok3, r3⟩
  refine wpAny_bind (wpAny_standAt (wpAny_pure ?_))
  refine evalPairs_nil ?_
  obtain ⟨key, hkey, hq⟩ := some!_ex h3
  obtain ⟨⟨k1, k2⟩, xs0, rfl⟩ := keyD_ex hkey
  have r2' := r2.mono st3.vis
  obtain ⟨b, vs, rfl, hq0, rv0⟩ := id r2'
  obtain rfl : uk = Value.ref b := rk
  have stA := (st2.trans st3)
  obtain ⟨e1, e2, e3⟩ := stA.frm p _ upd_same hW hS
  obtain ⟨⟨ob, es, ep, g1, g2, g3, g4⟩, _, _⟩ := (show ObjOk X.prog X.w H3 s3.heap p (.ext (dnP p [])) from I3.hok p _ e1)
  have dd : s3.heap.DictOfH (nestedKind X.prog X.w) p [] := ⟨ob, es, ep, g1, g2, g3, g4, (fun x hx => by cases hx), List.nodup_nil⟩
  show wpAny _ _ (storeAll p [(Value.ref b, uv)]) _ _ _
  unfold storeAll
  rw [List.forIn_cons]
  refine wpAny_bind (wpAny_bind (wpAny_dictSet_heap (knd := nestedKind X.prog X.w) (hsz := Nat.zero_le _) (show X.A.units + 8 < cLine by omega) ⟨nest_of I3 ok3.vis r2' rfl k1, k2⟩ dd fun h' dd' hsb => wpAny_pure ?_))
  dsimp only
  rw [List.forIn_nil]
  refine wpAny_pure ?_
  have dn' : DN X.K W3 [(.tup xs0, vd)] (storedH [] key b uv) := ⟨key, b, uv, vv, [], rfl, ⟨k1, k2⟩, r2', ⟨r3, rv⟩, rfl⟩
  have he : ∃ q, h'.get? p = some q := let ⟨q, _, _, hq, _⟩ := dd'; ⟨q, hq⟩
  have I4 := d_write (t' := s3.toks + (nestedKind X.prog X.w).draws key) I3 (by rw [e1]; exact True.intro) hsb he (dn_obj dn' dd')
  obtain ⟨_, _, _, _, _, _, _, _, nd⟩ := dd'
  have stB : Stp W S H W3 S3 H3 := st1.trans stA
  have ok4 := (ok3.out (o := .ext (dnP p (storedH [] key b uv))) e2 e3).own (m := .dN p [(.tup xs0, vd)]) e2 upd_same ⟨_, rfl, ⟨by show 1 ≤ sizeLine; decide, hnm, nd⟩, dn'⟩
  exact ⟨.ref p, _, I4, rfl, cv _ _ _ _ _ (hq p e3) ((stB.own hp).out hp) ok4 rfl⟩
/-- a bool in a list or tuple of bools -/
def oInB : O2 := fun S x y Q => match x with
  | .bl k => some! (seqA S y) fun xs => some! (toBls xs) fun bs => Q (.bl (bs.any fun b => b == k)) S
  | _ => False
def oNotInB : O2 := fun S x y Q => match x with
  | .bl k => some! (seqA S y) fun xs => some! (toBls xs) fun bs => Q (.bl (!(bs.any fun b => b == k))) S
  | _ => False
theorem inV_bl {k : Bool} : ∀ {bs : List Bool}, inV (.bl k) (bs.map V.bl) = (bs.any fun b => b == k) ∧ (bs.map V.bl).all flatV = true
  | [] => ⟨rfl, rfl⟩
  | b :: r => by
    obtain ⟨h1, h2⟩ := inV_bl (k := k) (bs := r)
    refine ⟨?_, h2⟩
    show ((b == k) || inV (.bl k) (r.map V.bl)) = ((b == k) || r.any fun b => b == k)
    rw [h1]
theorem opd_inB {X : Cx} : OpR X (compareOp .In) (lOp X.K oInB) := OpR.imp op_in_seq fun x y H Q ⟨W, S, a, b, Q0, ok, ra, rb, ho, cv⟩ => by
  cases a with
  | bl k =>
    obtain ⟨xs, e1, ho⟩ := some!_ex ho
    obtain ⟨bs, e2, ho⟩ := some!_ex ho
    obtain ⟨p, vs, rfl, hq, r1⟩ := seqA_rep ok rb e1
    have e3 := toBls_rep e2 r1
    subst e3
    have e4 : x = V.bl k := ra
    subst e4
    refine ⟨p, _, rfl, hq, rfl, (inV_bl (k := k)).2, ?_⟩
    rw [inV_bl.1]
    exact cv _ S _ W H ho Stp.refl ok rfl
  | _ => exact ho.elim
theorem opd_notInB {X : Cx} : OpR X (compareOp .NotIn) (lOp X.K oNotInB) := OpR.imp op_notIn_seq fun x y H Q ⟨W, S, a, b, Q0, ok, ra, rb, ho, cv⟩ => by
  cases a with
  | bl k =>
    obtain ⟨xs, e1, ho⟩ := some!_ex ho
    obtain ⟨bs, e2, ho⟩ := some!_ex ho
    obtain ⟨p, vs, rfl, hq, r1⟩ := seqA_rep ok rb e1
    have e3 := toBls_rep e2 r1
    subst e3
    have e4 : x = V.bl k := ra
    subst e4
    refine ⟨p, _, rfl, hq, rfl, (inV_bl (k := k)).2, ?_⟩
    rw [inV_bl.1]
    exact cv _ S _ W H ho Stp.refl ok rfl
  | _ => exact ho.elim
/-- d[k] -/
def oIxN : O2 := fun S x y Q => dnAt S x fun _ kvs => some! (keyD y) fun k => some! (fndN kvs k) fun d => Q d S
end DL
set_option Elab.async false
set_option linter.all false
set_option maxRecDepth 100000
set_option maxHeartbeats 1000000
/-! The data layer, part r: data in a list or tuple of data, the index of data, len of a dict with tuple keys, its d[k]. -/
namespace DL
open PySem PySem.Spec PyProof.Rows L2
theorem dp_lay {K : PySem.W.Frag} {W H : Hp} {S : Sto} (ok : Ok K W S H) {d : D} {v : V} (r : Rep K W d v) (c0 : (toP (resD S d)).canLay0 = true) : Dp K H v (toP (resD S d)) := by
  cases d with
  | ref a =>
    have e : resD S (.ref a) = (match S a with | some (.lst xs) => .lst xs | _ => .ref a) := rfl
    cases q : S a with
    | none => rw [e, q] at c0; cases c0
    | some m =>
      cases m with
      | lst xs =>
        rw [e, q] at c0 ⊢
        obtain ⟨o, e1, vs, e2, e3⟩ := ok.sto _ _ q
        subst e2
        have r' : v = .ref a := r
        subst r'
        exact .lst (SqL.of e1) (dps_of ok.vis e3 c0)
      | _ => rw [e, q] at c0; cases c0
  | _ => exact dp_of ok.vis r c0
def itP : PyData → Option (List PyData)
  | .list xs => some xs
  | .tuple xs => some xs
  | _ => none
/-- how data stands, where it is flat enough to be asked for -/
def layP (S : Sto) (x : D) : Prop := (toP (resD S x)).canLay0 = true ∧ (toP (resD S x)).depth ≤ 8
def hasD (x : PyData) (xs : List PyData) : Bool := xs.any fun y => PyData.eqv y x
def oInD (neg : Bool) : O2 := fun S x y Q => layP S x ∧ (toP (resD S y)).canLay0 = true ∧ some! (itP (toP (resD S y))) fun xs => Q (.bl (if neg = true then !hasD (toP (resD S x)) xs else hasD (toP (resD S x)) xs)) S
theorem opd_inD {X : Cx} (hu : X.A.units + 64 < cLine) : OpR X (compareOp .In) (lOp X.K (oInD false)) := fun pins s σ H x y v u Q I rx ry h => by
  obtain ⟨W, S, a, b, Q0, ok, ra, rb, ⟨⟨h1, h2⟩, h3, h4⟩, cv⟩ := h
  obtain ⟨xs, hxs, ho⟩ := some!_ex h4
  obtain ⟨as, r1⟩ := Dp.reads I _ x v (dp_lay ok ra h1) rx
  obtain ⟨bs, r2⟩ := Dp.reads I _ y u (dp_lay ok rb h3) ry
  have hd := PyData.plain_of_canLay0 _ h1
  generalize toP (resD S a) = da at *
  have fin : ∀ s, L2.Inv X pins σ H s → EP X pins σ Q (.bool (xs.any fun y => PyData.eqv y da)) s := fun s I => ⟨.bl (hasD da xs), H, I, rfl, cv (.bl (hasD da xs)) S _ W H (by simpa using ho) Stp.refl ok rfl⟩
  generalize toP (resD S b) = db at *
  cases db with
  | list ys =>
    cases (show some ys = some xs from hxs)
    have hxs' : PyData.plainAll xs = true := PyData.plainAll_of_canLay0 _ (show PyData.canLayAll0 xs = true from h3)
    exact SeqAt.in_list_data r2 r1 hxs' hd (by have := Nat.min_le_right (PyData.depthAll xs) da.depth; omega) (fin _ I)
  | tuple ys =>
    cases (show some ys = some xs from hxs)
    have hxs' : PyData.plainAll xs = true := PyData.plainAll_of_canLay0 _ (show PyData.canLayAll0 xs = true from h3)
    exact SeqAt.in_tuple_data r2 r1 hxs' hd (by have := Nat.min_le_right (PyData.depthAll xs) da.depth; omega) (fin _ I)
  | _ => cases hxs
theorem opd_notInD {X : Cx} (hu : X.A.units + 64 < cLine) : OpR X (compareOp .NotIn) (lOp X.K (oInD true)) := fun pins s σ H x y v u Q I rx ry h => by
  obtain ⟨W, S, a, b, Q0, ok, ra, rb, ⟨⟨h1, h2⟩, h3, h4⟩, cv⟩ := h
  obtain ⟨xs, hxs, ho⟩ := some!_ex h4
  obtain ⟨as, r1⟩ := Dp.reads I _ x v (dp_lay ok ra h1) rx
  obtain ⟨bs, r2⟩ := Dp.reads I _ y u (dp_lay ok rb h3) ry
  have hd := PyData.plain_of_canLay0 _ h1
  generalize toP (resD S a) = da at *
  have fin : ∀ s, L2.Inv X pins σ H s → EP X pins σ Q (.bool (!xs.any fun y => PyData.eqv y da)) s := fun s I => ⟨.bl (!hasD da xs), H, I, rfl, cv (.bl (!hasD da xs)) S _ W H (by simpa using ho) Stp.refl ok rfl⟩
  generalize toP (resD S b) = db at *
  cases db with
  | list ys =>
    cases (show some ys = some xs from hxs)
    have hxs' : PyData.plainAll xs = true := PyData.plainAll_of_canLay0 _ (show PyData.canLayAll0 xs = true from h3)
    exact SeqAt.notIn_list_data r2 r1 hxs' hd (by have := Nat.min_le_right (PyData.depthAll xs) da.depth; omega) (fin _ I)
  | tuple ys =>
    cases (show some ys = some xs from hxs)
    have hxs' : PyData.plainAll xs = true := PyData.plainAll_of_canLay0 _ (show PyData.canLayAll0 xs = true from h3)
    exact SeqAt.notIn_tuple_data r2 r1 hxs' hd (by have := Nat.min_le_right (PyData.depthAll xs) da.depth; omega) (fin _ I)
  | _ => cases hxs
/-- len(d) of a dict with tuple keys -/
def oLenN : OC := fun S ds Q => one ds fun d => dnAt S d fun _ kvs => Q (.int (kvs.length : Nat)) S
theorem DN.len {K : PySem.W.Frag} {W : Hp} : ∀ {kvs : List (D × D)} {xs : List (NestedKey × Addr × Value)}, DN K W kvs xs → kvs.length = xs.length
  | [], xs, h => by rw [show xs = [] from h]; rfl
  | p :: r, _, ⟨k', b, u, v, r', e1, _, _, _, e6⟩ => by
    subst e1
    rw [List.length_cons, List.length_cons, DN.len e6]
theorem cd_lenN {X : Cx} : CallR X (.builtin "len") (lC X.K oLenN) := by
  intro pins s σ H vs us Q I r ⟨W, S, ds, Q0, ok, rd, ho, cv⟩
  obtain ⟨d, rfl, ho⟩ := one_ex ho
  obtain ⟨p, kvs, rfl, hS, ho⟩ := dnAt_ex ho
  obtain ⟨v, rfl, rv⟩ := reps1 rd
  obtain ⟨u, rfl, rx⟩ := vals1 r
  rw [show v = V.ref p from rv] at rx
  obtain rfl : u = Value.ref p := rx
  obtain ⟨es, h1, dn, ⟨z1, z2, z3⟩, dd⟩ := dict_at I ok hS
  have hl := dn.len
  refine call_len_dictH z2 dd (by rw [← hl]; have := z1; rw [sizeLine_eq] at this; omega) ?_
  rw [← hl]
  exact ⟨.int ((kvs.length : Nat) : Int), H, I.tok _, ⟨_, rfl⟩, cv _ S _ W H ho Stp.refl ok rfl⟩
/-- xs.index(e), found -/
def oIndex : OM := fun S d ds Q => mutL S d fun _ xs => one ds fun e => layP S e ∧ PyData.canLayAll0 (toPs xs) = true ∧ xs.length ≤ sizeLine ∧
  ∃ (k : Nat) (y : PyData), (toPs xs)[k]? = some y ∧ PyData.eqv y (toP (resD S e)) = true ∧ (∀ (m : Nat) z, m < k → (toPs xs)[m]? = some z → PyData.eqv z (toP (resD S e)) = false) ∧ Q (.int (k : Nat)) S
theorem md_index {X : Cx} (hu : X.A.units + 64 < cLine) : MtR X "list.index" (lM X.K oIndex) := by
  intro pins s σ H x vs v us Q I rx rv ⟨W, S, d, ds, Q0, ok, r, rs, ho, cv⟩
  obtain ⟨a, xs, ws, rfl, rfl, e1, e2, rvv, h⟩ := mutL_rep ok r ho
  obtain ⟨e, rfl, ⟨l1, l2⟩, c2, c3, k, y, k1, k2, k3, q⟩ := one_ex h
  obtain ⟨w, rfl, rw_⟩ := reps1 rs
  obtain ⟨u, rfl, ru⟩ := rv.one
  cases rx
  obtain ⟨z, its, n, rI, hl, eI⟩ := I.lstM e2
  obtain ⟨bs, r1⟩ := Dp.reads I _ w u (dp_lay ok rw_ l1) ru
  obtain ⟨as, r2⟩ := Dp.readsAll I _ ws its (dps_of ok.vis rvv c2) rI
  have hd := PyData.plain_of_canLay0 _ l1
  have hxs := PyData.plainAll_of_canLay0 _ c2
  have em := SeqAt.readsAll_map_plain _ _ _ hxs r2
  have at_ : ∀ (m : Nat) (t : Value), its[m]? = some t → (toPs xs)[m]? = some (SeqAt.readOf s.heap t) := fun m t ht => by
    rw [← em, List.getElem?_map, ht]; rfl
  obtain ⟨t, ht, et⟩ : ∃ t, its[k]? = some t ∧ SeqAt.readOf s.heap t = y := by
    rw [← em, List.getElem?_map] at k1
    obtain ⟨t, h1, h2⟩ := Option.map_eq_some_iff.mp k1
    exact ⟨t, h1, h2⟩
  have hk := lt_of_some ht
  have hits : its.length = xs.length := by
    have h1 := congrArg List.length em
    have h2 : ∀ xs : List D, (toPs xs).length = xs.length := fun xs => by
      induction xs with
      | nil => rfl
      | cons x r ih => show (toPs r).length + 1 = _; rw [ih]; rfl
    rw [List.length_map, h2] at h1
    exact h1
  have hz := c3
  rw [sizeLine_eq] at hz
  have hEq := SeqAt.items_plain (A := X.A) (vs := its.toArray) (by simpa using r2) r1 hxs hd (by have := Nat.min_le_right (PyData.depthAll (toPs xs)) (toP (resD S e)).depth; omega)
  generalize toP (resD S e) = de at *
  refine call_meets F.slot_list_index ⟨_, eI, rfl⟩ F.entry_list_index (F.args_list_index_2 _ _)
    (SeqAt.list_index2_found a its.toArray n none #[] u (fun j => PyData.eqv (SeqAt.readOf s.heap (its[j]?.getD .none)) de) k (by simpa using hk) (Nat.zero_le _) (by omega) (by rw [ht]; show PyData.eqv (SeqAt.readOf s.heap t) de = true; rw [et]; exact k2) ?_) ⟨eI, fun j hj => ?_, ?_⟩
  · intro m hm _ hlt
    have hm' : m < its.length := by simpa using hm
    rw [List.getElem?_eq_getElem hm']
    exact k3 m _ hlt (at_ m _ (List.getElem?_eq_getElem hm'))
  · have hj' : j < its.length := by simpa using hj
    rw [List.getElem?_eq_getElem hj']
    exact hEq _ (by simp)
  · exact ⟨.int (k : Nat), H, I.tok _, ⟨_, rfl⟩, cv _ S _ W H q Stp.refl ok rfl⟩
/-- a, b = e -/
def wAsgG (t : WPg) (w : WPe) : WPs := fun env S q => w env S (fun d S1 => t d env fun e => q.nx e S1) (xcQ q env)
theorem pds_asgG {X : Cx} {tg e : Expr} {vs : List Nat} {t : WPg} {w : WPe} {pos : Pos} (he : PD X e w) (hg : PDg X tg vs t) (hs : swapsWithSole [tg] e pos.line X.env = pure false := by rfl) (hw : swappedStores [tg] e X.env = pure none := by rfl)
    (h1 : (assignEach [tg] X.env).map (·.2) = [assign tg X.env] := by rfl) : PDs X (.Assign [tg] e pos) (wAsgG t w) :=
  ⟨fun Wx tk => PS.imp (ps_asg (he.run Wx tk) hg.run hs hw h1) fun D σ H ⟨W, env, S, q, ok, sl, hl, hw, cs⟩ => ⟨W, env, S, _, _, ok, sl, hw, fun d S1 v W1 H1 h1 s1 ok1 r1 =>
    ⟨W1, S1, env, d, _, ok1, sl.mono s1.vis, hl, r1, h1, fun e σ' hk sl' hl' _ => cs.nx _ S1 _ W1 H1 hk s1 ok1 sl' hl'⟩, CXc.of cs sl⟩⟩
end DL
set_option Elab.async false
set_option linter.all false
set_option maxRecDepth 100000
set_option maxHeartbeats 4000000
namespace DL
open PySem PySem.Spec PyProof.Rows L2
/-- x < y of data that are alike (lists, tuples, ints) -/
def oLtD : O2 := fun S x y Q => layP S x ∧ layP S y ∧ PySem.W.alike (toP (resD S x)) (toP (resD S y)) = true ∧ toP (resD S x) ≠ .none ∧ Q (.bl (PySem.W.dataLt (toP (resD S x)) (toP (resD S y)))) S
theorem opd_ltD {X : Cx} (hu : X.A.units + 64 < cLine) : OpR X (compareOp .Lt) (lOp X.K oLtD) := fun pins s σ H x y v u Q I rx ry h => by
  obtain ⟨W, S, a, b, Q0, ok, ra, rb, ⟨⟨h1, h2⟩, ⟨h3, h4⟩, h5, h6, ho⟩, cv⟩ := h
  obtain ⟨as, r1⟩ := Dp.reads I _ x v (dp_lay ok ra h1) rx
  obtain ⟨bs, r2⟩ := Dp.reads I _ y u (dp_lay ok rb h3) ry
  exact PySem.W.lt_data r1 r2 h5 h6 (by have := Nat.min_le_left (toP (resD S a)).depth (toP (resD S b)).depth; omega) ⟨.bl (PySem.W.dataLt (toP (resD S a)) (toP (resD S b))), H, I, rfl, cv _ S _ W H ho Stp.refl ok rfl⟩
end DL
set_option Elab.async false
set_option linter.all false
set_option maxRecDepth 100000
set_option maxHeartbeats 1000000
/-! The data layer, part t: defs that are called while an exception is handled; defs that know that no repr is under way. -/
namespace DL
open PySem PySem.Spec PyProof.Rows L2
section
variable {P : Program} {w : World} {K : PySem.W.Frag} {mg : Str → Option Value} {base : Heap} {x qual : Str} {st : Stmt} {f : Addr} {fd : FuncData} {N ps : List Str} {A : Around} {outer : List Env} {s : Shared} {H : Hp} {us : List Value}
/-- what a def tells, by how its body ended -/
def retV : Flow → Value
  | .ret v => v
  | _ => .none
/-- a def is entered: what is left is its body -/
theorem fun_go {CX : CXT} {Q : VK} {E : XK} (F : Fun K x qual st f fd) (S : FnScope N ps (defScope st)) {args : Args} (hdp : A.depth < recursionLimit) (env0 : Env0 P w K mg base A outer s H) (bnd : BindsTo s fd args (ps.zip us))
    (go : ∀ (cdv : Value) (s1 : Shared), InCallC s s.heap.objs.size (bindL (envOfC qual (defScope st) s.heap.objs.size f cdv).kindOf (ps.zip us) fun _ => none) (cellsFrom (s.heap.objs.size + 1) (defScope st).names []) (bindC (envOfC qual (defScope st) s.heap.objs.size f cdv).kindOf (ps.zip us) fun _ => none) s1 →
      wpAny (model P w) (A.deeper (envOfC qual (defScope st) s.heap.objs.size f cdv)) (execs (defBody st) (envOfC qual (defScope st) s.heap.objs.size f cdv)) (fun fl s' => CE outer P w H s Q (retV fl) s')
        (cxOf CX P w K mg base N qual (defScope st) f cdv A outer s H E).xe s1) :
    codeAny (model P w) A (.call (.ref f) args) (CR CX outer P w H s Q E) s := by
  obtain ⟨oc, od, kV, doc, pm, an, cdv, ct, osl, efd, found, code⟩ := F.ex
  subst efd
  have inK : K.In s.heap := env0.mod.kin.keeps (fun b o e => (env0.bs b o e).1)
  refine codeAny_call_function hdp (inK _ _ found) rfl S.co S.gen rfl (PySem.W.codeRec_of inK code) (bnd _ _ _ _ (wpAny_newFunctionEnv_cells S.kind (fun y hy => ?_) fun env eenv s1 entered => ?_))
  · have hy1 := S.par y.1 (List.of_mem_zip (a := y.1) (b := y.2) hy).1
    exact hy1.elim .inl fun c => .inr ⟨c, PySem.W.cellsFrom_some _ _ _ (.inl c)⟩
  · subst eenv
    refine ⟨(env0.mod.nolimit.keeps fun b o e => (env0.bs b o e).1).keeps entered.toInCall.keep, codeAny_func ?_⟩
    exact wpAny_mono (go cdv s1 entered) (fun fl s' h => by cases fl <;> exact h) fun _ _ z => z
theorem cr_ret {Q : VK} {r : Result} {s' : Shared} (h : CR (L2.CX P w) outer P w H s Q (fun _ _ _ => False) r s') : ∃ u, r = .ok (.ret u) ∧ CE outer P w H s Q u s' := by
  match r, h with
  | .ok (.ret u), h => exact ⟨u, rfl, h⟩
  | .ok .next, h => exact h.elim
  | .ok .brk, h => exact h.elim
  | .ok .cont, h => exact h.elim
  | .error e, ⟨_, _, _, _, _, _, _, _, _, _, _, _, z⟩ => exact z.elim
/-- no exception leaves it, and it is told that no repr is under way -/
structure FnG (P : Program) (w : World) (K : PySem.W.Frag) (mg : Str → Option Value) (base : Heap) (k : Nat) (f : Addr) (fd : FuncData) (ps : List Str) (spec : Ctr) : Prop where
  len : ∀ ds S Q E, spec ds S Q E → ds.length = ps.length
  run : ∀ (A : Around) (outer : List Env) (s : Shared) (H : Hp) (args : Args) (us : List Value) (vs : List V) (Q : VK), Room k A → A.guards = some [] → Env0 P w K mg base A outer s H → BindsTo s fd args (ps.zip us) → Vals vs us → lSp K spec vs H Q (fun _ _ _ => False) →
    codeAny (model P w) A (.call (.ref f) args) (fun r s' => ∃ u, r = .ok (.ret u) ∧ CE outer P w H s Q u s') s
/-- the object of a caught exception of an own class -/
def CaughtAs (a dd C : Addr) (oe : Obj) : Prop := Zc (.ref C) (some dd) oe ∧ ∃ vs, oe.data = .fields vs
/-- .. and it is called while the exception at a is handled -/
structure FnT (P : Program) (w : World) (K : PySem.W.Frag) (mg : Str → Option Value) (base : Heap) (k : Nat) (f : Addr) (fd : FuncData) (ps : List Str) (spec : Addr → Addr → Addr → Ctr) : Prop where
  len : ∀ a dd C ds S Q E, spec a dd C ds S Q E → ds.length = ps.length
  run : ∀ (a dd C : Addr) (oe : Obj) (A : Around) (outer : List Env) (s : Shared) (H : Hp) (args : Args) (us : List Value) (vs : List V) (Q : VK), L2H.RoomH k A → A.guards = some [] → A.handled = some (.ref a) → CaughtAs a dd C oe → L2H.PinOk outer H s (a, oe) → Env0 P w K mg base A outer s H → BindsTo s fd args (ps.zip us) → Vals vs us →
    lSp K (spec a dd C) vs H Q (fun _ _ _ => False) → codeAny (model P w) A (.call (.ref f) args) (fun r s' => ∃ u, r = .ok (.ret u) ∧ CE outer P w H s Q u s') s
/-- what a body's end makes of a call -/
theorem end_call {X : Cx} {pins : List (Addr × Obj)} {H0 : Hp} {s0 : Shared} {Q : VK} {fl : Flow} {s' : Shared} (e1 : X.s_0 = s0) (e2 : X.H_0 = H0) (e3 : X.ex = []) (h : SP X pins { nx := fun _ H' => Q .non H', rt := Q } fl s') : CE X.outer X.prog X.w H0 s0 Q (retV fl) s' := by
  have fin : ∀ {σ' : L2.St} {H' : Hp} {v : V} {u : Value}, Inv X pins σ' H' s' → RelV v u → Q v H' → CE X.outer X.prog X.w H0 s0 Q u s' := fun {σ' H' v u} J rv q => by
    have b := J.base
    rw [e3, e2, e1] at b
    have o := J.os
    rw [e1] at o
    exact ⟨v, H', o, J.bare, b, J.hok, rv, q⟩
  match fl, h with
  | .ret u, ⟨v, _, _, J, rv, q⟩ => exact fin J rv q
  | .next, ⟨_, _, J, q⟩ => exact fin (v := .non) J rfl q
  | .brk, ⟨_, _, _, q⟩ => exact q.elim
  | .cont, ⟨_, _, _, q⟩ => exact q.elim
/-- a body's reading begins -/
theorem body_reads {X : Cx} {ws : WPs} {spec : Ctr} {vs : List V} {Q : VK} (hN : X.N = N) (hle : ps.length ≤ N.length) (len : ∀ ds S Q E, spec ds S Q E → ds.length = ps.length) (hr : ∀ ds S Q X1, spec ds S Q X1 → ws (startD N ds) S (endQ Q X1))
    (h : lSp X.K spec vs H Q (fun _ _ _ => False)) : lS X.K (fun _ _ _ _ => False) X.N.length ws { nx := fun _ H' => Q .non H', rt := Q } (L2.start N vs) H := by
  obtain ⟨W, S', ds, Q0, X1, ok, r, h, cv, cx⟩ := h
  refine ⟨W, _, S', _, ok, sl_start r, ?_, hr ds S' Q0 X1 h, ?_, ?_, ?_, ?_, ?_⟩
  · rw [hN]
    unfold L2.start
    rw [List.length_append, List.length_map, List.length_replicate]
    have := r.length
    have := len ds S' Q0 X1 h
    omega
  · exact fun _ S1 σ1 W1 H1 h1 s1 ok1 _ _ => cv .non S1 .non W1 H1 h1 s1 ok1 rfl
  · exact fun d S1 v W1 H1 h1 s1 ok1 r1 => cv d S1 v W1 H1 h1 s1 ok1 r1
  · exact fun _ _ _ _ _ h1 _ _ _ => h1.elim
  · exact fun _ _ _ _ _ h1 _ _ _ => h1.elim
  · exact fun C fs _ S1 dd gs _ W1 H1 h1 s1 ok1 _ e1 r1 => cx C fs S1 dd gs W1 H1 h1 s1 ok1 e1 r1
theorem fnG_mk {k : Nat} {spec : Ctr} {ws : WPs} (F : Fun K x qual st f fd) (S : FnScope N ps (defScope st)) (hle : ps.length ≤ N.length) (len : ∀ ds S Q E, spec ds S Q E → ds.length = ps.length)
    (hd : ∀ (f : Addr) (cdv : Value) (A : Around) (outer : List Env) (s : Shared) (H : Hp) (E : XK), Room k (A.deeper (envOfC qual (defScope st) s.heap.objs.size f cdv)) → A.guards = some [] → PDss (cxOf (L2.CX P w) P w K mg base N qual (defScope st) f cdv A outer s H E) (defBody st) ws)
    (hr : ∀ ds S Q X1, spec ds S Q X1 → ws (startD N ds) S (endQ Q X1)) : FnG P w K mg base (k + 1) f fd ps spec := by
  refine ⟨len, fun A outer s H args us vs Q room gd env0 bnd r hs => codeAny_mono (fun_go (CX := L2.CX P w) (Q := Q) (E := fun _ _ _ => False) (N := N) F S room.depth env0 bnd fun cdv s1 entered => ?_) fun _ _ h => cr_ret h⟩
  have lv : vs.length = ps.length := by
    obtain ⟨W, S', ds, Q0, X1, ok, r, h, _⟩ := hs
    rw [r.length]; exact len ds S' Q0 X1 h
  have hp := (hd f cdv A outer s H (fun _ _ _ => False) (room.deeper _) gd).run (fun _ _ _ _ => False) (takes_of rfl rfl rfl rfl)
  have I : Inv (cxOf (L2.CX P w) P w K mg base N qual (defScope st) f cdv A outer s H (fun _ _ _ => False)) [] (L2.start N vs) H s1 := inv_start S room.hd env0 lv r entered
  exact wpAny_mono (hp.run [] s1 (L2.start N vs) H _ I (body_reads (X := cxOf (L2.CX P w) P w K mg base N qual (defScope st) f cdv A outer s H (fun _ _ _ => False)) rfl hle len hr hs)) (fun fl s' z => end_call (X := cxOf (L2.CX P w) P w K mg base N qual (defScope st) f cdv A outer s H (fun _ _ _ => False)) rfl rfl rfl z) fun _ _ z => z
theorem mark_same {A : Around} {a : Addr} (h : A.handled = some (.ref a)) : A.mark (some (.ref a)) = A := by
  obtain ⟨hd, d, fr, gs, u⟩ := A
  cases h
  rfl
theorem fnT_mk {k : Nat} {spec : Addr → Addr → Addr → Ctr} {ws : Addr → Addr → Addr → WPs} (F : Fun K x qual st f fd) (S : FnScope N ps (defScope st)) (hle : ps.length ≤ N.length) (len : ∀ a dd C ds S Q E, spec a dd C ds S Q E → ds.length = ps.length)
    (hd : ∀ (f : Addr) (cdv : Value) (A : Around) (outer : List Env) (s : Shared) (H : Hp) (E : XK) (a dd C : Addr) (oe : Obj), CaughtAs a dd C oe → L2H.RoomH k (A.deeper (envOfC qual (defScope st) s.heap.objs.size f cdv)) → A.guards = some [] →
      PDss ((cxOf (L2.CX P w) P w K mg base N qual (defScope st) f cdv A outer s H E).suite a [(a, oe)]) (defBody st) (ws a dd C))
    (hr : ∀ a dd C ds S Q X1, spec a dd C ds S Q X1 → ws a dd C (startD N ds) S (endQ Q X1)) : FnT P w K mg base (k + 1) f fd ps spec := by
  refine ⟨len, fun a dd C oe A outer s H args us vs Q room gd hot ca pin env0 bnd r hs => codeAny_mono (fun_go (CX := L2.CX P w) (Q := Q) (E := fun _ _ _ => False) (N := N) F S room.depth env0 bnd fun cdv s1 entered => ?_) fun _ _ h => cr_ret h⟩
  have lv : vs.length = ps.length := by
    obtain ⟨W, S', ds, Q0, X1, ok, r, h, _⟩ := hs
    rw [r.length]; exact len a dd C ds S' Q0 X1 h
  have hp := (hd f cdv A outer s H (fun _ _ _ => False) a dd C oe ca (room.deeper _) gd).run (fun _ _ _ _ => False) takes0
  have I0 : Inv (L2H.cxH (L2.CX P w) P w K mg base N qual (defScope st) f cdv A outer s H (fun _ _ _ => False) (a, oe)) [] (L2.start N vs) H s1 := L2H.inv_startH S pin env0 lv r entered
  have K0 := I0.ok
  have I : Inv ((cxOf (L2.CX P w) P w K mg base N qual (defScope st) f cdv A outer s H (fun _ _ _ => False)).suite a [(a, oe)]) [] (L2.start N vs) H s1 :=
    ⟨⟨K0.mod, K0.kind, K0.glob, K0.blt, K0.above, K0.inj, K0.has, K0.cab, (fun z => absurd z Bool.false_ne_true), K0.frames, K0.stk, K0.exf, K0.bs, K0.bsz, K0.noex, K0.exfs, K0.funs, K0.frf⟩, I0.os, I0.bare, I0.base, I0.loc, I0.cell, I0.free, I0.freeC, I0.pin, I0.hok, I0.len⟩
  have go := hp.run [] s1 (L2.start N vs) H _ I (body_reads (X := (cxOf (L2.CX P w) P w K mg base N qual (defScope st) f cdv A outer s H (fun _ _ _ => False)).suite a [(a, oe)]) rfl hle (len a dd C) (hr a dd C) hs)
  have eA : ((cxOf (L2.CX P w) P w K mg base N qual (defScope st) f cdv A outer s H (fun _ _ _ => False)).suite a [(a, oe)]).A = A.deeper (envOfC qual (defScope st) s.heap.objs.size f cdv) := mark_same hot
  rw [eA] at go
  exact wpAny_mono go (fun fl s' z => end_call (X := (cxOf (L2.CX P w) P w K mg base N qual (defScope st) f cdv A outer s H (fun _ _ _ => False)).suite a [(a, oe)]) rfl rfl rfl z) fun _ _ z => z.elim
end
/-! ### the same by name, and their calls -/
section
variable (P : Program) (w : World) (K : PySem.W.Frag) (mg : Str → Option Value) (base : Heap)
def FnGC (k : Nat) (x : Str) (ps : List Str) (spec : Ctr) : Prop := (∀ ds S Q E E', spec ds S Q E → spec ds S Q E') ∧ ∃ f fd, FnG P w K mg base k f fd ps spec ∧ mg x = some (.ref f) ∧ PySem.W.keepIn K (.ref f) = true ∧ Binds K fd ps []
def FnTC (k : Nat) (x : Str) (ps : List Str) (spec : Addr → Addr → Addr → Ctr) : Prop := (∀ a dd C ds S Q E E', spec a dd C ds S Q E → spec a dd C ds S Q E') ∧ ∃ f fd, FnT P w K mg base k f fd ps spec ∧ mg x = some (.ref f) ∧ PySem.W.keepIn K (.ref f) = true ∧ Binds K fd ps []
end
section
variable {P : Program} {w : World} {K : PySem.W.Frag} {mg : Str → Option Value} {base : Heap} {x qual : Str} {st : Stmt} {N ps : List Str} {k : Nat}
theorem FnGC.mk {spec : Ctr} {ws : WPs} (D : DefAt K mg x qual st ps) (S : FnScope N ps (defScope st)) (hle : ps.length ≤ N.length) (nox : ∀ ds S Q E E', spec ds S Q E → spec ds S Q E') (len : ∀ ds S Q E, spec ds S Q E → ds.length = ps.length)
    (hd : ∀ (f : Addr) (cdv : Value) (A : Around) (outer : List Env) (s : Shared) (H : Hp) (E : XK), Room k (A.deeper (envOfC qual (defScope st) s.heap.objs.size f cdv)) → A.guards = some [] → PDss (cxOf (L2.CX P w) P w K mg base N qual (defScope st) f cdv A outer s H E) (defBody st) ws)
    (hr : ∀ ds S Q X1, spec ds S Q X1 → ws (startD N ds) S (endQ Q X1)) : FnGC P w K mg base (k + 1) x ps spec := by
  obtain ⟨f, fd, F, hm, hb⟩ := D
  exact ⟨nox, f, fd, fnG_mk F S hle len hd hr, hm, F.kp, hb⟩
theorem FnTC.mk {spec : Addr → Addr → Addr → Ctr} {ws : Addr → Addr → Addr → WPs} (D : DefAt K mg x qual st ps) (S : FnScope N ps (defScope st)) (hle : ps.length ≤ N.length) (nox : ∀ a dd C ds S Q E E', spec a dd C ds S Q E → spec a dd C ds S Q E') (len : ∀ a dd C ds S Q E, spec a dd C ds S Q E → ds.length = ps.length)
    (hd : ∀ (f : Addr) (cdv : Value) (A : Around) (outer : List Env) (s : Shared) (H : Hp) (E : XK) (a dd C : Addr) (oe : Obj), CaughtAs a dd C oe → L2H.RoomH k (A.deeper (envOfC qual (defScope st) s.heap.objs.size f cdv)) → A.guards = some [] →
      PDss ((cxOf (L2.CX P w) P w K mg base N qual (defScope st) f cdv A outer s H E).suite a [(a, oe)]) (defBody st) (ws a dd C))
    (hr : ∀ a dd C ds S Q X1, spec a dd C ds S Q X1 → ws a dd C (startD N ds) S (endQ Q X1)) : FnTC P w K mg base (k + 1) x ps spec := by
  obtain ⟨f, fd, F, hm, hb⟩ := D
  exact ⟨nox, f, fd, fnT_mk F S hle len hd hr, hm, F.kp, hb⟩
end
section
variable {X : Cx} {k : Nat} {ps : List Str} {x : Str} {p pos : Pos} {e : Expr} {es : List Expr} {wa : WPa}
/-- a name's call, by the values of its arguments -/
theorem pe_named {f : Addr} {Wx : WX} {spec : Ctr} (hm : X.mg x = some (.ref f)) (hk : PySem.W.keepIn X.K (.ref f) = true) (nox : ∀ ds S Q E E', spec ds S Q E → spec ds S Q E')
    (run : ∀ (pins : List (Addr × Obj)) (σ : L2.St) (H : Hp) (s : Shared) (Q : VK) (us : List Value) (vs : List V), Inv X pins σ H s → Vals vs us → lSp X.K spec vs H Q (fun _ _ _ => False) → wpAny (model X.prog X.w) X.A (call (.ref f) us) (EP X pins σ Q) X.xe s)
    (ha : PA X (e :: es) (lA X.K Wx wa)) (hg : Gl X x) (hdb : (x == ("__debug__" : Str)) = false) (he : starEach (e :: es) X.env = (false, eval e X.env) :: starEach es X.env) (hpl : (backTo pos (starEach es X.env)).any (·.1) = false) :
    PE X (.Call (.Name x p) (e :: es) [] pos) (lE X.K Wx (wCall spec wa)) := by
  refine ⟨fun pins s σ H Q I ⟨W, env, S, Q0, X1, ok, sl, hw, cv, cx⟩ => wpAny_Call_Name_kw (ld_glob I hg hm ?_ hdb)⟩
  have h1 : lA X.K Wx wa σ H fun vs H1 => lSp X.K spec vs H1 Q (fun _ _ _ => False) := ⟨W, env, S, _, X1, ok, sl, hw, fun ds S1 vs W1 H1 h1 s1 ok1 r1 => ⟨W1, S1, ds, Q0, _, ok1, r1, nox _ _ _ _ _ h1, cv.mono s1, CXc.no⟩, cx⟩
  exact PySem.W.callWith_K (h₀ := X.base) I.ok.mod.kin hk (thn (ha.run pos pins s σ H _ I h1) fun us s1 ⟨vs, H1, I1, r1, q1⟩ => ⟨I1.kIn, run pins σ H1 s1 Q us vs I1 r1 q1⟩) he hpl
theorem binds_at {fd : FuncData} {pins : List (Addr × Obj)} {σ : L2.St} {H : Hp} {s : Shared} {us : List Value} {vs : List V} (hb : Binds X.K fd ps []) (I : Inv X pins σ H s) (r : Vals vs us) (hl : vs.length = ps.length) : BindsTo s fd ⟨us, []⟩ (ps.zip us) := by
  have hl2 : (us ++ []).length = ps.length := by rw [List.append_nil, ← r.length]; exact hl
  have := hb s us I.kIn hl2
  rw [List.append_nil] at this
  exact this
theorem lsp_len {spec : Ctr} {K : PySem.W.Frag} {vs : List V} {H : Hp} {Q : VK} {E : XK} (len : ∀ ds S Q E, spec ds S Q E → ds.length = ps.length) (h : lSp K spec vs H Q E) : vs.length = ps.length := by
  obtain ⟨W, S', ds, Q0, X1, ok, r, h, _⟩ := h
  rw [r.length]; exact len ds S' Q0 X1 h
theorem pd_fnG {spec : Ctr} (G : FnGC X.prog X.w X.K X.mg X.base k x ps spec) (hr : Room k X.A) (hgd : X.A.guards = some []) (ha : PDa X (e :: es) wa) (hg : Gl X x := by rfl) (hdb : (x == ("__debug__" : Str)) = false := by decide)
    (he : starEach (e :: es) X.env = (false, eval e X.env) :: starEach es X.env := by rfl) (hpl : (backTo pos (starEach es X.env)).any (·.1) = false := by rfl) : PD X (.Call (.Name x p) (e :: es) [] pos) (wCall spec wa) := by
  obtain ⟨nox, f, fd, F, hm, hk, hb⟩ := G
  refine ⟨fun Wx tk => pe_named hm hk nox (fun pins σ H s Q us vs I r h => ?_) (ha.run Wx tk) hg hdb he hpl⟩
  refine wpAny_call (codeAny_mono (F.run X.A X.stack s H ⟨us, []⟩ us vs Q hr hgd I.env0 (binds_at hb I r (lsp_len F.len h)) r h) fun r s' ⟨u, eu, hq⟩ => ?_)
  subst eu
  exact I.after hq
variable {a dd C : Addr} {oe : Obj} {pn : List (Addr × Obj)}
theorem pd_fnT {spec : Addr → Addr → Addr → Ctr} (G : FnTC X.prog X.w X.K X.mg X.base k x ps spec) (hr : L2H.RoomH k X.A) (hgd : X.A.guards = some []) (ca : CaughtAs a dd C oe) (ha : PDa (X.suite a ((a, oe) :: pn)) (e :: es) wa) (hg : Gl (X.suite a ((a, oe) :: pn)) x := by rfl) (hdb : (x == ("__debug__" : Str)) = false := by decide)
    (he : starEach (e :: es) X.env = (false, eval e X.env) :: starEach es X.env := by rfl) (hpl : (backTo pos (starEach es X.env)).any (·.1) = false := by rfl) : PD (X.suite a ((a, oe) :: pn)) (.Call (.Name x p) (e :: es) [] pos) (wCall (spec a dd C) wa) := by
  obtain ⟨nox, f, fd, F, hm, hk, hb⟩ := G
  refine ⟨fun Wx tk => pe_named (X := X.suite a ((a, oe) :: pn)) hm hk (nox a dd C) (fun pins σ H s Q us vs I r h => ?_) (ha.run Wx tk) hg hdb he hpl⟩
  have pp := I.pin (a, oe) (List.mem_append_left _ List.mem_cons_self)
  have pin : L2H.PinOk X.stack H s (a, oe) := ⟨pp.1, pp.2.1, fun z => by
    rcases List.mem_cons.mp (I.stkSub a z) with z | z
    · exact pp.2.2.1 z
    · exact pp.2.2.2.1 z, pp.2.2.2.2⟩
  refine wpAny_call (codeAny_mono (F.run a dd C oe (X.suite a ((a, oe) :: pn)).A X.stack s H ⟨us, []⟩ us vs Q ⟨hr.dp, hr.un⟩ hgd rfl ca pin I.env0 (binds_at (X := X.suite a ((a, oe) :: pn)) hb I r (lsp_len (F.len a dd C) h)) r h) fun r s' ⟨u, eu, hq⟩ => ?_)
  subst eu
  exact I.after hq
end
theorem _root_.L2H.RoomH.units {k : Nat} {A : Around} (r : L2H.RoomH k A) : A.units + 64 < cLine := by have := r.un; omega
/-! ### repr(d), abs(i) -/
def oRepr : OC := fun S ds Q => one ds fun d => layP S d ∧ (toP (resD S d)).showable = true ∧ (toP (resD S d)).shown.length ≤ sizeLine ∧ Q (.str (toP (resD S d)).shown) S
theorem cd_repr {X : Cx} (hg : X.A.guards = some []) (hu : X.A.units + 64 < cLine) : CallR X (.builtin "repr") (lC X.K oRepr) := fun pins s σ H xs us Q I rv h => by
  obtain ⟨W, S, ds, Q0, ok, r, ho, cv⟩ := h
  obtain ⟨d, rfl, ⟨h1, h2⟩, h3, h4, ho⟩ := one_ex ho
  obtain ⟨v, rfl, rvd⟩ := reps1 r
  obtain ⟨u, rfl, ru⟩ := vals1 rv
  obtain ⟨as, r1⟩ := Dp.reads I _ v u (dp_lay ok rvd h1) ru
  have nd := PyData.hasDict_of_canLay _ h1
  have fin : ∀ (h' : Heap) (tk : Nat) (t : Tok), (∀ b o, s.heap.get? b = some o → h'.get? b = some o) → EP X pins σ Q (.str (toP (resD S d)).shown t) { s with heap := h', toks := tk } := fun h' tk t hk =>
    ⟨.str _, H, I.kept (t' := tk) hk, ⟨_, rfl⟩, cv (.str _) S _ W H ho Stp.refl ok rfl⟩
  generalize toP (resD S d) = p at *
  have same : ∀ (tk : Nat) (t : Tok), EP X pins σ Q (.str p.shown t) { s with toks := tk } := fun tk t => fin s.heap tk t fun _ _ z => z
  have r2 := r1
  have hd8 : p.depth ≤ 8 := h2
  have big : ∀ a : Addr, u = .ref a → wpAny (model X.prog X.w) X.A (call (.builtin "repr") [u]) (EP X pins σ Q) X.xe s := fun a e => by
    subst e
    exact repr_of_reads' r2 h3 (fun z => by rw [nd] at z; cases z) hg (by omega) (fun _ _ z => z) (fun h' t tk hk => fin h' tk t hk) h4
  cases r1 with
  | none => exact PySem.P.repr_of_none (same _ _)
  | bool => exact PySem.P.repr_of_bool (same _ _)
  | int => exact PySem.P.repr_of_int (of_decide_eq_true h3) (same _ _)
  | str => exact PySem.P.repr_of_str (same _ _) h4
  | _ => exact big _ rfl
def oAbs : OC := fun S ds Q => one ds fun d => match d with
  | .int i => Q (.int (if i < 0 then -i else i)) S
  | _ => False
theorem cd_abs {X : Cx} : CallR X (.builtin "abs") (lC X.K oAbs) := CallR.imp call_abs fun vs H Q ⟨W, S, ds, Q0, ok, r, ho, cv⟩ => by
  obtain ⟨d, rfl, ho⟩ := one_ex ho
  obtain ⟨v, rfl, rv⟩ := reps1 r
  cases d with
  | int i => exact ⟨i, by rw [show v = V.int i from rv], cv _ S _ W H ho Stp.refl ok rfl⟩
  | _ => exact ho.elim
/-! ### x[k] op= e, x a list that changes -/
def wAugI (o : O2) (wo wi we : WPe) : WPs := fun env S q => wo env S (fun x S1 => wi env S1 (fun i S2 => mutL S2 x fun _ xs => match i with
  | .int k => 0 ≤ k ∧ some! (atI xs k) fun d => we env S2 (fun y S3 => o S3 d y fun z S4 => setIx S4 x i z fun S5 => q.nx env S5) (xcQ q env)
  | _ => False) (xcQ q env)) (xcQ q env)
section
variable {X : Cx} {o i e : Expr} {pos tpos : Pos} {wo wi we : WPe}
theorem get_at : PGet X (fun x y H Q => ∃ p xs k v, x = .ref p ∧ y = .int k ∧ 0 ≤ k ∧ SqL X.K H p xs ∧ atI xs k = some v ∧ Q v H) := by
  rintro pins s σ H x y xv yv Q I rx ry ⟨p, xs, k, z, rfl, rfl, k0, hs, hat, q⟩
  cases rx
  obtain ⟨t, rfl⟩ := ry
  obtain ⟨its, rs, pl, hz⟩ := I.list hs
  obtain ⟨j, j1, j2, j3, j4, j5⟩ := atI_get hat
  obtain ⟨u, eu, ru⟩ := rs.get j2
  have hl := rs.length
  have hj : k.toNat = j := by
    rw [seqIndex_of k0 j5] at j1
    exact Option.some.inj j1
  have hb := line63
  exact PySem.wpAny_getItem_list pl.isList k0 (by omega) (by rw [hj]; simpa using eu) ⟨z, H, I, ru, q⟩
theorem pds_augI {op : Operator} {ob : O2} (ho : PD X o wo) (hi : PD X i wi) (he : PD X e we) (hop : OpR X (inplaceOp op) (lOp X.K ob)) (ha : ∀ ov iv new, augStore i ov iv new = (do holding [new, ov, iv] (setItem ov iv new); release [new, ov, iv] []; pure .next) := by intros; rfl) :
    PDs X (.AugAssign (.Subscript o i tpos) op e pos) (wAugI ob wo wi we) :=
  ⟨fun Wx tk => PS.imp (ps_augS (ho.run Wx tk) (hi.run Wx tk) get_at (he.run Wx tk) (fun pins s σ H x y v u Q I rx ry q => hop pins s σ H x y v u Q I rx ry q) set_list ha) fun D σ H ⟨W, env, S, q, ok, sl, hl, hw, cs⟩ =>
    ⟨W, env, S, _, _, ok, sl, hw, fun x S1 v W1 H1 h1 s1 ok1 r1 => ⟨W1, env, S1, _, _, ok1, sl.mono s1.vis, h1, fun iy S2 u W2 H2 h2 s2 ok2 r2 => by
      obtain ⟨a, xs, us, rfl, rfl, e1, e2, rv, h2⟩ := mutL_rep ok2 (r1.mono s2.vis) h2
      cases iy with
      | int k =>
        obtain ⟨k0, h2⟩ := h2
        obtain ⟨d, hd, h2⟩ := some!_ex h2
        obtain ⟨w, hw2, rw2⟩ := reps_at rv hd
        have s12 := s1.trans s2
        refine ⟨a, us, k, w, rfl, r2, k0, ?_, hw2, W2, env, S2, _, _, ok2, sl.mono s12.vis, h2, fun y S3 t W3 H3 h3 s3 ok3 r3 => ?_, CXc.of (cs.mono s12) (sl.mono s12.vis)⟩
        · exact SqL.of e2
        refine ⟨W3, S3, d, y, _, ok3, rw2.mono s3.vis, r3, h3, fun z S4 t2 W4 H4 h4 s4 ok4 r4 => ?_⟩
        have s34 := s3.trans s4
        obtain ⟨a', xs', n, j, S5, ea, ej, e5, e6, st5, ok5, h5⟩ := setIx_rep ok4 (r1.mono (s2.trans s34).vis) (r2.mono s34.vis) r4 h4
        exact ⟨a', xs', j, n, ea, ej, e5, e6, cs.nx _ S5 _ W4 _ h5 (s12.trans (s34.trans st5)) ok5 (sl.mono (s12.trans s34).vis) hl⟩
      | _ => exact h2.elim, CXc.of (cs.mono s1) (sl.mono s1.vis)⟩, CXc.of cs sl⟩⟩
end
/-! ### the end: a law that knows that no repr is under way -/
section
variable {P : Program} {w : World} {K : PySem.W.Frag} {mg mb : Str → Option Value} {k : Nat} {fa a : Addr} {fd : FuncData} {x : Str} {spec : Ctr} {s1 : Shared} {vs : List Value} {ns : List Int}
/-- the script, as it stands -/
abbrev scrO (vs : List Value) : Obj := { cls := .type "list", data := .seq vs.toArray }
theorem law_from {H : Hp} (inK : K.In s1.heap) (nsG : s1.heap.Ns mainGlobals mg) (nsB : s1.heap.Ns builtinsNs mb) (boot : ∀ x : Str, x ≠ "__name__" → mb x = bootBuiltins x) (lim : s1.heap.NoLimit) (noG : s1.gens = #[])
    (scr : s1.heap.get? a = some (scrO vs)) (room : Room k callerA)
    (F : ∀ base : Heap, K.In base → base.Ns mainGlobals mg → FnG P w K mg base k fa fd [x] spec) (bind : ∀ (s : Shared) (u : Value), BindsTo s fd ⟨[u], []⟩ [(x, u)])
    (hH : ∀ b, H b = none ∨ (b = a ∧ K.lookup a = none ∧ H b = some (.frz (scrO vs) (.lst (ns.map V.int))))) (ok : HOk P w H s1.heap) (hs : lSp K spec [.ref a] H (fun v _ => v = .bl true) fun _ _ _ => False) :
    codeAny (model P w) callerA (.call (.ref fa) ⟨[.ref a], []⟩) (fun r s' => r = .ok (.ret (.bool true)) ∧ OldK s1.heap s'.heap ∧ s'.os = s1.os ∧ AllBare s'.gens) s1 := by
  have dicts : ∀ {b : Addr} {m : Str → Option Value}, s1.heap.Ns b m → (hidT s1.heap H).Ns b m := by
    rintro b m ⟨o, es, ep, ho, hd, r⟩
    refine ⟨o, es, ep, hidT_get ho ?_, hd, r⟩
    rcases hH b with z | ⟨z, _, _⟩
    · exact z
    · rw [z, scr] at ho
      cases ho
      cases hd
  have inK2 : K.In (hidT s1.heap H) := fun b o e => hidT_get (inK b o e) (by
    rcases hH b with z | ⟨z, z2, _⟩
    · exact z
    · rw [z, z2] at e; cases e)
  have M : Mod K mg (hidT s1.heap H) := ⟨inK2, dicts nsG, ⟨mb, dicts nsB, boot⟩, by
    obtain ⟨mc, h1, h2⟩ := lim
    exact ⟨mc, dicts h1, h2⟩⟩
  have E0 : Env0 P w K mg (hidT s1.heap H) callerA [] s1 H := ⟨rfl, M, fun _ _ e => of_hidT e, Nat.le_of_eq (hidT_size _ _), trivial, (fun b hb => by cases hb), ok, .of_eq noG⟩
  refine codeAny_mono ((F _ inK2 (dicts nsG)).run callerA [] s1 H ⟨[.ref a], []⟩ [.ref a] [.ref a] _ room rfl E0 (bind s1 (.ref a)) (.cons rfl .nil) hs) ?_
  rintro r s' ⟨u, rfl, v, H', os, bare, un, ok', rv, q⟩
  have q : v = .bl true := q
  subst q
  have eu : u = Value.bool true := rv
  subst eu
  refine ⟨rfl, OldK.of_keep fun b o e => ?_, os, bare⟩
  rcases hH b with z | ⟨_, _, z⟩
  · exact un.keep b o e z (fun z => by cases z) (fun z => by cases z)
  · have e1 := (ok b _ z).1
    have e2 := (ok' b _ (un.frzs b _ _ z)).1
    rw [e] at e1
    cases e1
    exact e2
theorem law_goes (inK : K.In s1.heap) (nsG : s1.heap.Ns mainGlobals mg) (nsB : s1.heap.Ns builtinsNs mb) (boot : ∀ x : Str, x ≠ "__name__" → mb x = bootBuiltins x) (lim : s1.heap.NoLimit) (noG : s1.gens = #[])
    (scr : s1.heap.get? a = some (scrO vs)) (numb : IntsAre vs ns) (fits : ns.length ≤ sizeLine) (room : Room k callerA)
    (F : ∀ base : Heap, K.In base → base.Ns mainGlobals mg → FnG P w K mg base k fa fd [x] spec) (bind : ∀ (s : Shared) (u : Value), BindsTo s fd ⟨[u], []⟩ [(x, u)])
    (hs : ∀ H : Hp, SqL K H a (ns.map V.int) → lSp K spec [.ref a] H (fun v _ => v = .bl true) fun _ _ _ => False) :
    codeAny (model P w) callerA (.call (.ref fa) ⟨[.ref a], []⟩) (fun r s' => r = .ok (.ret (.bool true)) ∧ OldK s1.heap s'.heap ∧ s'.os = s1.os ∧ AllBare s'.gens) s1 := by
  have rv := vals_ints numb
  cases own : K.lookup a with
  | some o =>
    have e := inK a o own
    rw [scr] at e
    cases e
    exact law_from (H := fun _ => none) (ns := ns) inK nsG nsB boot lim noG scr room F bind (fun b => .inl rfl) (fun b u z => nomatch z) (hs _ (.inr ⟨_, vs.toArray, _, own, rfl, rfl, rfl, by rw [List.size_toArray, numb.length]; exact fits, by simpa using rv⟩))
  | none =>
    have at_ : (fun b => if b = a then some (HO.frz (scrO vs) (.lst (ns.map V.int))) else none : Hp) a = some (.frz (scrO vs) (.lst (ns.map V.int))) := if_pos rfl
    refine law_from (H := fun b => if b = a then some (HO.frz (scrO vs) (.lst (ns.map V.int))) else none) (ns := ns) inK nsG nsB boot lim noG scr room F bind (fun b => ?_) (fun b u z => ?_) (hs _ (.inl (.inr ⟨_, at_⟩)))
    · by_cases e : b = a
      · exact .inr ⟨e, own, if_pos e⟩
      · exact .inl (if_neg e)
    · by_cases e : b = a
      · have z := (if_pos e).symm.trans z
        cases z
        subst e
        exact ⟨scr, by rw [List.length_map]; exact fits, vs, _, rv, scr⟩
      · have z := (if_neg e).symm.trans z
        cases z
theorem walk_G {l : PySem.W.OpenLaw} {n k : Nat} {q : Program} {loose : List Str} {XP : (Str → Option Value) → Heap → Prop} {YP : World → Heap → Prop} {d : DefRec} {K : Params → PySem.W.Frag} {spec : Ctr} {x : Str}
    (hn : l.most = some n) (hn2 : n ≤ sizeLine) (hdf : d.params.defaults = []) (hr : Room k callerA) (hY : ∀ (w : World) (h : Heap), YP w h → (K w.params).In h)
    (F : ∀ (w : World) (mg : Str → Option Value) (fa : Addr) (h : Heap), (K w.params).In h → h.Ns mainGlobals mg → mg d.name = some (.ref fa) →
      ∃ fd : FuncData, (∀ (s : Shared) (u : Value), BindsTo s fd ⟨[u], []⟩ [(x, u)]) ∧ ∀ base : Heap, (K w.params).In base → base.Ns mainGlobals mg → FnG l.prog w (K w.params) mg base k fa fd [x] spec)
    (hsp : ∀ (w : World) (H : Hp) (a : Addr) (ns : List Int), ns.length ≤ n → SqL (K w.params) H a (ns.map V.int) → lSp (K w.params) spec [.ref a] H (fun v _ => v = .bl true) fun _ _ _ => False) :
    PySem.W.WalkO q loose XP YP l.row.toRowW d [] (fun f vs => PySem.call f vs) := by
  refine Att.attach_call hn hdf fun w s0 s1 mg mb fa o pm cd doc a vs ns G Y ho hd hcd hmg hobj hints hlen hg => ?_
  obtain ⟨fd, hb, hF⟩ := F w mg fa _ (hY w _ Y) G.T.g hmg
  exact law_goes (hY w _ Y) G.T.g G.T.b G.T.builtins G.T.nolimit hg hobj hints (Nat.le_trans hlen hn2) hr hF hb fun H hS => hsp w H a ns hlen hS
end
end DL
set_option Elab.async false
set_option linter.all false
set_option maxRecDepth 100000
set_option maxHeartbeats 1000000
/-! The data layer, part u: sum and max of a tuple. -/
namespace DL
open PySem PySem.Spec PyProof.Rows L2
section
variable {X : Cx}
theorem cr_sumT (hc : X.calm = true) : CallR X (.builtin "sum") (fun vs H Q => ∃ (a : Addr) (ns : List Int), vs = [V.ref a] ∧ SqT X.K H a (ns.map V.int) ∧ Q (.int ns.sum) H) := by
  rintro pins s σ H vs us Q I r ⟨a, ns, rfl, hs, q⟩
  obtain ⟨its, rv, pl, _⟩ := I.tuple hs
  rw [Vals.ref1 r]
  have hi := rv.ints
  obtain ⟨xs, e⟩ := hi.allInts.items
  have hn : numsOf (intItems xs).toList = ns := by rw [← e]; exact hi.numsOf
  rw [nums_intItems] at hn
  rw [e] at pl
  refine PySem.W.ktm_sumG (I.ok.hd hc) pl fun h' tk t' hk => ?_
  rw [preSum_eq, List.take_of_length_le (by simp), hn]
  exact ⟨.int _, H, I.kept (t' := tk) hk, ⟨_, rfl⟩, q⟩
theorem dpAll_numbers {K : PySem.W.Frag} {H : Hp} : ∀ ns : List Int, DpAll K H (ns.map V.int) (ns.map PyData.int)
  | [] => .nil
  | n :: r => .cons (.int n) (dpAll_numbers r)
theorem depth_numbers : ∀ ns : List Int, PyData.depthAll (ns.map PyData.int) = 0
  | [] => rfl
  | n :: r => by
    show max (PyData.int n).depth (PyData.depthAll (r.map PyData.int)) = 0
    rw [depth_numbers r]; rfl
theorem alike_numbers (ns : List Int) : PySem.W.AlikeAll (ns.map PyData.int) := by
  refine ⟨fun x hx y hy => ?_, fun x hx => ?_⟩
  · obtain ⟨a, _, rfl⟩ := List.mem_map.mp hx
    obtain ⟨b, _, rfl⟩ := List.mem_map.mp hy
    rfl
  · obtain ⟨a, _, rfl⟩ := List.mem_map.mp hx
    exact fun z => nomatch z
theorem cr_maxT (hc : X.calm = true) (hu : X.A.units + 64 < cLine) : CallR X (.builtin "max") (fun vs H Q => ∃ (a : Addr) (n : Int) (ns : List Int), vs = [V.ref a] ∧ SqT X.K H a ((n :: ns).map V.int) ∧ Q (.int (ns.foldl max n)) H) := by
  rintro pins s σ H vs us Q I r ⟨a, n, ns, rfl, hs, q⟩
  obtain ⟨its, rv, pl, _⟩ := I.tuple hs
  rw [Vals.ref1 r]
  obtain ⟨as, ra⟩ := Dp.readsAll I _ _ _ (dpAll_numbers (n :: ns)) rv
  refine PySem.W.max_tuple_data (x := .int n) (xs := ns.map PyData.int) (I.ok.hd hc) pl ra (alike_numbers (n :: ns)) (by rw [← List.map_cons, depth_numbers]; omega) fun i v h' tk bs hi rr hk => ?_
  rw [PySem.W.maxD_ints] at rr
  cases rr with
  | int _ t => exact ⟨.int _, H, I.kept (t' := tk) hk, ⟨t, rfl⟩, q⟩
/-- sum and max of a list or a tuple of ints -/
def oSumA : OC := fun S ds Q => one ds fun d => some! (seqA S d) fun xs => some! (toInts xs) fun bs => Q (.int bs.sum) S
def oMaxA : OC := fun S ds Q => one ds fun d => some! (seqA S d) fun xs => some! (toInts xs) fun bs => 0 < bs.length ∧ ∀ m, m ∈ bs → (∀ y, y ∈ bs → y ≤ m) → Q (.int m) S
theorem rowI {K : PySem.W.Frag} {W : Hp} {S : Sto} {H : Hp} {d : D} {v : V} {k : List Int → Prop} (ok : Ok K W S H) (r : Rep K W d v) (h : some! (seqA S d) fun xs => some! (toInts xs) k) : ∃ a ns, v = .ref a ∧ (SqL K H a (ns.map V.int) ∨ SqT K H a (ns.map V.int)) ∧ k ns := by
  obtain ⟨xs, e1, h⟩ := some!_ex h
  obtain ⟨bs, e2, h⟩ := some!_ex h
  obtain ⟨p, vs, rfl, hq, r1⟩ := seqA_rep ok r e1
  rw [toInts_rep e2 r1] at hq
  exact ⟨p, bs, rfl, hq, h⟩
theorem cd_sumA (hc : X.calm = true) : CallR X (.builtin "sum") (lC X.K oSumA) := CallR.imp ((cr_sum hc).or (cr_sumT hc)) fun vs H Q ⟨W, S, ds, Q0, ok, r, ho, cv⟩ => by
  obtain ⟨d, rfl, ho⟩ := one_ex ho
  obtain ⟨v, rfl, rv⟩ := reps1 r
  obtain ⟨a, bs, rfl, h1, h2⟩ := rowI ok rv ho
  rcases h1 with h1 | h1
  · exact .inl ⟨a, bs, rfl, h1, cv _ S _ W H h2 Stp.refl ok rfl⟩
  · exact .inr ⟨a, bs, rfl, h1, cv _ S _ W H h2 Stp.refl ok rfl⟩
theorem fold_max : ∀ (ns : List Int) (n : Int), ns.foldl max n ∈ n :: ns ∧ ∀ y, y ∈ n :: ns → y ≤ ns.foldl max n
  | [], n => ⟨List.mem_cons_self, fun y hy => by rw [List.mem_singleton.mp hy]; exact Int.le_refl _⟩
  | m :: r, n => by
    obtain ⟨h1, h2⟩ := fold_max r (max n m)
    have hb := h2 (max n m) List.mem_cons_self
    refine ⟨?_, fun y hy => ?_⟩
    · show r.foldl max (max n m) ∈ _
      rcases List.mem_cons.mp h1 with h | h
      · rw [h]
        by_cases z : n ≤ m
        · rw [Int.max_eq_right z]; exact List.mem_cons_of_mem _ List.mem_cons_self
        · rw [Int.max_eq_left (by omega)]; exact List.mem_cons_self
      · exact List.mem_cons_of_mem _ (List.mem_cons_of_mem _ h)
    · show y ≤ r.foldl max (max n m)
      rcases List.mem_cons.mp hy with rfl | hy
      · omega
      · rcases List.mem_cons.mp hy with rfl | hy
        · omega
        · exact h2 y (List.mem_cons_of_mem _ hy)
theorem cd_maxA (hc : X.calm = true) (hu : X.A.units + 64 < cLine) : CallR X (.builtin "max") (lC X.K oMaxA) := CallR.imp ((cr_max hc).or (cr_maxT hc hu)) fun vs H Q ⟨W, S, ds, Q0, ok, r, ho, cv⟩ => by
  obtain ⟨d, rfl, ho⟩ := one_ex ho
  obtain ⟨v, rfl, rv⟩ := reps1 r
  obtain ⟨a, bs, rfl, h1, h2, h3⟩ := rowI ok rv ho
  rcases h1 with h1 | h1
  · exact .inl ⟨a, bs, rfl, h1, h2, fun m q1 q2 => cv _ S _ W H (h3 m q1 q2) Stp.refl ok rfl⟩
  · cases bs with
    | nil => cases h2
    | cons n ns =>
      obtain ⟨m1, m2⟩ := fold_max ns n
      exact .inr ⟨a, n, ns, rfl, h1, cv _ S _ W H (h3 _ m1 m2) Stp.refl ok rfl⟩
end
end DL
set_option Elab.async false
set_option linter.all false
set_option maxRecDepth 100000
set_option maxHeartbeats 2000000
/-! The data layer, part v: zip of lists and tuples in any mix. -/
namespace DL
open PySem PySem.Spec PyProof.Rows L2
/-- a tuple, or a list -/
def SqK (t : Bool) (K : PySem.W.Frag) (H : Hp) (a : Addr) (xs : List V) : Prop := match t with
  | true => SqT K H a xs
  | false => SqL K H a xs
def IterK (t : Bool) (h : Heap) (it a : Addr) (i : Nat) : Prop := match t with
  | true => h.IsTupleIter it a i
  | false => h.IsListIter it a i
def SeqK (t : Bool) (h : Heap) (a : Addr) (its : Array Value) : Prop := match t with
  | true => h.IsTuple a its
  | false => h.IsList a its
theorem IterK.obj {t : Bool} {h : Heap} {it a : Addr} {i : Nat} (s : IterK t h it a i) : ∃ o, h.get? it = some o ∧ ∀ v, o.data ≠ .cell v := by
  cases t with
  | true => obtain ⟨o, e, _, d⟩ := s; exact ⟨o, e, fun v q => by rw [d] at q; cases q⟩
  | false => obtain ⟨o, e, _, d⟩ := s; exact ⟨o, e, fun v q => by rw [d] at q; cases q⟩
theorem IterK.at {t : Bool} {h h' : Heap} {it a : Addr} {i : Nat} (s : IterK t h it a i) (k : ∀ o, h.get? it = some o → h'.get? it = some o) : IterK t h' it a i := by
  cases t with
  | true => exact Heap.IsTupleIter.at s k
  | false => exact Heap.IsListIter.at s k
theorem SeqK.lt {t : Bool} {h : Heap} {a : Addr} {its : Array Value} (s : SeqK t h a its) : a < h.objs.size := by
  cases t with
  | true => obtain ⟨o, e, _⟩ := s; exact Heap.lt_size e
  | false => obtain ⟨o, e, _⟩ := s; exact Heap.lt_size e
theorem drawsK {t : Bool} {prog : Program} {w : World} {A : Around} (hh : A.handled = none) (it a : Addr) (hne : a ≠ it) (its : Array Value) :
    Draws prog w A it [it, a] its.size (fun i v => its[i]? = some v) (fun i h => IterK t h it a i ∧ SeqK t h a its) := by
  cases t with
  | true => exact Draws.tuple hh it a hne its
  | false => exact Draws.list hh it a hne its
theorem sqK_at {X : Cx} {pins : List (Addr × Obj)} {σ : L2.St} {H : Hp} {s : Shared} {t : Bool} {a : Addr} {xs : List V} (I : L2.Inv X pins σ H s) (h : SqK t X.K H a xs) : ∃ its : List Value, Vals xs its ∧ SeqK t s.heap a its.toArray := by
  cases t with
  | true => obtain ⟨its, rv, p, _⟩ := I.tuple h; exact ⟨its, rv, p⟩
  | false => obtain ⟨its, rv, p, _⟩ := I.list h; exact ⟨its, rv, p.isList⟩
theorem sqK_inj {X : Cx} {pins : List (Addr × Obj)} {σ : L2.St} {H : Hp} {s : Shared} {t : Bool} {a : Addr} {xs ys : List V} (I : L2.Inv X pins σ H s) (h : SqK t X.K H a xs) (h2 : SqK t X.K H a ys) : xs = ys := by
  cases t with
  | true => exact I.tuple_inj h h2
  | false => exact I.list_inj h h2
def beginK (t : Bool) (a : Addr) : Obj := match t with
  | true => { cls := .type "tuple_iterator", data := .fields #[.ref a, .int 0 0] }
  | false => { cls := .type "list_iterator", data := .fields #[.ref a, .int 0 0] }
theorem beginsK {t : Bool} (a : Addr) (its : Array Value) : PySem.Begins (.ref a) (beginK t a) fun h => SeqK t h a its := by
  cases t with
  | true => exact begins_tuple a its
  | false => exact begins_list a its
theorem iterK_0 {t : Bool} {h : Heap} {it a : Addr} (e : h.get? it = some (beginK t a)) : IterK t h it a 0 := by
  cases t with
  | true => exact ⟨_, e, rfl, rfl⟩
  | false => exact ⟨_, e, rfl, rfl⟩
/-- the two as they stand at each turn, the items in new pairs -/
def ItzK (t u : Bool) (K : PySem.W.Frag) (a b : Addr) : It :=
  ⟨fun i H => ∃ (xs ys : List V) (x y : V), SqK t K H a xs ∧ SqK u K H b ys ∧ xs[i]? = some x ∧ ys[i]? = some y,
    fun i H v H' => ∃ T x y, v = .ref T ∧ H T = none ∧ H' = upd H T (.tup [x, y]) ∧ (∀ xs, SqK t K H a xs → xs[i]? = some x) ∧ ∀ ys, SqK u K H b ys → ys[i]? = some y,
    fun i H => ∃ xs ys : List V, SqK t K H a xs ∧ SqK u K H b ys ∧ i ≤ xs.length ∧ i ≤ ys.length ∧ (i = xs.length ∨ i = ys.length)⟩
theorem turn_zipK {t u : Bool} {P : Program} {w : World} {K : PySem.W.Frag} {elts : List Expr} {kk : Nat} {tpos : Pos} {a b z TI TO i1 i2 : Addr} (D : ZipSep2 z TI TO i1 i2 [i1, a] [i2, b]) (n1 : a ≠ i1) (n2 : b ≠ i2) :
    Turn P w K (.Tuple elts kk tpos) (ItzK t u K a b) [z, TI, TO, i1, i2] z (fun i h => IsZip h z TI TO .none ∧ IsTupOf2 h TI (.ref i1) (.ref i2) ∧ (∃ x y, IsTupOf2 h TO x y) ∧ IterK t h i1 a i ∧ IterK u h i2 b i) where
  mem := by simp
  obj := fun i h st c hc => by
    obtain ⟨hz, hTI, ⟨x, y, hTO⟩, h1, h2⟩ := st
    have e' : c = z ∨ c = TI ∨ c = TO ∨ c = i1 ∨ c = i2 := by simpa using hc
    rcases e' with q | q | q | q | q
    · rw [q]; exact ⟨_, hz, fun v q => nomatch q⟩
    · rw [q]; exact ⟨_, hTI, fun v q => nomatch q⟩
    · rw [q]; exact ⟨_, hTO, fun v q => nomatch q⟩
    · rw [q]; exact h1.obj
    · rw [q]; exact h2.obj
  keep := fun i h h' st k => by
    obtain ⟨hz, hTI, ⟨x, y, hTO⟩, h1, h2⟩ := st
    exact ⟨k z (by simp) _ hz, k TI (by simp) _ hTI, ⟨x, y, k TO (by simp) _ hTO⟩, h1.at fun o q => k i1 (by simp) o q, h2.at fun o q => k i2 (by simp) o q⟩
  item := by
    intro X hP hw hK hc i pins s σ H E I hf st hg
    subst hP hw hK
    obtain ⟨hz, hTI, ⟨x0, y0, hTO⟩, h1, h2⟩ := st
    obtain ⟨xs, ys, x, y, hqx, hqy, hx, hy⟩ := hg
    obtain ⟨its, rv, p⟩ := sqK_at I hqx
    obtain ⟨its2, rv2, p2⟩ := sqK_at I hqy
    obtain ⟨v1, hv1, ru⟩ := rv.get hx
    obtain ⟨v2, hv2, ru2⟩ := rv2.get hy
    have hzl : z < s.heap.objs.size := Heap.lt_size hz
    have hh : X.A.in1.handled = Option.none := I.ok.hd hc
    have hlt1 : i < its.toArray.size := by have := lt_of_some hv1; simpa using this
    have hlt2 : i < its2.toArray.size := by have := lt_of_some hv2; simpa using this
    refine wpAny_pyNext_zipD2_item D (drawsK hh i1 a n1 its.toArray) (drawsK hh i2 b n2 its2.toArray) hz hTI hTO ⟨h1, p⟩ ⟨h2, p2⟩ hlt1 hlt2 fun x1 x2 h' tk q1 q2 z' TO' s1 s2 hT hsz hk => ?_
    have e1 : x1 = v1 := by
      have : its[i]? = some x1 := by simpa using q1
      rw [hv1] at this; exact (Option.some.inj this).symm
    have e2 : x2 = v2 := by
      have : its2[i]? = some x2 := by simpa using q2
      rw [hv2] at this; exact (Option.some.inj this).symm
    subst e1 e2
    refine ⟨_, rfl, wpAny_letOwnedTupleGo_zip (s := { s with heap := h', toks := tk }) z' fun h'' z'' sb => ?_⟩
    have hT2 : h''.get? s.heap.objs.size = some { cls := .type "tuple", data := .seq #[x1, x2] } := (sb.2 _ (Nat.ne_of_gt hzl)).trans hT
    have new : ObjOk X.prog X.w (upd H s.heap.objs.size (.tup [x, y])) h'' s.heap.objs.size (.tup [x, y]) :=
      ⟨by show 2 ≤ sizeLine; decide, [x1, x2], .cons ru (.cons ru2 .nil), ⟨_, hT2, rfl, _, rfl⟩⟩
    have I1 : L2.Inv X pins σ (upd H s.heap.objs.size (.tup [x, y])) { s with heap := h'', toks := tk } :=
      I.turnedNew (t' := tk) (ch := [z, TI, TO, i1, i2]) (fun c o hb q => (sb.2 c (fun q' => hb (by simp [q']))).trans (hk c o (fun q' => hb (by simp [q'])) (fun q' => hb (by simp [q'])) (fun q' => hb (by simp [q'])) (fun q' => hb (by simp [q'])) q)) hf (Nat.le_refl _) new
    refine ⟨.ref s.heap.objs.size, _, I1, rfl, ⟨_, x, y, rfl, I.hok.fresh (Nat.le_refl _), rfl, fun l hl => by rw [sqK_inj I hl hqx]; exact hx, fun l hl => by rw [sqK_inj I hl hqy]; exact hy⟩, ⟨z'', ?_, ⟨x1, x2, ?_⟩, ?_, ?_⟩, fun c hcm => ?_⟩
    · exact (sb.2 _ D.TIz).trans (hk _ _ D.TIz D.TITO D.TIi1 D.TIi2 hTI)
    · exact (sb.2 _ D.TOz).trans TO'
    · exact s1.1.at fun o q => (sb.2 _ (Ne.symm D.zi1)).trans q
    · exact s2.1.at fun o q => (sb.2 _ (Ne.symm D.zi2)).trans q
    · have hlt : c < s.heap.objs.size := by
        have e' : c = z ∨ c = TI ∨ c = TO ∨ c = i1 ∨ c = i2 := by simpa using hcm
        rcases e' with q | q | q | q | q
        · rw [q]; exact hzl
        · rw [q]; exact Heap.lt_size hTI
        · rw [q]; exact Heap.lt_size hTO
        · rw [q]; obtain ⟨_, e1, _⟩ := h1.obj; exact Heap.lt_size e1
        · rw [q]; obtain ⟨_, e1, _⟩ := h2.obj; exact Heap.lt_size e1
      rw [upd_ne (Nat.ne_of_lt hlt)]
      exact (hf c hcm).1
  done := by
    intro X hP hw hK hc i pins s σ H E I hf st hg
    subst hP hw hK
    obtain ⟨hz, hTI, ⟨x0, y0, hTO⟩, h1, h2⟩ := st
    obtain ⟨xs, ys, hqx, hqy, l1, l2, hend⟩ := hg
    obtain ⟨its, rv, p⟩ := sqK_at I hqx
    obtain ⟨its2, rv2, p2⟩ := sqK_at I hqy
    have l3 := rv.length
    have l4 := rv2.length
    have hh : X.A.in1.handled = Option.none := I.ok.hd hc
    exact wpAny_pyNext_zipD2_end D (drawsK hh i1 a n1 its.toArray) (drawsK hh i2 b n2 its2.toArray) hz hTI hTO ⟨h1, p⟩ ⟨h2, p2⟩ (by simp; omega) (by simp; omega) (by simp; omega) fun h' tk hk =>
      ⟨rfl, I.turnedL (t' := tk) (ch := [z, TI, TO, i1, i2]) (fun c o hb q => hk c o (fun q' => hb (by simp [q'])) (fun q' => hb (by simp [q'])) (fun q' => hb (by simp [q'])) (fun q' => hb (by simp [q'])) q) hf⟩
  self := fun A i s Q E st h => wpAny_pyIter_zip st.1 h
def iZipK (K : PySem.W.Frag) (ta : TA) : TI := fun σ H R => ta σ H fun vs H1 => ∃ (a b : Addr) (t u : Bool), vs = [.ref a, .ref b] ∧ (∃ xs, SqK t K H1 a xs) ∧ (∃ ys, SqK u K H1 b ys) ∧ R (ItzK t u K a b) H1
theorem pi_zipK {X : Cx} {e e2 : Expr} {ta : TA} {p pos tpos : Pos} {elts : List Expr} {kk : Nat} (hg : Gl X "zip") (hm : X.mg "zip" = none) (ha : PA X [e, e2] ta)
    (hs : starEach [e, e2] X.env = (false, eval e X.env) :: starEach [e2] X.env := by rfl) (hpl : (backTo pos (starEach [e2] X.env)).any (·.1) = false := by rfl) :
    PI X (.Tuple elts kk tpos) (.Call (.Name "zip" p) [e, e2] [] pos) (iZipK X.K ta) := by
  refine ⟨fun pins s σ H R I h => ?_⟩
  refine Call_ (ld_blt I hg hm PyProof.Rows.boot_zip (PyProof.Rows.callWith_type1 (thn (ha.run pos pins s σ H _ I h) fun us s1 ⟨vs, H1, I1, r1, q1⟩ => ?_) hs hpl))
  obtain ⟨a, b, t, u, ex, ⟨xs, hqx⟩, ⟨ys, hqy⟩, q⟩ := q1
  subst ex
  cases r1 with
  | cons r rr =>
    cases rr with
    | cons r' rr =>
      cases rr
      cases r
      cases r'
      have fresh5 : ∀ c, c ∈ [s1.heap.objs.size + 4, s1.heap.objs.size + 2, s1.heap.objs.size + 3, s1.heap.objs.size, s1.heap.objs.size + 1] → FpOk X pins H1 c := fun c hcm => by
        have e' : c = s1.heap.objs.size + 4 ∨ c = s1.heap.objs.size + 2 ∨ c = s1.heap.objs.size + 3 ∨ c = s1.heap.objs.size ∨ c = s1.heap.objs.size + 1 := by simpa using hcm
        have hle : s1.heap.objs.size ≤ c := by omega
        exact I1.fpOk hle (I1.hok.fresh hle)
      obtain ⟨its, rv, p1⟩ := sqK_at I1 hqx
      obtain ⟨its2, rv2, p2⟩ := sqK_at I1 hqy
      refine zip_begins2 (beginsK a its.toArray) (beginsK b its2.toArray) p1 p2 fun h' hz hTI hTO h1 h2 hsz hk => wpAny_pyIter_zip hz ?_
      have I2 : L2.Inv X pins σ H1 { s1 with heap := h' } := I1.kept (t' := s1.toks) hk
      have la := p1.lt
      have lb := p2.lt
      exact ⟨s1.heap.objs.size + 4, [s1.heap.objs.size + 4, s1.heap.objs.size + 2, s1.heap.objs.size + 3, s1.heap.objs.size, s1.heap.objs.size + 1], _, _, H1, rfl, I2,
        turn_zipK (PySem.zip_sep2 (fp1 := [a]) (fp2 := [b]) (fun c hc => by rw [List.mem_singleton] at hc; subst hc; exact la) (fun c hc => by rw [List.mem_singleton] at hc; subst hc; exact lb)) (Nat.ne_of_lt la) (Nat.ne_of_lt (Nat.lt_succ_of_lt lb)), ⟨hz, hTI, ⟨_, _, hTO⟩, iterK_0 h1, iterK_0 h2⟩, fresh5, q⟩
/-- pairs, as many as the shorter has -/
def zipD (xs ys : List D) : List D := (xs.zip ys).map fun p => .tup [p.1, p.2]
theorem zipD_get {xs ys : List D} {i : Nat} {d : D} (h : (zipD xs ys)[i]? = some d) : ∃ x y, xs[i]? = some x ∧ ys[i]? = some y ∧ d = .tup [x, y] := by
  unfold zipD at h
  rw [List.getElem?_map] at h
  obtain ⟨p, hp, rfl⟩ := Option.map_eq_some_iff.mp h
  obtain ⟨h1, h2⟩ := List.getElem?_zip_eq_some.mp hp
  exact ⟨p.1, p.2, h1, h2, rfl⟩
theorem zipD_length {xs ys : List D} : (zipD xs ys).length = min xs.length ys.length := by
  unfold zipD
  rw [List.length_map, List.length_zip]
def wZip (wa wb : WPe) : WPi := fun env S Q X => wa env S (fun d S1 => wb env S1 (fun e S2 => some! (seqA S2 d) fun xs => some! (seqA S2 e) fun ys => Q (zipD xs ys) (fun S' => seqA S' d = some xs ∧ seqA S' e = some ys) S2) X) X
section
variable {K : PySem.W.Frag}
/-- what stands at an address, again and again -/
theorem seqK_rep {W0 : Hp} {S0 : Sto} {H0 : Hp} {d : D} {v : V} {xs : List D} (ok : Ok K W0 S0 H0) (r : Rep K W0 d v) (h : seqA S0 d = some xs) : ∃ (a : Addr) (t : Bool), v = .ref a ∧ ∀ W S H, Same W0 W → Ok K W S H → seqA S d = some xs → ∃ vs, SqK t K H a vs ∧ Reps K W xs vs := by
  obtain ⟨a, vs, rfl, _, _⟩ := seqA_rep ok r h
  have li : (∀ {S}, seqA S d = seqL S d) → ∀ W S H, Same W0 W → Ok K W S H → seqA S d = some xs → ∃ vs, SqK false K H a vs ∧ Reps K W xs vs := fun hA W S H s1 ok1 g => by
    rw [hA] at g
    obtain ⟨c, zs, e7, e8, e9⟩ := seqL_rep ok1 (r.mono s1) g
    cases e7
    exact ⟨zs, e8, e9⟩
  cases d with
  | tup ys =>
    cases h
    obtain ⟨b, ws, e1, e2, e3⟩ := r
    cases e1
    exact ⟨_, true, rfl, fun W S H s1 ok1 _ => ⟨ws, sqT_mono (s1.trans ok1.vis) e2, e3.mono s1⟩⟩
  | lst ys => exact ⟨_, false, rfl, li rfl⟩
  | fro ys => exact ⟨_, false, rfl, li rfl⟩
  | ref b => exact ⟨_, false, rfl, li rfl⟩
  | _ => cases h
end
theorem pdi_zip {X : Cx} {e e2 : Expr} {wa wb : WPe} {p pos tpos : Pos} {elts : List Expr} {kk : Nat} (hm : X.mg "zip" = none) (ha : PD X e wa) (hb : PD X e2 wb) (hg : Gl X "zip" := by rfl)
    (hs : starEach [e, e2] X.env = (false, eval e X.env) :: starEach [e2] X.env := by rfl) (hs2 : starEach [e2] X.env = (false, eval e2 X.env) :: starEach [] X.env := by rfl) (hpl : (backTo pos (starEach [e2] X.env)).any (·.1) = false := by rfl) :
    PDi X (.Tuple elts kk tpos) (.Call (.Name "zip" p) [e, e2] [] pos) (wZip wa wb) :=
  ⟨fun Wx tk => PI.imp (pi_zipK hg hm (pa_cons (ha.run Wx tk) (pa_cons (hb.run Wx tk) pa_nil hs2) hs) hs hpl) fun σ H R ⟨W, env, S, Q0, X1, ok, sl, hw, cv, cx⟩ => ⟨W, env, S, _, X1, ok, sl, hw, fun d S1 v W1 H1 h1 s1 ok1 r1 =>
    ⟨W1, env, S1, _, X1, ok1, sl.mono s1.vis, h1, fun d2 S2 v2 W2 H2 h2 s2 ok2 r2 => by
    obtain ⟨xs, e1, h2⟩ := some!_ex h2
    obtain ⟨ys, e3, h2⟩ := some!_ex h2
    have r1' := r1.mono s2.vis
    obtain ⟨a, t, rfl, ka⟩ := seqK_rep ok2 r1' e1
    obtain ⟨b, u, rfl, kb⟩ := seqK_rep ok2 r2 e3
    obtain ⟨vs, q1, _⟩ := ka W2 S2 H2 (Same.refl W2) ok2 e1
    obtain ⟨ws, q2, _⟩ := kb W2 S2 H2 (Same.refl W2) ok2 e3
    refine ⟨a, b, t, u, rfl, ⟨vs, q1⟩, ⟨ws, q2⟩, cv _ _ S2 W2 H2 _ h2 (s1.trans s2) ok2 ⟨fun i W S H d' hd s3 ok3 ⟨g1, g2⟩ => ?_, fun W S H s3 ok3 ⟨g1, g2⟩ => ?_⟩⟩
    · obtain ⟨x, y, hx, hy, rfl⟩ := zipD_get hd
      obtain ⟨vs3, q3, rv3⟩ := ka W S H s3 ok3 g1
      obtain ⟨ws3, q4, rw3⟩ := kb W S H s3 ok3 g2
      obtain ⟨v1, hv1, ru1⟩ := rv3.get hx
      obtain ⟨v2, hv2, ru2⟩ := rw3.get hy
      refine ⟨⟨vs3, ws3, v1, v2, q3, q4, hv1, hv2⟩, fun x' H' ⟨T, y1, y2, e4, e5, e6, e7, e8⟩ => ?_⟩
      subst e4 e6
      have e9 := e7 vs3 q3
      rw [hv1] at e9
      cases e9
      have e10 := e8 ws3 q4
      rw [hv2] at e10
      cases e10
      have n := ok3.fresh e5
      exact ⟨_, ok3.stW e5, ok3.newW e5, T, _, rfl, SqT.of upd_same, _, _, rfl, ru1.mono (same_new n.1), _, _, rfl, ru2.mono (same_new n.1), rfl⟩
    · obtain ⟨vs3, q3, rv3⟩ := ka W S H s3 ok3 g1
      obtain ⟨ws3, q4, rw3⟩ := kb W S H s3 ok3 g2
      have l1 := rv3.length
      have l2 := rw3.length
      rw [zipD_length]
      exact ⟨vs3, ws3, q3, q4, by omega, by omega, by omega⟩, cx.mono s1⟩, cx⟩⟩
end DL
set_option Elab.async false
set_option linter.all false
set_option maxRecDepth 100000
set_option maxHeartbeats 2000000
/-! The data layer, part w: classes called by keyword, keyword-only parameters with defaults, constant tuples. -/
namespace DL
open PySem PySem.Spec PyProof.Rows L2
section
variable {X : Cx} {C : Addr} {k n m : Nat} {f : Addr} {fd : FuncData} {ps ks : List Str} {perm : List Nat} {spec : Ctr} {x : Str} {p pos : Pos} {e : Expr} {es : List Expr} {kws : List Keyword} {wa wk : WPa}
theorem run_makeKS {CX : CXT} {sp : Sp} {E : L2.St → XK} {g : List Value → List Value → List Value} {gV : List V → List V → List V} {pins : List (Addr × Obj)} {σ : L2.St} {H : Hp} {s : Shared} {Q : VK} {us ws : List Value} {vs zs : List V} (M : Mk X.K C f) (F : FnOk X.prog X.w X.K X.mg X.base CX k f fd ps sp) (hr : Room (k + 1) X.A)
    (hb : KBinds X.K fd ps ks g gV) (hx : PassesAt CX X σ (E σ)) (I : L2.Inv X pins σ H s) (r : Vals vs us) (rz : Vals zs ws)
    (h : ∀ x dx, H x = none → H dx = none → dx ≠ x → sp (gV (.ref x :: vs) zs) (upd (upd H dx (.own x)) x (.ins C dx [])) (fun v H2 => v = .non ∧ Q (.ref x) H2) (E σ)) :
    wpAny (model X.prog X.w) X.A (call (.ref C) us (ks.zip ws)) (EP X pins σ Q) X.xe s := by
  have hq := h (s.heap.objs.size + 1) s.heap.objs.size (I.hok.fresh (Nat.le_succ _)) (I.hok.fresh (Nat.le_refl _)) (Nat.ne_of_lt (Nat.lt_succ_self _))
  have I2 := Inv.made (C := C) I
  have r1 : Vals (V.ref (s.heap.objs.size + 1) :: vs) (Value.ref (s.heap.objs.size + 1) :: us) := .cons rfl r
  have r2 := hb.rel r1 rz
  have hl : (g (Value.ref (s.heap.objs.size + 1) :: us) ws).length = ps.length := by rw [← r2.length]; exact F.len _ _ _ _ hq
  refine wpAny_call (make_map (f := f) I.kIn M.makes M.init (beq_iff_eq.mp M.fn) (codeAny_mono (F.run _ X.stack _ _ ⟨Value.ref (s.heap.objs.size + 1) :: us, ks.zip ws⟩ (g (Value.ref (s.heap.objs.size + 1) :: us) ws) _ _ (E σ) (hr.make C us (ks.zip ws))
    (I2.env0.make C us (ks.zip ws)) (hb.to _ (Value.ref (s.heap.objs.size + 1) :: us) ws I2.kIn hl) r2 hq) fun r s' hq' => ?_))
  cases r with
  | error e => exact hx pins _ _ e s' I2 hq'
  | ok fl =>
    cases fl with
    | ret u =>
      obtain ⟨v, H', I3, rv, ev, q3⟩ := I2.after hq'
      subst ev
      exact ⟨rv, ⟨V.ref (s.heap.objs.size + 1), H', I3, rfl, q3⟩⟩
    | next => exact False.elim hq'
    | brk => exact False.elim hq'
    | cont => exact False.elim hq'
/-- C(e, .., k = v, ..): n positional values (the new instance among them), m by name -/
def wMakeK (C : Addr) (N : List Str) (spec : Ctr) (n m : Nat) (perm : List Nat) (wa wk : WPa) : WPe := fun env S Q X => wa env S (fun ds S1 => wk env S1 (fun es S2 => ∀ x, S2 x = none → spec (pickK n m perm (.ref x :: ds) es) (put S2 x (.ins C N (noneV N))) (fun r S3 => r = .non ∧ Q (.ref x) S3) X) X) X
theorem pd_makeK {N : List Str} (M : Mk X.K C f) (hN : N.Nodup) (hl : N.length ≤ 900) (F : FnD X.prog X.w X.K X.mg X.base k f fd ps spec) (hr : Room (k + 1) X.A) (hm : X.mg x = some (.ref C)) (hb : KBinds X.K fd ps ks (fun us ws => pickK n m perm us ws) (fun us ws => pickK n m perm us ws))
    (ha : PDa X (e :: es) wa) (hkw : PDk X kws wk) (hg : Gl X x := by rfl) (hdb : (x == ("__debug__" : Str)) = false := by decide) (hall : (backToKw pos (keywordEach kws X.env)).all (·.1.isSome) = true := by rfl) (hks : (backToKw pos (keywordEach kws X.env)).filterMap (·.1) = ks := by rfl)
    (he : starEach (e :: es) X.env = (false, eval e X.env) :: starEach es X.env := by rfl)
    (hpl : ((backTo pos (starEach (e :: es) X.env)).any (·.1) || (backToKw pos (keywordEach kws X.env)).any (·.1.isNone)) = false := by rfl) : PD X (.Call (.Name x p) (e :: es) kws pos) (wMakeK C N spec n m perm wa wk) := by
  refine ⟨fun Wx tk => ⟨fun pins s σ H Q I h => ?_⟩⟩
  obtain ⟨W, env, S, Q0, X1, ok, sl, hw, cv, cx⟩ := h
  refine wpAny_Call_Name_kw (ld_glob I hg hm ?_ hdb)
  have h1 : lA X.K Wx wa σ H fun vs H1 => lA X.K Wx wk σ H1 fun zs H2 => ∀ y dy, H2 y = none → H2 dy = none → dy ≠ y →
      lSp X.K spec (pickK n m perm (.ref y :: vs) zs) (upd (upd H2 dy (.own y)) y (.ins C dy [])) (fun v H3 => v = .non ∧ Q (.ref y) H3) fun c d H' => Wx c d σ H' := ⟨W, env, S, _, X1, ok, sl, hw, fun ds S1 vs W1 H1 h1 s1 ok1 r1 =>
    ⟨W1, env, S1, _, X1, ok1, sl.mono s1.vis, h1, fun es S2 zs W2 H2 h2 s2 ok2 r2 y dy hy hdy hne => by
      have hy2 : (upd H2 dy (HO.own y)) y = none := by rw [upd_ne (Ne.symm hne)]; exact hy
      have ok3 := (ok2.junk (o := .own y) hdy).newS (m := .ins C N (noneV N)) (o := .ins C dy []) hy2 ⟨dy, [], rfl, frep_new hN hl⟩
      have st := (ok2.stJ (o := .own y) hdy).trans (Ok.stS (m := .ins C N (noneV N)) (o := .ins C dy []) (ok2.junk (o := .own y) hdy) hy2)
      exact ⟨W2, _, pickK n m perm (.ref y :: ds) es, _, X1, ok3, reps_pickK (ds := .ref y :: ds) (vs := .ref y :: vs) ⟨_, _, rfl, rfl, r1.mono s2.vis⟩ r2, h2 y (ok2.fresh hy).2, fun d S3 v W3 H3 ⟨hd, h3⟩ s3 ok4 r4 => by
        subst hd
        exact ⟨r4, cv _ S3 _ W3 H3 h3 (s1.trans (s2.trans (st.trans s3))) ok4 rfl⟩, cx.mono (s1.trans (s2.trans st))⟩, cx.mono s1⟩, cx⟩
  refine PySem.W.callWith_KW (h₀ := X.base) I.ok.mod.kin M.kp hall (thn ((ha.run Wx tk).run pos pins s σ H _ I h1) fun us s1 ⟨vs, H1, I1, r, q⟩ => ?_) hpl he
  refine thn ((hkw.run Wx tk).run pos pins s1 σ H1 _ I1 q) fun ws s2 ⟨zs, H2, I2, rz, q2⟩ => ⟨I2.kIn, ?_⟩
  rw [hks]
  exact run_makeKS M F hr hb (passAt tk σ) I2 r rz q2
end
def MkAtK (K : PySem.W.Frag) (C : Addr) (qual : Str) (st : Stmt) (ps ks : List Str) (n m : Nat) (perm : List Nat) : Prop := ∃ f fd, Fun K "__init__" qual st f fd ∧ Mk K C f ∧ KBinds K fd ps ks (fun us ws => pickK n m perm us ws) (fun us ws => pickK n m perm us ws)
def MkCK (P : Program) (w : World) (K : PySem.W.Frag) (mg : Str → Option Value) (base : Heap) (C : Addr) (k : Nat) (ps ks : List Str) (n m : Nat) (perm : List Nat) (spec : Ctr) : Prop :=
  ∃ f fd, FnD P w K mg base k f fd ps spec ∧ Mk K C f ∧ KBinds K fd ps ks (fun us ws => pickK n m perm us ws) (fun us ws => pickK n m perm us ws)
theorem MkCK.mk {P : Program} {w : World} {K : PySem.W.Frag} {mg : Str → Option Value} {base : Heap} {C : Addr} {qual : Str} {st : Stmt} {N ps ks : List Str} {k n m : Nat} {perm : List Nat} {spec : Ctr} {ws : WPs} (D : MkAtK K C qual st ps ks n m perm) (S : FnScope N ps (defScope st)) (hle : ps.length ≤ N.length)
    (len : ∀ ds S Q E, spec ds S Q E → ds.length = ps.length)
    (hd : ∀ (f : Addr) (cdv : Value) (A : Around) (outer : List Env) (s : Shared) (H : Hp) (E : XK), Room k (A.deeper (envOfC qual (defScope st) s.heap.objs.size f cdv)) → PDss (cxOf (L2.CX P w) P w K mg base N qual (defScope st) f cdv A outer s H E) (defBody st) ws)
    (hr : ∀ ds S Q X1, spec ds S Q X1 → ws (startD N ds) S (endQ Q X1)) : MkCK P w K mg base C (k + 1) ps ks n m perm spec := by
  obtain ⟨f, fd, F, hm, hb⟩ := D
  exact ⟨f, fd, fnd_mk F S hle len hd hr, hm, hb⟩
section
variable {X : Cx} {x : Str} {p pos : Pos} {e : Expr} {es : List Expr} {kws : List Keyword} {wa wk : WPa} {k n m : Nat} {perm : List Nat} {ps ks : List Str} {spec : Ctr} {C : Addr}
theorem pd_mkK {N : List Str} (G : MkCK X.prog X.w X.K X.mg X.base C k ps ks n m perm spec) (hm : X.mg x = some (.ref C)) (hN : N.Nodup) (hl : N.length ≤ 900) (hr : Room (k + 1) X.A) (ha : PDa X (e :: es) wa) (hkw : PDk X kws wk)
    (hg : Gl X x := by rfl) (hdb : (x == ("__debug__" : Str)) = false := by decide) (hall : (backToKw pos (keywordEach kws X.env)).all (·.1.isSome) = true := by rfl) (hks : (backToKw pos (keywordEach kws X.env)).filterMap (·.1) = ks := by rfl)
    (he : starEach (e :: es) X.env = (false, eval e X.env) :: starEach es X.env := by rfl)
    (hpl : ((backTo pos (starEach (e :: es) X.env)).any (·.1) || (backToKw pos (keywordEach kws X.env)).any (·.1.isNone)) = false := by rfl) : PD X (.Call (.Name x p) (e :: es) kws pos) (wMakeK C N spec n m perm wa wk) := by
  obtain ⟨f, fd, F, M, hb⟩ := G
  exact pd_makeK M hN hl F hr hm hb ha hkw hg hdb hall hks he hpl
end
/-! ### defaults that fill up -/
def DefAtD (K : PySem.W.Frag) (mg : Str → Option Value) (x qual : Str) (st : Stmt) (ps : List Str) (dfl : List D) : Prop := ∃ f fd, Fun K x qual st f fd ∧ mg x = some (.ref f) ∧ ∃ dvs us, Reps K (fun _ => none) dfl dvs ∧ Vals dvs us ∧ Binds K fd ps us
def FnCD (P : Program) (w : World) (K : PySem.W.Frag) (mg : Str → Option Value) (base : Heap) (k : Nat) (x : Str) (ps : List Str) (dfl : List D) (spec : Ctr) : Prop :=
  ∃ f fd, FnD P w K mg base k f fd ps spec ∧ mg x = some (.ref f) ∧ PySem.W.keepIn K (.ref f) = true ∧ ∃ dvs us, Reps K (fun _ => none) dfl dvs ∧ Vals dvs us ∧ Binds K fd ps us
theorem FnCD.mk {P : Program} {w : World} {K : PySem.W.Frag} {mg : Str → Option Value} {base : Heap} {x qual : Str} {st : Stmt} {N ps : List Str} {k : Nat} {dfl : List D} {spec : Ctr} {ws : WPs} (D : DefAtD K mg x qual st ps dfl) (S : FnScope N ps (defScope st)) (hle : ps.length ≤ N.length)
    (len : ∀ ds S Q E, spec ds S Q E → ds.length = ps.length)
    (hd : ∀ (f : Addr) (cdv : Value) (A : Around) (outer : List Env) (s : Shared) (H : Hp) (E : XK), Room k (A.deeper (envOfC qual (defScope st) s.heap.objs.size f cdv)) → PDss (cxOf (L2.CX P w) P w K mg base N qual (defScope st) f cdv A outer s H E) (defBody st) ws)
    (hr : ∀ ds S Q X1, spec ds S Q X1 → ws (startD N ds) S (endQ Q X1)) : FnCD P w K mg base (k + 1) x ps dfl spec := by
  obtain ⟨f, fd, F, hm, hb⟩ := D
  exact ⟨f, fd, fnd_mk F S hle len hd hr, hm, F.kp, hb⟩
/-- f(e, ..), the rest filled up -/
def wCallD (spec : Ctr) (dfl : List D) (wa : WPa) : WPe := fun env S Q X => wa env S (fun ds S1 => spec (ds ++ dfl) S1 Q X) X
theorem same_no {H : Hp} : Same (fun _ => none) H := fun _ _ z => by cases z
theorem run_fnDS {X : Cx} {k : Nat} {f : Addr} {fd : FuncData} {ps : List Str} {CX : CXT} {sp : Sp} {E : L2.St → XK} {pins : List (Addr × Obj)} {σ : L2.St} {H : Hp} {s : Shared} {Q : VK} {us ds : List Value} {vs dvs : List V}
    (F : FnOk X.prog X.w X.K X.mg X.base CX k f fd ps sp) (hr : Room k X.A) (hb : Binds X.K fd ps ds) (hd : Vals dvs ds) (hx : PassesAt CX X σ (E σ)) (I : L2.Inv X pins σ H s) (r1 : Vals vs us) (h : sp (vs ++ dvs) H Q (E σ)) :
    wpAny (model X.prog X.w) X.A (call (.ref f) us) (EP X pins σ Q) X.xe s := by
  have rr := r1.append hd
  have hl : (us ++ ds).length = ps.length := by rw [← rr.length]; exact F.len _ _ _ _ h
  refine wpAny_call (codeAny_mono (F.run X.A X.stack s H ⟨us, []⟩ (us ++ ds) (vs ++ dvs) Q (E σ) hr I.env0 (hb s us I.kIn hl) rr h) fun r s' hq => ?_)
  cases r with
  | error e => exact hx pins H s e s' I hq
  | ok fl =>
    cases fl with
    | ret u => exact I.after hq
    | next => exact hq.elim
    | brk => exact hq.elim
    | cont => exact hq.elim
theorem pd_fnD {X : Cx} {x : Str} {p pos : Pos} {e : Expr} {es : List Expr} {wa : WPa} {k : Nat} {ps : List Str} {dfl : List D} {spec : Ctr} (G : FnCD X.prog X.w X.K X.mg X.base k x ps dfl spec) (hr : Room k X.A) (ha : PDa X (e :: es) wa) (hg : Gl X x := by rfl) (hdb : (x == ("__debug__" : Str)) = false := by decide)
    (he : starEach (e :: es) X.env = (false, eval e X.env) :: starEach es X.env := by rfl) (hpl : (backTo pos (starEach es X.env)).any (·.1) = false := by rfl) : PD X (.Call (.Name x p) (e :: es) [] pos) (wCallD spec dfl wa) := by
  obtain ⟨f, fd, F, hm, hk, dvs, us0, rd, vd, hb⟩ := G
  refine ⟨fun Wx tk => ⟨fun pins s σ H Q I h => ?_⟩⟩
  obtain ⟨W, env, S, Q0, X1, ok, sl, hw, cv, cx⟩ := h
  refine wpAny_Call_Name_kw (ld_glob I hg hm ?_ hdb)
  have h1 : lA X.K Wx wa σ H fun vs H1 => lSp X.K spec (vs ++ dvs) H1 Q fun c d H' => Wx c d σ H' := ⟨W, env, S, _, X1, ok, sl, hw, fun ds S1 vs W1 H1 h1 s1 ok1 r1 =>
    ⟨W1, S1, ds ++ dfl, Q0, X1, ok1, r1.append (rd.mono same_no), h1, cv.mono s1, cx.mono s1⟩, cx⟩
  refine PySem.W.callWith_K (h₀ := X.base) I.ok.mod.kin hk (thn ((ha.run Wx tk).run pos pins s σ H _ I h1) fun us s1 ⟨vs, H1, I1, r, q⟩ => ⟨I1.kIn, ?_⟩) he hpl
  exact run_fnDS F hr hb vd (passAt tk σ) I1 r q
/-! ### a product with one small factor -/
abbrev oMulS : O2 := oI CMul fun i j => .int (i * j)
theorem opd_mulS {X : Cx} : OpR X (binaryOp .Mult) (lOp X.K oMulS) := opI_of op_mul fun _ _ _ => rfl
/-- a def with keyword-only defaults, no others, called without them -/
theorem binds0_mk {K : PySem.W.Frag} {x qual : Str} {st : Stmt} {f KD : Addr} {ps : List Str} {kws : List (Str × V)} {oc : Value} {od an : Option Addr} {osl : Array (Option Value)} {doc pm cdv ct : Value}
    (l : K.lookup f = some ⟨oc, od, .func (PySem.W.fnOf x qual (defArgs st) (defBody st) (defScope st) .none (.ref KD) doc pm an cdv ct), osl⟩) (c : PySem.W.codeIn K cdv qual = true) (k : PySem.W.keepIn K (.ref f) = true) (n : Nat) (hk : kws ≠ []) (hn : n + kws.length = ps.length)
    (hq : ∀ q ∈ kws, ∃ u, PySem.W.nsIn K KD q.1 = some (some u) ∧ RelV q.2 u)
    (h : ∀ (D : Addr) (doc pm : Value) (an : Option Addr) (cdv ct : Value) (us ks : List Value), us.length = n → ks.length = kws.length →
      KwChain D ((kws.map (·.1)).zip ks) (bindArgs (PySem.W.fnOf x qual (defArgs st) (defBody st) (defScope st) .none (.ref D) doc pm an cdv ct) ⟨us, []⟩) (ps.zip (us ++ ks))) :
    ∃ us, Vals (kws.map (·.2)) us ∧ Binds K (PySem.W.fnOf x qual (defArgs st) (defBody st) (defScope st) .none (.ref KD) doc pm an cdv ct) ps us := by
  have F : FunD K x qual (defArgs st) (defBody st) (defScope st) [] kws f (PySem.W.fnOf x qual (defArgs st) (defBody st) (defScope st) .none (.ref KD) doc pm an cdv ct) :=
    ⟨⟨oc, od, .none, .ref KD, doc, pm, an, cdv, ct, osl, rfl, l, c, .inl ⟨rfl, rfl⟩, .inr ⟨KD, rfl, hq⟩⟩, k⟩
  exact F.binds0 n hk hn h
/-! ### constant tuples -/
def isI (v : Value) (j : Int) : Bool := match v with
  | .int i _ => i == j
  | _ => false
def intsIs : List Value → List Int → Bool
  | [], [] => true
  | v :: r, j :: s => isI v j && intsIs r s
  | _, _ => false
def tupIs (o : Obj) (ns : List Int) : Bool := o.cls == .type "tuple" && match o.data with
  | .seq its _ => decide (its.size ≤ 1000) && intsIs its.toList ns
  | _ => false
theorem isI_rel {v : Value} {j : Int} (h : isI v j = true) : RelV (.int j) v := by
  cases v with
  | int i t =>
    have h' : (i == j) = true := h
    obtain rfl := beq_iff_eq.mp h'
    exact ⟨t, rfl⟩
  | _ => cases h
theorem intsIs_vals : ∀ {us : List Value} {ns : List Int}, intsIs us ns = true → Vals (ns.map V.int) us
  | [], [], _ => .nil
  | v :: r, j :: s, h => by
    have h' : (isI v j && intsIs r s) = true := h
    rw [Bool.and_eq_true] at h'
    exact .cons (isI_rel h'.1) (intsIs_vals h'.2)
  | [], _ :: _, h => by cases h
  | _ :: _, [], h => by cases h
theorem tupIs_sq {K : PySem.W.Frag} {T : Addr} {o : Obj} {ns : List Int} (l : K.lookup T = some o) (h : tupIs o ns = true) (H : Hp) : SqT K H T (ns.map V.int) := by
  unfold tupIs at h
  rw [Bool.and_eq_true] at h
  obtain ⟨h1, h2⟩ := h
  cases e : o.data with
  | seq its n =>
    rw [e] at h2
    have h2' : (decide (its.size ≤ 1000) && intsIs its.toList ns) = true := h2
    rw [Bool.and_eq_true] at h2'
    have := of_decide_eq_true h2'.1
    exact .inr ⟨o, its, n, l, beq_iff_eq.mp h1, e, by unfold sizeLine; omega, intsIs_vals h2'.2⟩
  | _ => rw [e] at h2; cases h2
theorem reps_intsW {K : PySem.W.Frag} {W : Hp} : ∀ {ns : List Int}, Reps K W (ns.map D.int) (ns.map V.int)
  | [] => rfl
  | n :: r => ⟨_, _, rfl, rfl, reps_intsW (ns := r)⟩
def ConT (K : PySem.W.Frag) (mg : Str → Option Value) (x : Str) (ns : List Int) : Prop := ∃ T, mg x = some (.ref T) ∧ ∀ H, SqT K H T (ns.map V.int)
theorem pd_globT {X : Cx} {x : Str} {ns : List Int} {pos : Pos} (h : ConT X.K X.mg x ns) (hg : Gl X x := by rfl) (hd : (x == ("__debug__" : Str)) = false := by decide) : PD X (.Name x pos) (wC (.tup (ns.map D.int))) := by
  obtain ⟨T, hm, r⟩ := h
  exact pd_c (pe_glob (v := .ref T) hg hm rfl hd) fun W => ⟨T, _, rfl, r W, reps_intsW⟩
/-- the empty tuple as a default -/
theorem dfl_empty {K : PySem.W.Frag} {T : Addr} {o : Obj} (l : K.lookup T = some o) (h : tupIs o [] = true) : Reps K (fun _ => none) [.tup []] [.ref T] := ⟨_, _, rfl, ⟨T, [], rfl, tupIs_sq (ns := []) l h _, rfl⟩, rfl⟩
end DL
set_option Elab.async false
set_option linter.all false
set_option maxRecDepth 100000
set_option maxHeartbeats 1000000
/-! The data layer, part x: isinstance of a caught exception against a class that the language brings. -/
namespace DL
open PySem PySem.Spec PyProof.Rows L2
theorem kit_ty {K : PySem.W.Frag} {C : Addr} {T : String} {b : Bool} (hm : PySem.W.kitMeta T = true) (h : PySem.W.subIn K (.ref C) (.type T) = some b) : PySem.W.kitOne K (.ref C) (.type T) = some b := by
  unfold PySem.W.kitOne
  rw [if_neg (fun z : (Value.ref C == Value.type T) = true => by have := beq_iff_eq.mp z; cases this)]
  show (if PySem.W.kitMeta T = true then PySem.W.subIn K (.ref C) (.type T) else none) = some b
  rw [if_pos hm]
  exact h
def wIsEB (K : PySem.W.Frag) (a dd C : Addr) (T : String) (w : WPe) : WPe := fun env S Q X => w env S (fun d S1 => match d with
  | .exc a' dd' C' _ _ => (a' = a ∧ dd' = dd ∧ C' = C ∧ IsC K C) ∧ some! (PySem.W.kitOne K (.ref C) (.type T)) fun b => Q (.bl b) S1
  | _ => False) X
section
variable {X : Cx} {a dd C : Addr} {T : String} {oe : Obj} {pn : List (Addr × Obj)} {e e2 : Expr} {w : WPe} {p pos : Pos}
theorem pd_isEB (hz : Zc (.ref C) (some dd) oe) (hf : ∃ vs, oe.data = .fields vs) (he : PD (X.suite a ((a, oe) :: pn)) e w) (hc : PE (X.suite a ((a, oe) :: pn)) e2 (tC (.ty T))) (hm : X.mg "isinstance" = none) (hg : Gl (X.suite a ((a, oe) :: pn)) "isinstance" := by rfl)
    (hs : starEach [e, e2] X.env = (false, eval e X.env) :: starEach [e2] X.env := by rfl) (hs2 : starEach [e2] X.env = [(false, eval e2 X.env)] := by rfl) (hpl : (backTo pos (starEach [e2] X.env)).any (·.1) = false := by rfl) :
    PD (X.suite a ((a, oe) :: pn)) (.Call (.Name "isinstance" p) [e, e2] [] pos) (wIsEB X.K a dd C T w) :=
  ⟨fun Wx tk => PE.imp (pe_callB (call_isD hz hf) hg hm (by decide +kernel) (pa_cons (he.run Wx tk) (pa_cons hc pa_nil hs2) hs) (by decide) (by decide) hs hpl) fun σ H Q ⟨W, env, S, Q0, X1, ok, sl, hw, cv, cx⟩ => ⟨W, env, S, _, X1, ok, sl, hw, fun d S1 v W1 H1 h1 s1 ok1 r1 => by
    cases d with
    | exc a' dd' C' g x =>
      obtain ⟨⟨rfl, rfl, rfl, ic⟩, h1⟩ := h1
      obtain ⟨b, e5, h1⟩ := some!_ex h1
      obtain ⟨e1, gs, u, e2, e3, ru⟩ := r1
      subst e1
      exact ⟨.ty T, .type T, b, gs, rfl, ok1.vis _ _ e2, .ty T, ic, e5, cv _ S1 _ W1 H1 h1 s1 ok1 rfl⟩
    | _ => exact h1.elim, cx⟩⟩
end
end DL
set_option Elab.async false
set_option linter.all false
set_option maxRecDepth 100000
set_option maxHeartbeats 1000000
namespace K07
open PySem PySem.Spec PyProof.Rows L2 DL
/-- the classes, and what the written part says of the errors' -/
structure Cl where
  K : PySem.W.Frag
  Net : Addr
  Ask : Addr
  Rule : Addr
  ServeError : Addr
  InvalidNumber : Addr
  InvalidLetter : Addr
  NoHouse : Addr
  NoRequest : Addr
  NoRoom : Addr
  NotAlone : Addr
  NotHeld : Addr
  TooLarge : Addr
  exL : PySem.W.exmOne K (.ref InvalidLetter) (.ref ServeError) = some true
  kLL : PySem.W.kitOne K (.ref InvalidLetter) (.ref InvalidLetter) = some true
  kLo : PySem.W.kitAny K (.ref InvalidLetter) [.ref InvalidNumber, .ref NoHouse, .ref NoRequest, .ref NoRoom, .ref NotAlone, .ref NotHeld, .ref TooLarge] = some false
  kLV : PySem.W.kitOne K (.ref InvalidLetter) (.type "ValueError") = some true
  isL : IsC K InvalidLetter
  xfL : XfC K InvalidLetter ∧ PySem.W.findIn K (.ref InvalidLetter) "letter" = some none
/-- a value whose class is known -/
def Kn (S : Sto) (d : D) : Prop := ∃ n, tyN S d = some n
def inR (l m : Int) (d : D) : Bool := match d with
  | .int v => decide (l ≤ v ∧ v ≤ m)
  | _ => false
def shownD (S : Sto) (d : D) : Str := (toP (resD S d)).shown
def ReprOk (S : Sto) (d : D) : Prop := layP S d ∧ (toP (resD S d)).showable = true ∧ (shownD S d).length ≤ sizeLine
/-- what may stand among letters -/
def Fine (d : D) : Prop := (∀ S, Kn S d) ∧ (∀ S, ReprOk S d) ∧ ∀ S, PyData.strOk (shownD S d) = true
def isLet (L : Nat) (d : D) : Bool := inR 0 ((L : Int) - 1) d
def firstBad (L : Nat) (xs : List D) : Option D := xs.find? fun d => !isLet L d
/-- a row of any things, a tuple or a list -/
def dS (l : Bool) (xs : List D) : D := match l with
  | true => .tup xs
  | false => .lst xs
def N_Net : List Str := ["prime", "embed", "shift", "layers", "out", "end"]
def N_Ask : List Str := ["prompt", "most", "stops", "tape", "rule"]
def N_Rule : List Str := ["start", "steps"]
def Ext (S S' : Sto) : Prop := ∀ a m, S a = some m → S' a = some m
/-! ### nets -/
abbrev Vec := List Int
abbrev Mat := List Vec
structure Lay where
  q : Mat
  k : Mat
  v : Mat
  f : Mat
  s : Mat
structure NetV where
  prime : Int
  embed : Mat
  shift : Vec
  layers : List Lay
  out : Mat
structure Rw where
  pairs : List (Vec × Vec)
  wts : Vec
def dM (m : Mat) : D := .tup (m.map dT)
def dLay (l : Lay) : D := .tup [dM l.q, dM l.k, dM l.v, dM l.f, dM l.s]
def dNetT (n : NetV) : D := .tup [.int n.prime, dM n.embed, dT n.shift, .tup (n.layers.map dLay), dM n.out]
def dO (o : Option Int) : D := match o with
  | none => .non
  | some i => .int i
def netF (n : NetV) (e : Option Int) : List D := [.int n.prime, dM n.embed, dT n.shift, .tup (n.layers.map dLay), dM n.out, dO e]
def dNet (c : Cl) (n : NetV) (e : Option Int) : D := .obj c.Net N_Net (netF n e)
def dP (p : Vec × Vec) : D := .tup [dT p.1, dT p.2]
def dRw (r : Rw) : D := .tup [.tup (r.pairs.map dP), dT r.wts]
def psum (a b : Vec) : Int := (List.zipWith (· * ·) a b).sum
def timesF (p : Int) (m : Mat) (v : Vec) : Vec := m.map fun r => psum r v % p
def plusF (p : Int) (a b : Vec) : Vec := List.zipWith (fun x y => (x + y) % p) a b
def lookF (p : Int) (q : Vec) (pairs : List (Vec × Vec)) : Vec := pairs.foldl (fun f kv => plusF p f (kv.2.map (psum q kv.1 * ·))) (q.map fun _ => 0)
def pairF (p : Int) (l : Lay) (x : Vec) : Vec × Vec := (timesF p l.k x, timesF p l.v x)
def beforeF (rows : List Rw) (i : Nat) : List (Vec × Vec) := rows.map fun w => w.pairs.getD i ([], [])
def nextX (p : Int) (bef : List (Vec × Vec)) (l : Lay) (x : Vec) : Vec :=
  let x1 := plusF p x (lookF p (timesF p l.q x) (bef ++ [pairF p l x]))
  plusF p x1 (timesF p l.s ((timesF p l.f x1).map fun n => n * n))
def stepL (p : Int) (rows : List Rw) (st : List (Vec × Vec) × Vec) (l : Lay) : List (Vec × Vec) × Vec := (st.1 ++ [pairF p l st.2], nextX p (beforeF rows st.1.length) l st.2)
def x0F (n : NetV) (rows : List Rw) (l : Int) : Vec := plusF n.prime (n.embed.getD l.toNat []) (n.shift.map ((rows.length : Int) * ·))
def rowF (n : NetV) (rows : List Rw) (l : Int) : Rw :=
  let st := n.layers.foldl (stepL n.prime rows) ([], x0F n rows l)
  ⟨st.1, n.out.map fun v => 1 + psum v st.2 % n.prime⟩
def rowsF (n : NetV) (ls : Vec) : List Rw := ls.foldl (fun rows l => rows ++ [rowF n rows l]) []
/-- small numbers -/
def Sm (v : Vec) : Prop := ∀ x, x ∈ v → 0 ≤ x ∧ x < 1000000
def Wd (w : Nat) (v : Vec) : Prop := v.length = w ∧ Sm v
def MatOk (w : Nat) (m : Mat) : Prop := ∀ v, v ∈ m → Wd w v
def LayOk (w : Nat) (l : Lay) : Prop := (l.q.length = w ∧ MatOk w l.q) ∧ (l.k.length = w ∧ MatOk w l.k) ∧ (l.v.length = w ∧ MatOk w l.v) ∧ (l.f.length = w ∧ MatOk w l.f) ∧ (l.s.length = w ∧ MatOk w l.s)
def thePrimes : List Int := [2, 3, 5, 7, 11, 13, 17, 19, 23, 29, 31, 37, 41, 43, 47, 53, 59, 61, 67, 71, 73, 79, 83, 89, 97]
structure NetOk (w L : Nat) (n : NetV) : Prop where
  w1 : 1 ≤ w ∧ w ≤ 4
  l1 : 1 ≤ L ∧ L ≤ 12
  pr : n.prime ∈ thePrimes
  em : n.embed.length = L ∧ MatOk w n.embed
  sh : Wd w n.shift
  la : n.layers.length ≤ 3 ∧ ∀ l, l ∈ n.layers → LayOk w l
  ou : n.out.length = L ∧ MatOk w n.out
structure RwOk (w L m : Nat) (r : Rw) : Prop where
  pa : r.pairs.length = m ∧ ∀ p, p ∈ r.pairs → Wd w p.1 ∧ Wd w p.2
  wt : r.wts.length = L ∧ ∀ x, x ∈ r.wts → 1 ≤ x ∧ x ≤ 97
def RowsOk (w L m : Nat) (rows : List Rw) : Prop := rows.length ≤ 100 ∧ ∀ r, r ∈ rows → RwOk w L m r
def LetsOk (L : Nat) (ls : Vec) : Prop := ∀ l, l ∈ ls → 0 ≤ l ∧ l < (L : Int)
def sp_is_between (c : Cl) : Ctr := fun ds S Q _ => ∃ d, ∃ l m : Int, ds = [d, .int l, .int m] ∧ Kn S d ∧ Q (.bl (inR l m d)) S
def sp_vector_of (c : Cl) : Ctr := fun ds S Q _ => ∃ v : Vec, ds = [dT v] ∧ Q (dT v) S
def sp_matrix_of (c : Cl) : Ctr := fun ds S Q _ => ∃ m : Mat, ds = [dM m] ∧ m.length ≤ 1000 ∧ Q (dM m) S
def sp_product_sum (c : Cl) : Ctr := fun ds S Q _ => ∃ i j a b, ds = [dR i a, dR j b] ∧ Sm a ∧ Sm b ∧ Q (.int (psum a b)) S
def sp_Net_init (c : Cl) : Ctr := fun ds S Q _ => ∃ a w L n e, ds = .ref a :: netF n e ∧ NetOk w L n ∧ S a = some (.ins c.Net N_Net (noneV N_Net)) ∧ Q .non (put S a (.ins c.Net N_Net ((netF n e).map some)))
def sp_Net_is_letter (c : Cl) : Ctr := fun ds S Q _ => ∃ n e d, ds = [dNet c n e, d] ∧ Kn S d ∧ Q (.bl (isLet n.embed.length d)) S
def sp_Net_rest (c : Cl) : Ctr := fun ds S Q _ => ∃ n e v, ds = [dNet c n e, .int v] ∧ 0 < n.prime ∧ Q (.int (v % n.prime)) S
def sp_Net_times (c : Cl) : Ctr := fun ds S Q _ => ∃ n e m j v, ds = [dNet c n e, dM m, dR j v] ∧ 0 < n.prime ∧ m.length ≤ 1000 ∧ (∀ r, r ∈ m → Sm r) ∧ Sm v ∧ Q (dT (timesF n.prime m v)) S
def sp_Net_plus (c : Cl) : Ctr := fun ds S Q _ => ∃ n e i j a b, ds = [dNet c n e, dR i a, dR j b] ∧ 0 < n.prime ∧ a.length ≤ 1000 ∧ Q (dT (plusF n.prime a b)) S
def sp_Net_looked_at (c : Cl) : Ctr := fun ds S Q _ => ∃ n e q pairs, ds = [dNet c n e, dT q, .lst (pairs.map dP)] ∧ 0 < n.prime ∧ n.prime ≤ 97 ∧ q.length ≤ 1000 ∧ Sm q ∧ (∀ p, p ∈ pairs → (Sm p.1 ∧ p.1.length ≤ 1000) ∧ (Sm p.2 ∧ p.2.length ≤ 1000)) ∧ Q (dT (lookF n.prime q pairs)) S
def sp_Net_row (c : Cl) : Ctr := fun ds S Q _ => ∃ n e d rows l w L, ds = [dNet c n e, d, .int l] ∧ seqA S d = some (rows.map dRw) ∧ NetOk w L n ∧ RowsOk w L n.layers.length rows ∧ (0 ≤ l ∧ l < (L : Int)) ∧ ∀ S', Ext S S' → Q (dRw (rowF n rows l)) S'
def sp_rows_of (c : Cl) : Ctr := fun ds S Q _ => ∃ n e i ls w L, ds = [dNet c n e, dR i ls] ∧ NetOk w L n ∧ LetsOk L ls ∧ ls.length ≤ 50 ∧ ∀ S', Ext S S' → Q (.tup ((rowsF n ls).map dRw)) S'
/-! ### asks -/
structure RuleV where
  start : Int
  steps : List (List (Option Int))
structure AskV where
  prompt : Vec
  most : Int
  stops : List Vec
  tape : Vec
  rule : Option RuleV
def dSteps (s : List (List (Option Int))) : D := .tup (s.map fun r => .tup (r.map dO))
def dRule (c : Cl) (r : RuleV) : D := .obj c.Rule N_Rule [.int r.start, dSteps r.steps]
def dRuleO (c : Cl) (r : Option RuleV) : D := match r with
  | none => .non
  | some r => dRule c r
def dRuleT (r : Option RuleV) : D := match r with
  | none => .non
  | some r => .tup [.int r.start, dSteps r.steps]
def askF (c : Cl) (a : AskV) : List D := [dT a.prompt, .int a.most, .tup (a.stops.map dT), dT a.tape, dRuleO c a.rule]
def dAsk (c : Cl) (a : AskV) : D := .obj c.Ask N_Ask (askF c a)
def dAskT (a : AskV) : D := .tup [dT a.prompt, .int a.most, .tup (a.stops.map dT), dT a.tape, dRuleT a.rule]
structure RuleOk (L : Nat) (r : RuleV) : Prop where
  st : 1 ≤ r.steps.length ∧ r.steps.length ≤ 100
  s0 : 0 ≤ r.start ∧ r.start < r.steps.length
  ro : ∀ row, row ∈ r.steps → row.length = L ∧ ∀ i, some i ∈ row → 0 ≤ i ∧ i < (r.steps.length : Int)
structure AskOk (L : Nat) (a : AskV) : Prop where
  pr : LetsOk L a.prompt ∧ 1 ≤ a.prompt.length ∧ a.prompt.length ≤ 20
  mo : 1 ≤ a.most ∧ a.most ≤ 30
  st : a.stops.length ≤ 4 ∧ ∀ s, s ∈ a.stops → LetsOk L s ∧ 1 ≤ s.length ∧ s.length ≤ 4
  ta : a.tape.length ≤ 12
  ru : ∀ r, a.rule = some r → RuleOk L r
/-- an ask of any things -/
structure GAsk where
  prompt : List D
  most : Int
  stops : List (List D)
  tape : Vec
  rule : Option RuleV
def gF (c : Cl) (a : GAsk) : List D := [.tup a.prompt, .int a.most, .tup (a.stops.map D.tup), dT a.tape, dRuleO c a.rule]
def dG (c : Cl) (a : GAsk) : D := .obj c.Ask N_Ask (gF c a)
def dGT (a : GAsk) : D := .tup [.tup a.prompt, .int a.most, .tup (a.stops.map D.tup), dT a.tape, dRuleT a.rule]
def toG (a : AskV) : GAsk := ⟨a.prompt.map D.int, a.most, a.stops.map fun s => s.map D.int, a.tape, a.rule⟩
def allG (a : GAsk) (bg : List D) : List D := a.prompt ++ a.stops.flatten ++ bg
structure GOk (L : Nat) (a : GAsk) : Prop where
  pr : (∀ d, d ∈ a.prompt → Fine d) ∧ 1 ≤ a.prompt.length ∧ a.prompt.length ≤ 20
  mo : 1 ≤ a.most ∧ a.most ≤ 30
  st : a.stops.length ≤ 4 ∧ ∀ s, s ∈ a.stops → (∀ d, d ∈ s → Fine d) ∧ 1 ≤ s.length ∧ s.length ≤ 4
  ta : a.tape.length ≤ 12
  ru : ∀ r, a.rule = some r → RuleOk L r
structure BgOk (bg : List D) : Prop where
  fi : ∀ d, d ∈ bg → Fine d
  le : bg.length ≤ 40
def dStepsL (l : Bool) (s : List (List (Option Int))) : D := dS l (s.map fun r => dS l (r.map dO))
def stepR (r : RuleV) (s : Option Int) (l : Int) : Option Int := match s with
  | none => none
  | some i => (r.steps.getD i.toNat []).getD l.toNat none
def afterF (r : RuleV) (text : Vec) : Option Int := text.foldl (stepR r) (some r.start)
def letF (r : Option RuleV) (w text : Vec) : Vec := match r with
  | none => w
  | some r => w.zipIdx.map fun p => if (afterF r (text ++ [(p.2 : Int)])).isSome = true then p.1 else 0
def goB : Vec → Int → Nat
  | [], _ => 0
  | w :: r, left => if w ≤ left then goB r (left - w) + 1 else 0
def byF (w : Vec) (n : Int) : Int := (goB w (n % w.sum) : Nat)
/-- the first greatest -/
def topF (w : Vec) : Int := (w.idxOf (w.foldl max 0) : Nat)
def choiceF (a : AskV) (w text : Vec) : Option Int :=
  let lt := letF a.rule w text
  if lt.sum = 0 then none else if a.tape = [] then some (topF lt) else some (byF lt (a.tape.getD (text.length % a.tape.length) 0))
def endsF (t s : Vec) : Bool := decide (s.length ≤ t.length) && decide (t.drop (t.length - s.length) = s)
def stopF (stops : List Vec) (t : Vec) : Nat := stops.foldl (fun m s => if endsF t s = true then max m s.length else m) 0
def nextF (e : Option Int) (a : AskV) (text w : Vec) : Vec × Option Str := match choiceF a w text with
  | none => (text, some "stuck")
  | some l => if some l = e then (text, some "end") else
    let t := text ++ [l]
    if 0 < stopF a.stops t then (t.take (t.length - stopF a.stops t), some "stop") else (t, if (t.length : Int) = a.most then some "most" else none)
def wtsF (n : NetV) (a : AskV) (text : Vec) : Vec := match (rowsF n (a.prompt ++ text)).getLast? with
  | some r => r.wts
  | none => []
def walkF (n : NetV) (e : Option Int) (a : AskV) : Nat → Vec → Option (Vec × Str)
  | 0, _ => none
  | k + 1, text => match nextF e a text (wtsF n a text) with
    | (t, some w) => some (t, w)
    | (t, none) => walkF n e a k t
def dOS (o : Option Str) : D := match o with
  | none => .non
  | some s => .str s
def dTW (r : Vec × Str) : D := .tup [dT r.1, .str r.2]
def WtOk (L : Nat) (w : Vec) : Prop := w.length = L ∧ ∀ x, x ∈ w → 0 ≤ x ∧ x ≤ 97
def sp_check_letters (c : Cl) : Ctr := fun ds S Q E => ∃ n e g i bg w L, ds = [dNet c n e, dG c g, dS i bg] ∧ NetOk w L n ∧ GOk L g ∧ BgOk bg ∧ (firstBad L (allG g bg) = none → Q .non S) ∧ (∀ d, firstBad L (allG g bg) = some d → E c.InvalidLetter [("letter", d)] S)
def sp_stop_length (c : Cl) : Ctr := fun ds S Q _ => ∃ stops t, ds = [.tup (stops.map dT), dT t] ∧ Q (.int (stopF stops t : Nat)) S
def sp_greatest (c : Cl) : Ctr := fun ds S Q _ => ∃ w, ds = [dT w] ∧ w ≠ [] ∧ (∀ x, x ∈ w → 0 ≤ x) ∧ Q (.int (topF w)) S
def sp_by_number (c : Cl) : Ctr := fun ds S Q _ => ∃ w n, ds = [dT w, .int n] ∧ (∀ x, x ∈ w → 0 ≤ x) ∧ 0 < w.sum ∧ Q (.int (byF w n)) S
def sp_Rule_init (c : Cl) : Ctr := fun ds S Q _ => ∃ a i l s, ds = [.ref a, .int i, dStepsL l s] ∧ s.length ≤ 1000 ∧ S a = some (.ins c.Rule N_Rule (noneV N_Rule)) ∧ Q .non (put S a (.ins c.Rule N_Rule [some (.int i), some (dSteps s)]))
def sp_Rule_after (c : Cl) : Ctr := fun ds S Q _ => ∃ r L t, ds = [dRule c r, dT t] ∧ RuleOk L r ∧ LetsOk L t ∧ Q (dO (afterF r t)) S
def sp_Rule_lets (c : Cl) : Ctr := fun ds S Q _ => ∃ r L t l, ds = [dRule c r, dT t, .int l] ∧ RuleOk L r ∧ LetsOk L t ∧ (0 ≤ l ∧ l < (L : Int)) ∧ t.length ≤ 1000 ∧ Q (.bl (afterF r (t ++ [l])).isSome) S
def sp_Ask_init (c : Cl) : Ctr := fun ds S Q _ => ∃ p g l L, ds = [.ref p, dS l g.prompt, .int g.most, dS l (g.stops.map (dS l)), dR l g.tape, dRuleO c g.rule] ∧ GOk L g ∧ S p = some (.ins c.Ask N_Ask (noneV N_Ask)) ∧ Q .non (put S p (.ins c.Ask N_Ask ((gF c g).map some)))
def sp_Ask_let_weights (c : Cl) : Ctr := fun ds S Q _ => ∃ a L w t, ds = [dAsk c a, dT w, dT t] ∧ AskOk L a ∧ WtOk L w ∧ L ≤ 12 ∧ LetsOk L t ∧ t.length ≤ 1000 ∧ Q (dT (letF a.rule w t)) S
def sp_Ask_choice (c : Cl) : Ctr := fun ds S Q _ => ∃ a L w t, ds = [dAsk c a, dT w, dT t] ∧ AskOk L a ∧ WtOk L w ∧ L ≤ 12 ∧ LetsOk L t ∧ t.length ≤ 1000 ∧ Q (dO (choiceF a w t)) S
def sp_next_text (c : Cl) : Ctr := fun ds S Q _ => ∃ n e a L w t, ds = [dNet c n e, dAsk c a, dT t, dT w] ∧ AskOk L a ∧ WtOk L w ∧ L ≤ 12 ∧ LetsOk L t ∧ t.length ≤ 900 ∧ Q (.tup [dT (nextF e a t w).1, dOS (nextF e a t w).2]) S
def sp_written (c : Cl) : Ctr := fun ds S Q E =>
  (∃ n e a i bg w L r, ds = [dNet c n e, dAsk c a, dR i bg] ∧ NetOk w L n ∧ AskOk L a ∧ LetsOk L bg ∧ (bg.length : Int) < a.most ∧ walkF n e a 31 bg = some r ∧ ∀ S', Ext S S' → Q (dTW r) S') ∨
  (∃ n e g i bg w L d, ds = [dNet c n e, dG c g, dS i bg] ∧ NetOk w L n ∧ GOk L g ∧ BgOk bg ∧ firstBad L (allG g bg) = some d ∧ E c.InvalidLetter [("letter", d)] S)
/-! ### the law -/
def NumsOk (many : Nat) (ns : Vec) : Prop := ns.length = many ∧ ∀ x, x ∈ ns → 0 ≤ x ∧ x < 1000
def sp__law_numbers (c : Cl) : Ctr := fun ds S Q _ => ∃ cell at_ : Int, ∃ many : Nat, ds = [.int cell, .int at_, .int (many : Nat)] ∧ (0 ≤ at_ ∧ at_ ≤ 62) ∧ many ≤ 490 ∧ ∀ ns, NumsOk many ns → ∀ S', Ext S S' → Q (dL ns) S'
/-- plain data of a depth: None, bools, ints, texts, tuples -/
def plain : Nat → D → Prop
  | _, .non => True
  | _, .bl _ => True
  | _, .int _ => True
  | _, .str x => PyData.strOk x = true
  | 0, .tup _ => False
  | n + 1, .tup xs => xs.length ≤ 1000 ∧ ∀ x, x ∈ xs → plain n x
  | _, _ => False
def sp__law_same_n (c : Cl) (n : Nat) : Ctr := fun ds S Q _ => match n with
  | 0 => False
  | n + 1 => ∃ d, ds = [d, d] ∧ plain n d ∧ Q (.bl true) S
def sp__law_same (c : Cl) : Ctr := fun ds S Q _ => ∃ d, ds = [d, d] ∧ plain 7 d ∧ Q (.bl true) S
def sp__law_vector (c : Cl) : Ctr := fun ds S Q _ => ∃ i ns m k w p, ds = [dR i ns, .int k, .int (w : Nat), .int p] ∧ NumsOk m ns ∧ 0 < m ∧ m ≤ 1000 ∧ (0 ≤ k ∧ k ≤ 10000) ∧ w ≤ 4 ∧ (0 < p ∧ p ≤ 97) ∧ ∀ v, Wd w v → ∀ S', Ext S S' → Q (dT v) S'
def sp__law_net (c : Cl) : Ctr := fun ds S Q _ => ∃ ns k L w m p, ds = [dL ns, .int (L : Nat), .int (w : Nat), .int (m : Nat), .int p] ∧ NumsOk k ns ∧ 0 < k ∧ k ≤ 1000 ∧ (1 ≤ L ∧ L ≤ 12) ∧ (1 ≤ w ∧ w ≤ 4) ∧ m ≤ 3 ∧ p ∈ thePrimes ∧ ∀ n, NetOk w L n → n.prime = p → ∀ S', Ext S S' → Q (dNetT n) S'
def sp__law_dot (c : Cl) : Ctr := fun ds S Q _ => ∃ i j a b p, ds = [dR i a, dR j b, .int p] ∧ a.length = b.length ∧ a.length ≤ 1000 ∧ Sm a ∧ Sm b ∧ 0 < p ∧ Q (.int (psum a b % p)) S
def sp__law_times (c : Cl) : Ctr := fun ds S Q _ => ∃ m j v p, ds = [dM m, dR j v, .int p] ∧ m.length ≤ 1000 ∧ (∀ r, r ∈ m → r.length = v.length ∧ Sm r) ∧ v.length ≤ 1000 ∧ Sm v ∧ 0 < p ∧ Q (dL (timesF p m v)) S
def sp__law_row (c : Cl) : Ctr := fun ds S Q _ => ∃ n d rows l w L, ds = [dNetT n, d, .int l] ∧ seqA S d = some (rows.map dRw) ∧ NetOk w L n ∧ RowsOk w L n.layers.length rows ∧ (0 ≤ l ∧ l < (L : Int)) ∧ ∀ S', Ext S S' → Q (dRw (rowF n rows l)) S'
def sp__law_rows (c : Cl) : Ctr := fun ds S Q _ => ∃ n i ls w L, ds = [dNetT n, dR i ls] ∧ NetOk w L n ∧ LetsOk L ls ∧ ls.length ≤ 50 ∧ ∀ p S', Ext S S' → S p = none → S' p = some (.lst ((rowsF n ls).map dRw)) → Q (.ref p) S'
def sp__law_after (c : Cl) : Ctr := fun ds S Q _ => ∃ r L d t, ds = [dRuleT (some r), d] ∧ seqA S d = some (t.map D.int) ∧ RuleOk L r ∧ LetsOk L t ∧ Q (dO (afterF r t)) S
def sp__law_counted (c : Cl) : Ctr := fun ds S Q _ => ∃ r L w d t, ds = [dT w, dRuleT r, d] ∧ seqA S d = some (t.map D.int) ∧ (∀ x, r = some x → RuleOk L x) ∧ WtOk L w ∧ L ≤ 12 ∧ LetsOk L t ∧ ∀ p S', Ext S S' → S' p = some (.lst ((letF r w t).map D.int)) → Q (.ref p) S'
def sp__law_choice (c : Cl) : Ctr := fun ds S Q _ => ∃ a L w d t, ds = [dT w, dRuleT a.rule, dT a.tape, d] ∧ seqA S d = some (t.map D.int) ∧ AskOk L a ∧ WtOk L w ∧ L ≤ 12 ∧ LetsOk L t ∧ t.length ≤ 1000 ∧ ∀ S', Ext S S' → Q (dO (choiceF a w t)) S'
def sp__law_rule (c : Cl) : Ctr := fun ds S Q _ => ∃ ns m k L, ds = [dL ns, .int (k : Nat), .int (L : Nat)] ∧ NumsOk m ns ∧ k + 80 ≤ m ∧ m ≤ 1000 ∧ (1 ≤ L ∧ L ≤ 12) ∧ ∀ r, (∀ x, r = some x → RuleOk L x) → ∀ S', Ext S S' → Q (dRuleT r) S'
def sp__law_stops (c : Cl) : Ctr := fun ds S Q _ => ∃ ns m k L, ds = [dL ns, .int (k : Nat), .int (L : Nat)] ∧ NumsOk m ns ∧ k + 30 ≤ m ∧ m ≤ 1000 ∧ 1 ≤ L ∧ ∀ st : List Vec, (st.length ≤ 4 ∧ ∀ s, s ∈ st → LetsOk L s ∧ 1 ≤ s.length ∧ s.length ≤ 4) → ∀ S', Ext S S' → Q (.tup (st.map dT)) S'
def sp__law_tape (c : Cl) : Ctr := fun ds S Q _ => ∃ ns m k, ds = [dL ns, .int (k : Nat)] ∧ NumsOk m ns ∧ k + 30 ≤ m ∧ m ≤ 1000 ∧ ∀ ta : Vec, ta.length ≤ 12 → ∀ S', Ext S S' → Q (dT ta) S'
def sp__law_ask (c : Cl) : Ctr := fun ds S Q _ => ∃ ns L, ds = [dL ns, .int (L : Nat)] ∧ NumsOk 490 ns ∧ (1 ≤ L ∧ L ≤ 12) ∧ ∀ a, AskOk L a → ∀ S', Ext S S' → Q (dAskT a) S'
def sp__law_ends (c : Cl) : Ctr := fun ds S Q _ => ∃ p t s, ds = [.ref p, dT s] ∧ S p = some (.lst (t.map D.int)) ∧ Q (.bl (endsF t s)) S
def sp__law_stopped (c : Cl) : Ctr := fun ds S Q _ => ∃ p t st, ds = [.ref p, .tup (st.map dT)] ∧ S p = some (.lst (t.map D.int)) ∧ Q (.int (stopF st t : Nat)) S
def sp__law_written (c : Cl) : Ctr := fun ds S Q _ => ∃ n e a bg w L r, ds = [dNetT n, dO e, dAskT a, dT bg] ∧ NetOk w L n ∧ AskOk L a ∧ LetsOk L bg ∧ (bg.length : Int) < a.most ∧ walkF n e a 31 bg = some r ∧ ∀ S', Ext S S' → Q (dTW r) S'
def sp__law_made (c : Cl) : Ctr := fun ds S Q _ => ∃ g b L, ds = [dGT g, .bl b] ∧ GOk L g ∧ ∀ S', Ext S S' → Q (dG c g) S'
def sp__law_odd (c : Cl) : Ctr := fun ds S Q _ => ∃ ns m k L, ds = [dL ns, .int (k : Nat), .int (L : Nat)] ∧ NumsOk m ns ∧ k + 2 ≤ m ∧ m ≤ 1000 ∧ (1 ≤ L ∧ L ≤ 12) ∧ ∀ d, Fine d → Q d S
def sp__law_put (c : Cl) : Ctr := fun ds S Q _ => ∃ xs k v, ds = [.tup xs, .int (k : Nat), v] ∧ k < xs.length ∧ xs.length ≤ 1000 ∧ Q (.tup (xs.set k v)) S
def sp__law_spoilt (c : Cl) : Ctr := fun ds S Q _ => ∃ ns g bg L, ds = [dL ns, dGT g, .tup bg, .int (L : Nat)] ∧ NumsOk 490 ns ∧ GOk L g ∧ BgOk bg ∧ (1 ≤ L ∧ L ≤ 12) ∧ ∀ g' bg', GOk L g' → BgOk bg' → Q (.tup [dGT g', .tup bg']) S
def sp__law_first_bad (c : Cl) : Ctr := fun ds S Q _ => ∃ g bg L, ds = [dGT g, .tup bg, .int (L : Nat)] ∧ GOk L g ∧ BgOk bg ∧ ∀ S', Ext S S' → Q (.lst (firstBad L (allG g bg)).toList) S'
def sp__law_refuses (c : Cl) : Ctr := fun ds S Q _ => ∃ n e g i bg w L d, ds = [dNet c n e, dG c g, dS i bg, d] ∧ NetOk w L n ∧ GOk L g ∧ BgOk bg ∧ firstBad L (allG g bg) = some d ∧ ∀ S', Ext S S' → Q (.bl true) S'
def sp__law_is_kept (c : Cl) : Ctr := fun ds S Q _ => ∃ a L, ds = [dAsk c a, dAskT a] ∧ AskOk L a ∧ L ≤ 12 ∧ Q (.bl true) S
def sp_law (c : Cl) : Ctr := fun ds S Q _ => ∃ cells : List Int, ds = [.fro (cells.map D.int)] ∧ cells.length ≤ 63 ∧ ∀ S', Q (.bl true) S'
end K07
set_option Elab.async false
set_option linter.all false
set_option maxRecDepth 100000
set_option maxHeartbeats 4000000
namespace K07
open PySem PySem.Spec PyProof.Rows L2 DL
def K_PRIMES : List Int := [2, 3, 5, 7, 11, 13, 17, 19, 23, 29, 31, 37, 41, 43, 47, 53, 59, 61, 67, 71, 73, 79, 83, 89, 97]
def N_is_between_ : List Str := ["value", "least", "most"]
/-- is_between: slots 0 value, 1 least, 2 most, -/
def w_is_between (c : Cl) : WPs := (wRet (wAndV (wIsi "int" (wVar 0)) (wAndV (wNotV (wIsi "bool" (wVar 0))) (wChain oLe oLe (wVar 1) (wVar 0) (wVar 2)))))
def N_vector_of_ : List Str := ["numbers"]
/-- vector_of: slots 0 numbers, -/
def w_vector_of (c : Cl) : WPs := (wRet (wCB oTuple (wCons (wVar 0) wNil)))
def N_matrix_of_ : List Str := ["rows", "row"]
/-- matrix_of: slots 0 rows, 1 row, -/
def w_matrix_of (c : Cl) : WPs := (wRet (wCB oTuple (wCons (wLc (wIt (wVar 0)) (gN 1) wYes (wCall (sp_vector_of c) (wCons (wVar 1) wNil)) [1]) wNil)))
def N_product_sum_ : List Str := ["one", "two", "total", "number", "other"]
/-- product_sum: slots 0 one, 1 two, 2 total, 3 number, 4 other, -/
def w_product_sum (c : Cl) : WPs := (wSeq (wSet 2 (wC (.int 0)))
  (wSeq (wFor (wZip (wVar 0) (wVar 1)) (gT [(gN 3), (gN 4)]) (wAug 2 (oI0 fun i j => .int (i + j)) (wBin oMul (wVar 3) (wVar 4))))
  (wRet (wVar 2))))
def N_Net_init_ : List Str := ["self", "prime", "embed", "shift", "layers", "out", "end", "layer", "matrix"]
/-- Net.__init__: slots 0 self, 1 prime, 2 embed, 3 shift, 4 layers, 5 out, 6 end, 7 layer, 8 matrix, -/
def w_Net_init (c : Cl) : WPs := (wSeq (wIf (wOr (wNot (wTest (wCall (sp_is_between c) (wCons (wVar 1) (wCons (wC (.int 2)) (wCons (wC (.int 97)) wNil)))))) (wTest (wBin (oInD true) (wVar 1) (wC (.tup (K_PRIMES.map D.int)))))) (wRaise (wMkE c.InvalidNumber "number" (wVar 1))) wNext)
  (wSeq (wSetF c.Net N_Net 0 (wVar 0) (wVar 1))
  (wSeq (wSetF c.Net N_Net 1 (wVar 0) (wCall (sp_matrix_of c) (wCons (wVar 2) wNil)))
  (wSeq (wSetF c.Net N_Net 2 (wVar 0) (wCall (sp_vector_of c) (wCons (wVar 3) wNil)))
  (wSeq (wSetF c.Net N_Net 3 (wVar 0) (wCB oTuple (wCons (wLc (wIt (wVar 4)) (gN 7) wYes (wCB oTuple (wCons (wLc (wIt (wVar 7)) (gN 8) wYes (wCall (sp_matrix_of c) (wCons (wVar 8) wNil)) [8]) wNil)) [7]) wNil)))
  (wSeq (wSetF c.Net N_Net 4 (wVar 0) (wCall (sp_matrix_of c) (wCons (wVar 5) wNil)))
  (wSetF c.Net N_Net 5 (wVar 0) (wVar 6))))))))
def N_Net_is_letter_ : List Str := ["self", "value"]
/-- Net.is_letter: slots 0 self, 1 value, -/
def w_Net_is_letter (c : Cl) : WPs := (wRet (wCall (sp_is_between c) (wCons (wVar 1) (wCons (wC (.int 0)) (wCons (wBin oSub (wCB oLen (wCons (wFld c.Net N_Net 1 (wVar 0)) wNil)) (wC (.int 1))) wNil)))))
def N_Net_rest_ : List Str := ["self", "number"]
/-- Net.rest: slots 0 self, 1 number, -/
def w_Net_rest (c : Cl) : WPs := (wRet (wBin oMod (wCB oInt (wCons (wVar 1) wNil)) (wFld c.Net N_Net 0 (wVar 0))))
def N_Net_times_ : List Str := ["self", "matrix", "vector", "row"]
/-- Net.times: slots 0 self, 1 matrix, 2 vector, 3 row, -/
def w_Net_times (c : Cl) : WPs := (wRet (wCB oTuple (wCons (wLc (wIt (wVar 1)) (gN 3) wYes (wMeth c.Net N_Net (sp_Net_rest c) (wVar 0) (wCons (wCall (sp_product_sum c) (wCons (wVar 3) (wCons (wVar 2) wNil))) wNil)) [3]) wNil)))
def N_Net_plus_ : List Str := ["self", "one", "two", "number", "other"]
/-- Net.plus: slots 0 self, 1 one, 2 two, 3 number, 4 other, -/
def w_Net_plus (c : Cl) : WPs := (wRet (wCB oTuple (wCons (wLc (wZip (wVar 1) (wVar 2)) (gT [(gN 3), (gN 4)]) wYes (wMeth c.Net N_Net (sp_Net_rest c) (wVar 0) (wCons (wBin oAdd (wVar 3) (wVar 4)) wNil)) [3, 4]) wNil)))
def N_Net_looked_at_ : List Str := ["self", "query", "pairs", "found", "key", "value", "part", "_", "number"]
/-- Net.looked_at: slots 0 self, 1 query, 2 pairs, 3 found, 4 key, 5 value, 6 part, 7 _, 8 number, -/
def w_Net_looked_at (c : Cl) : WPs := (wSeq (wSet 3 (wCB oTuple (wCons (wLc (wIt (wVar 1)) (gN 7) wYes (wC (.int 0)) [7]) wNil)))
  (wSeq (wFor (wIt (wVar 2)) (gT [(gN 4), (gN 5)]) (wSeq (wSet 6 (wCall (sp_product_sum c) (wCons (wVar 1) (wCons (wVar 4) wNil))))
  (wSet 3 (wMeth c.Net N_Net (sp_Net_plus c) (wVar 0) (wCons (wVar 3) (wCons (wLc (wIt (wVar 5)) (gN 8) wYes (wBin oMul (wVar 6) (wVar 8)) [8]) wNil))))))
  (wRet (wVar 3))))
def N_Net_row_ : List Str := ["self", "rows", "letter", "x", "own", "layer", "query", "key", "value", "first", "second", "pair", "pairs", "weights", "number", "row", "vector"]
/-- Net.row: slots 0 self, 1 rows, 2 letter, 3 x, 4 own, 5 layer, 6 query, 7 key, 8 value, 9 first, 10 second, 11 pair, 12 pairs, 13 weights, 14 number, 15 row, 16 vector, -/
def w_Net_row (c : Cl) : WPs := (wSeq (wIf (wNot (wTest (wMeth c.Net N_Net (sp_Net_is_letter c) (wVar 0) (wCons (wVar 2) wNil)))) (wRaise (wMkE c.InvalidLetter "letter" (wVar 2))) wNext)
  (wSeq (wSet 3 (wMeth c.Net N_Net (sp_Net_plus c) (wVar 0) (wCons (wBin oIx (wFld c.Net N_Net 1 (wVar 0)) (wVar 2)) (wCons (wLc (wIt (wFld c.Net N_Net 2 (wVar 0))) (gN 14) wYes (wBin oMul (wCB oLen (wCons (wVar 1) wNil)) (wVar 14)) [14]) wNil))))
  (wSeq (wSet 4 (wLstM wNil))
  (wSeq (wFor (wEnum (wFld c.Net N_Net 3 (wVar 0))) (gT [(gN 5), (gT [(gN 6), (gN 7), (gN 8), (gN 9), (gN 10)])]) (wSeq (wSet 11 (wTup (wCons (wMeth c.Net N_Net (sp_Net_times c) (wVar 0) (wCons (wVar 7) (wCons (wVar 3) wNil))) (wCons (wMeth c.Net N_Net (sp_Net_times c) (wVar 0) (wCons (wVar 8) (wCons (wVar 3) wNil))) wNil))))
  (wSeq (wSet 12 (wBin oAdd (wLc (wIt (wVar 1)) (gN 15) wYes (wBin oIx (wBin oIx (wVar 15) (wC (.int 0))) (wVar 5)) [15]) (wLst (wCons (wVar 11) wNil))))
  (wSeq (wSet 3 (wMeth c.Net N_Net (sp_Net_plus c) (wVar 0) (wCons (wVar 3) (wCons (wMeth c.Net N_Net (sp_Net_looked_at c) (wVar 0) (wCons (wMeth c.Net N_Net (sp_Net_times c) (wVar 0) (wCons (wVar 6) (wCons (wVar 3) wNil))) (wCons (wVar 12) wNil))) wNil))))
  (wSeq (wSet 3 (wMeth c.Net N_Net (sp_Net_plus c) (wVar 0) (wCons (wVar 3) (wCons (wMeth c.Net N_Net (sp_Net_times c) (wVar 0) (wCons (wVar 10) (wCons (wLc (wIt (wMeth c.Net N_Net (sp_Net_times c) (wVar 0) (wCons (wVar 9) (wCons (wVar 3) wNil)))) (gN 14) wYes (wBin oMul (wVar 14) (wVar 14)) [14]) wNil))) wNil))))
  (wDrop (wMt oAppend (wVar 4) (wCons (wVar 11) wNil))))))))
  (wSeq (wSet 13 (wLc (wIt (wFld c.Net N_Net 4 (wVar 0))) (gN 16) wYes (wBin oAdd (wC (.int 1)) (wMeth c.Net N_Net (sp_Net_rest c) (wVar 0) (wCons (wCall (sp_product_sum c) (wCons (wVar 16) (wCons (wVar 3) wNil))) wNil))) [16]))
  (wRet (wTup (wCons (wCB oTuple (wCons (wVar 4) wNil)) (wCons (wCB oTuple (wCons (wVar 13) wNil)) wNil)))))))))
def N_rows_of_ : List Str := ["net", "letters", "rows", "letter"]
/-- rows_of: slots 0 net, 1 letters, 2 rows, 3 letter, -/
def w_rows_of (c : Cl) : WPs := (wSeq (wSet 2 (wLstM wNil))
  (wSeq (wFor (wIt (wVar 1)) (gN 3) (wDrop (wMt oAppend (wVar 2) (wCons (wMeth c.Net N_Net (sp_Net_row c) (wVar 0) (wCons (wVar 2) (wCons (wVar 3) wNil))) wNil))))
  (wRet (wCB oTuple (wCons (wVar 2) wNil)))))
def N_check_letters_ : List Str := ["net", "ask", "begun", "row", "letter"]
/-- check_letters: slots 0 net, 1 ask, 2 begun, 3 row, 4 letter, -/
def w_check_letters (c : Cl) : WPs := (wFor (wIt (wBin oAdd (wBin oAdd (wTup (wCons (wFld c.Ask N_Ask 0 (wVar 1)) wNil)) (wFld c.Ask N_Ask 2 (wVar 1))) (wTup (wCons (wCB oTuple (wCons (wVar 2) wNil)) wNil)))) (gN 3) (wFor (wIt (wVar 3)) (gN 4) (wIf (wNot (wTest (wMeth c.Net N_Net (sp_Net_is_letter c) (wVar 0) (wCons (wVar 4) wNil)))) (wRaise (wMkE c.InvalidLetter "letter" (wVar 4))) wNext)))
def N_stop_length_ : List Str := ["stops", "text", "most", "stop"]
/-- stop_length: slots 0 stops, 1 text, 2 most, 3 stop, -/
def w_stop_length (c : Cl) : WPs := (wSeq (wSet 2 (wC (.int 0)))
  (wSeq (wFor (wIt (wVar 0)) (gN 3) (wIf (wAnd (wTest (wChain oLt oLe (wVar 2) (wCB oLen (wCons (wVar 3) wNil)) (wCB oLen (wCons (wVar 1) wNil)))) (wTest (wBin oEq (wSl (wVar 1) (wP (wBin oSub (wCB oLen (wCons (wVar 1) wNil)) (wCB oLen (wCons (wVar 3) wNil)))) wNoP) (wVar 3)))) (wSet 2 (wCB oLen (wCons (wVar 3) wNil))) wNext))
  (wRet (wVar 2))))
def N_greatest_ : List Str := ["weights", "best", "letter", "weight"]
/-- greatest: slots 0 weights, 1 best, 2 letter, 3 weight, -/
def w_greatest (c : Cl) : WPs := (wSeq (wSet 1 (wC (.int 0)))
  (wSeq (wFor (wEnum (wVar 0)) (gT [(gN 2), (gN 3)]) (wIf (wTest (wBin oGt (wVar 3) (wBin oIx (wVar 0) (wVar 1)))) (wSet 1 (wVar 2)) wNext))
  (wRet (wVar 1))))
def N_by_number_ : List Str := ["weights", "number", "left", "letter"]
/-- by_number: slots 0 weights, 1 number, 2 left, 3 letter, -/
def w_by_number (c : Cl) : WPs := (wSeq (wSet 2 (wBin oMod (wCB oInt (wCons (wVar 1) wNil)) (wCB oSumA (wCons (wVar 0) wNil))))
  (wSeq (wSet 3 (wC (.int 0)))
  (wSeq (wWhile (wTest (wBin oGe (wVar 2) (wBin oIx (wVar 0) (wVar 3)))) (wSeq (wAug 2 oSub (wBin oIx (wVar 0) (wVar 3)))
  (wAug 3 (oI0 fun i j => .int (i + j)) (wC (.int 1)))))
  (wRet (wVar 3)))))
def N_Rule_init_ : List Str := ["self", "start", "steps", "row"]
/-- Rule.__init__: slots 0 self, 1 start, 2 steps, 3 row, -/
def w_Rule_init (c : Cl) : WPs := (wSeq (wSetF c.Rule N_Rule 0 (wVar 0) (wVar 1))
  (wSetF c.Rule N_Rule 1 (wVar 0) (wCB oTuple (wCons (wLc (wIt (wVar 2)) (gN 3) wYes (wCB oTuple (wCons (wVar 3) wNil)) [3]) wNil))))
def N_Rule_after_ : List Str := ["self", "text", "state", "letter"]
/-- Rule.after: slots 0 self, 1 text, 2 state, 3 letter, -/
def w_Rule_after (c : Cl) : WPs := (wSeq (wSet 2 (wFld c.Rule N_Rule 0 (wVar 0)))
  (wSeq (wFor (wIt (wVar 1)) (gN 3) (wSeq (wIf (wTest (wBin oIsN (wVar 2) (wC .non))) (wRet (wC .non)) wNext)
  (wSet 2 (wBin oIx (wBin oIx (wFld c.Rule N_Rule 1 (wVar 0)) (wVar 2)) (wVar 3)))))
  (wRet (wVar 2))))
def N_Rule_lets_ : List Str := ["self", "text", "letter"]
/-- Rule.lets: slots 0 self, 1 text, 2 letter, -/
def w_Rule_lets (c : Cl) : WPs := (wRet (wBin oNotN (wMeth c.Rule N_Rule (sp_Rule_after c) (wVar 0) (wCons (wBin oAdd (wCB oTuple (wCons (wVar 1) wNil)) (wTup (wCons (wVar 2) wNil))) wNil)) (wC .non)))
def N_Ask_init_ : List Str := ["self", "prompt", "most", "stops", "tape", "rule", "stop"]
/-- Ask.__init__: slots 0 self, 1 prompt, 2 most, 3 stops, 4 tape, 5 rule, 6 stop, -/
def w_Ask_init (c : Cl) : WPs := (wSeq (wIf (wNot (wTest (wCall (sp_is_between c) (wCons (wVar 2) (wCons (wC (.int 1)) (wCons (wC (.int (30))) wNil)))))) (wRaise (wMkE c.InvalidNumber "number" (wVar 2))) wNext)
  (wSeq (wSetF c.Ask N_Ask 0 (wVar 0) (wCB oTuple (wCons (wVar 1) wNil)))
  (wSeq (wSetF c.Ask N_Ask 1 (wVar 0) (wVar 2))
  (wSeq (wSetF c.Ask N_Ask 2 (wVar 0) (wCB oTuple (wCons (wLc (wIt (wVar 3)) (gN 6) wYes (wCB oTuple (wCons (wVar 6) wNil)) [6]) wNil)))
  (wSeq (wSetF c.Ask N_Ask 3 (wVar 0) (wCB oTuple (wCons (wVar 4) wNil)))
  (wSetF c.Ask N_Ask 4 (wVar 0) (wVar 5)))))))
def N_Ask_let_weights_ : List Str := ["self", "weights", "text", "letter", "weight"]
/-- Ask.let_weights: slots 0 self, 1 weights, 2 text, 3 letter, 4 weight, -/
def w_Ask_let_weights (c : Cl) : WPs := (wSeq (wIf (wTest (wBin oIsN (wFld c.Ask N_Ask 4 (wVar 0)) (wC .non))) (wRet (wCB oTuple (wCons (wVar 1) wNil))) wNext)
  (wRet (wCB oTuple (wCons (wLc (wEnum (wVar 1)) (gT [(gN 3), (gN 4)]) wYes (wBin oMul (wVar 4) (wCB oInt (wCons (wMeth c.Rule N_Rule (sp_Rule_lets c) (wFld c.Ask N_Ask 4 (wVar 0)) (wCons (wVar 2) (wCons (wVar 3) wNil))) wNil))) [3, 4]) wNil))))
def N_Ask_choice_ : List Str := ["self", "weights", "text", "let"]
/-- Ask.choice: slots 0 self, 1 weights, 2 text, 3 let, -/
def w_Ask_choice (c : Cl) : WPs := (wSeq (wSet 3 (wMeth c.Ask N_Ask (sp_Ask_let_weights c) (wVar 0) (wCons (wVar 1) (wCons (wVar 2) wNil))))
  (wSeq (wIf (wTest (wBin oEq (wCB oSumA (wCons (wVar 3) wNil)) (wC (.int 0)))) (wRet (wC .non)) wNext)
  (wSeq (wIf (wTest (wBin oEq (wCB oLen (wCons (wFld c.Ask N_Ask 3 (wVar 0)) wNil)) (wC (.int 0)))) (wRet (wCall (sp_greatest c) (wCons (wVar 3) wNil))) wNext)
  (wRet (wCall (sp_by_number c) (wCons (wVar 3) (wCons (wBin oIx (wFld c.Ask N_Ask 3 (wVar 0)) (wBin oMod (wCB oLen (wCons (wVar 2) wNil)) (wCB oLen (wCons (wFld c.Ask N_Ask 3 (wVar 0)) wNil)))) wNil)))))))
def N_next_text_ : List Str := ["net", "ask", "text", "weights", "letter", "length"]
/-- next_text: slots 0 net, 1 ask, 2 text, 3 weights, 4 letter, 5 length, -/
def w_next_text (c : Cl) : WPs := (wSeq (wSet 4 (wMeth c.Ask N_Ask (sp_Ask_choice c) (wVar 1) (wCons (wVar 3) (wCons (wVar 2) wNil))))
  (wSeq (wIf (wTest (wBin oIsN (wVar 4) (wC .non))) (wRet (wTup (wCons (wVar 2) (wCons (wC (.str "stuck")) wNil)))) wNext)
  (wSeq (wIf (wTest (wBin oEq (wVar 4) (wFld c.Net N_Net 5 (wVar 0)))) (wRet (wTup (wCons (wVar 2) (wCons (wC (.str "end")) wNil)))) wNext)
  (wSeq (wSet 2 (wBin oAdd (wVar 2) (wTup (wCons (wVar 4) wNil))))
  (wSeq (wSet 5 (wCall (sp_stop_length c) (wCons (wFld c.Ask N_Ask 2 (wVar 1)) (wCons (wVar 2) wNil))))
  (wSeq (wIf (wTest (wBin oGt (wVar 5) (wC (.int 0)))) (wRet (wTup (wCons (wSl (wVar 2) wNoP (wP (wBin oSub (wCB oLen (wCons (wVar 2) wNil)) (wVar 5)))) (wCons (wC (.str "stop")) wNil)))) wNext)
  (wRet (wTup (wCons (wVar 2) (wCons (wIfE (wTest (wBin oEq (wCB oLen (wCons (wVar 2) wNil)) (wFld c.Ask N_Ask 1 (wVar 1)))) (wC (.str "most")) (wC .non)) wNil))))))))))
def N_written_ : List Str := ["net", "ask", "begun", "text", "rows", "word"]
/-- written: slots 0 net, 1 ask, 2 begun, 3 text, 4 rows, 5 word, -/
def w_written (c : Cl) : WPs := (wSeq (wDrop (wCall (sp_check_letters c) (wCons (wVar 0) (wCons (wVar 1) (wCons (wVar 2) wNil)))))
  (wSeq (wSet 3 (wCB oTuple (wCons (wVar 2) wNil)))
  (wSeq (wSet 4 (wCB oListM (wCons (wCall (sp_rows_of c) (wCons (wVar 0) (wCons (wBin oAdd (wFld c.Ask N_Ask 0 (wVar 1)) (wVar 3)) wNil))) wNil)))
  (wSeq (wAsgG (gT [(gN 3), (gN 5)]) (wCall (sp_next_text c) (wCons (wVar 0) (wCons (wVar 1) (wCons (wVar 3) (wCons (wBin oIx (wBin oIx (wVar 4) (wUn oNeg (wC (.int 1)))) (wC (.int 1))) wNil))))))
  (wSeq (wWhile (wTest (wBin oIsN (wVar 5) (wC .non))) (wSeq (wDrop (wMt oAppend (wVar 4) (wCons (wMeth c.Net N_Net (sp_Net_row c) (wVar 0) (wCons (wVar 4) (wCons (wBin oIx (wVar 3) (wUn oNeg (wC (.int 1)))) wNil))) wNil)))
  (wAsgG (gT [(gN 3), (gN 5)]) (wCall (sp_next_text c) (wCons (wVar 0) (wCons (wVar 1) (wCons (wVar 3) (wCons (wBin oIx (wBin oIx (wVar 4) (wUn oNeg (wC (.int 1)))) (wC (.int 1))) wNil))))))))
  (wRet (wTup (wCons (wVar 3) (wCons (wVar 5) wNil)))))))))
def N__law_numbers_ : List Str := ["cell", "at", "many", "great", "rest", "numbers", "k", "mixed"]
/-- _law_numbers: slots 0 cell, 1 at, 2 many, 3 great, 4 rest, 5 numbers, 6 k, 7 mixed, -/
def w__law_numbers (c : Cl) : WPs := (wSeq (wSet 3 (wBin oGe (wCB oAbs (wCons (wCB oInt (wCons (wVar 0) wNil)) wNil)) (wBin oPow (wC (.int 10)) (wC (.int 18)))))
  (wSeq (wSet 4 (wBin oAdd (wBin oMulS (wC (.int 2)) (wCB oAbs (wCons (wCB oInt (wCons (wVar 0) wNil)) wNil))) (wCB oInt (wCons (wBin oLt (wVar 0) (wC (.int 0))) wNil))))
  (wSeq (wSet 5 (wLstM wNil))
  (wSeq (wFor (wRg1 (wVar 2)) (gN 6) (wIf (wTest (wVar 3)) (wSeq (wDrop (wMt oAppend (wVar 5) (wCons (wBin oMod (wCB oInt (wCons (wVar 4) wNil)) (wC (.int 1000))) wNil)))
  (wSet 4 (wBin oDiv (wVar 4) (wC (.int 1000))))) (wSeq (wSet 7 (wBin oMod (wCB oInt (wCons (wBin oAdd (wBin oAdd (wBin oAdd (wBin oMul (wVar 4) (wC (.int 48271))) (wBin oMul (wVar 1) (wC (.int 69621)))) (wBin oMul (wVar 6) (wC (.int 16807)))) (wC (.int 7))) wNil)) (wC (.int 2147483647))))
  (wSeq (wSet 7 (wBin oMod (wCB oInt (wCons (wBin oAdd (wBin oAdd (wBin oMul (wVar 7) (wVar 7)) (wBin oMul (wVar 6) (wC (.int 40692)))) (wC (.int 3))) wNil)) (wC (.int 2147483629))))
  (wSeq (wSet 7 (wBin oMod (wCB oInt (wCons (wBin oAdd (wBin oAdd (wBin oMul (wVar 7) (wVar 7)) (wBin oMul (wVar 1) (wC (.int 30269)))) (wC (.int 5))) wNil)) (wC (.int 2147483587))))
  (wDrop (wMt oAppend (wVar 5) (wCons (wBin oMod (wCB oInt (wCons (wBin oDiv (wVar 7) (wC (.int 5))) wNil)) (wC (.int 1000))) wNil))))))))
  (wRet (wFrz (wVar 5)))))))
def N__law_same_ : List Str := ["actual", "expected", "k"]
/-- _law_same: slots 0 actual, 1 expected, 2 k, -/
def w__law_same (c : Cl) (n : Nat) : WPs := (wSeq (wIf (wTest (wBin oIsN (wVar 1) (wC .non))) (wRet (wBin oIsN (wVar 0) (wC .non))) wNext)
  (wSeq (wIf (wTest (wIsi "str" (wVar 1))) (wRet (wAndV (wIsi "str" (wVar 0)) (wBin oEq (wVar 0) (wVar 1)))) wNext)
  (wSeq (wIf (wTest (wIsi "bool" (wVar 1))) (wRet (wAndV (wIsi "bool" (wVar 0)) (wBin oEq (wVar 0) (wVar 1)))) wNext)
  (wSeq (wIf (wTest (wIsi "int" (wVar 1))) (wRet (wAndV (wIsi "int" (wVar 0)) (wAndV (wNotV (wIsi "bool" (wVar 0))) (wBin oEq (wVar 0) (wVar 1))))) wNext)
  (wSeq (wIf (wOr (wNot (wTest (wIsi "tuple" (wVar 0)))) (wTest (wBin oNe (wCB oLen (wCons (wVar 0) wNil)) (wCB oLen (wCons (wVar 1) wNil))))) (wRet (wC (.bl false))) wNext)
  (wSeq (wFor (wRg1 (wCB oLen (wCons (wVar 1) wNil))) (gN 2) (wIf (wNot (wTest (wCall (sp__law_same_n c n) (wCons (wBin oIx (wVar 0) (wVar 2)) (wCons (wBin oIx (wVar 1) (wVar 2)) wNil))))) (wRet (wC (.bl false))) wNext))
  (wRet (wC (.bl true)))))))))
def N__law_vector_ : List Str := ["numbers", "at", "width", "prime", "vector", "j"]
/-- _law_vector: slots 0 numbers, 1 at, 2 width, 3 prime, 4 vector, 5 j, -/
def w__law_vector (c : Cl) : WPs := (wSeq (wSet 4 (wLstM wNil))
  (wSeq (wFor (wRg2 (wVar 1) (wBin oAdd (wVar 1) (wVar 2))) (gN 5) (wDrop (wMt oAppend (wVar 4) (wCons (wBin oMod (wCB oInt (wCons (wBin oAdd (wBin oIx (wVar 0) (wBin oMod (wCB oInt (wCons (wVar 5) wNil)) (wCB oLen (wCons (wVar 0) wNil)))) (wBin oMul (wC (.int 7)) (wBin oDiv (wVar 5) (wCB oLen (wCons (wVar 0) wNil))))) wNil)) (wVar 3)) wNil))))
  (wRet (wCB oTuple (wCons (wVar 4) wNil)))))
def N__law_net_ : List Str := ["numbers", "letters", "width", "many", "prime", "rows", "j", "layers", "at", "matrices", "first"]
/-- _law_net: slots 0 numbers, 1 letters, 2 width, 3 many, 4 prime, 5 rows, 6 j, 7 layers, 8 at, 9 matrices, 10 first, -/
def w__law_net (c : Cl) : WPs := (wSeq (wSet 5 (wLstM wNil))
  (wSeq (wFor (wRg1 (wBin oAdd (wBin oAdd (wBin oMul (wC (.int 2)) (wVar 1)) (wC (.int 1))) (wBin oMul (wBin oMul (wC (.int 5)) (wVar 2)) (wVar 3)))) (gN 6) (wDrop (wMt oAppend (wVar 5) (wCons (wCall (sp__law_vector c) (wCons (wVar 0) (wCons (wBin oMul (wVar 6) (wVar 2)) (wCons (wVar 2) (wCons (wVar 4) wNil))))) wNil))))
  (wSeq (wSet 7 (wLstM wNil))
  (wSeq (wFor (wRg1 (wVar 3)) (gN 8) (wSeq (wSet 9 (wLstM wNil))
  (wSeq (wFor (wRg1 (wC (.int 5))) (gN 6) (wSeq (wSet 10 (wBin oAdd (wBin oAdd (wBin oMul (wC (.int 2)) (wVar 1)) (wC (.int 1))) (wBin oMul (wVar 2) (wBin oAdd (wBin oMul (wC (.int 5)) (wVar 8)) (wVar 6)))))
  (wDrop (wMt oAppend (wVar 9) (wCons (wCB oTuple (wCons (wSl (wVar 5) (wP (wVar 10)) (wP (wBin oAdd (wVar 10) (wVar 2)))) wNil)) wNil)))))
  (wDrop (wMt oAppend (wVar 7) (wCons (wCB oTuple (wCons (wVar 9) wNil)) wNil))))))
  (wRet (wTup (wCons (wVar 4) (wCons (wCB oTuple (wCons (wSl (wVar 5) wNoP (wP (wVar 1))) wNil)) (wCons (wBin oIx (wVar 5) (wBin oMul (wC (.int 2)) (wVar 1))) (wCons (wCB oTuple (wCons (wVar 7) wNil)) (wCons (wCB oTuple (wCons (wSl (wVar 5) (wP (wVar 1)) (wP (wBin oMul (wC (.int 2)) (wVar 1)))) wNil)) wNil)))))))))))
def N__law_dot_ : List Str := ["one", "other", "prime", "total", "k"]
/-- _law_dot: slots 0 one, 1 other, 2 prime, 3 total, 4 k, -/
def w__law_dot (c : Cl) : WPs := (wSeq (wSet 3 (wC (.int 0)))
  (wSeq (wFor (wRg1 (wCB oLen (wCons (wVar 0) wNil))) (gN 4) (wSet 3 (wBin oAdd (wVar 3) (wBin oMul (wBin oIx (wVar 0) (wVar 4)) (wBin oIx (wVar 1) (wVar 4))))))
  (wRet (wBin oMod (wCB oInt (wCons (wVar 3) wNil)) (wVar 2)))))
def N__law_times_ : List Str := ["matrix", "vector", "prime", "row"]
/-- _law_times: slots 0 matrix, 1 vector, 2 prime, 3 row, -/
def w__law_times (c : Cl) : WPs := (wRet (wLc (wIt (wVar 0)) (gN 3) wYes (wCall (sp__law_dot c) (wCons (wVar 3) (wCons (wVar 1) (wCons (wVar 2) wNil)))) [3]))
def N__law_row_ : List Str := ["net", "rows", "letter", "prime", "x", "pairs", "at", "layer", "asked", "pair", "other", "near", "squares", "more", "k", "row", "one"]
/-- _law_row: slots 0 net, 1 rows, 2 letter, 3 prime, 4 x, 5 pairs, 6 at, 7 layer, 8 asked, 9 pair, 10 other, 11 near, 12 squares, 13 more, 14 k, 15 row, 16 one, -/
def w__law_row (c : Cl) : WPs := (wSeq (wSet 3 (wBin oIx (wVar 0) (wC (.int 0))))
  (wSeq (wSet 4 (wLc (wRg1 (wCB oLen (wCons (wBin oIx (wVar 0) (wC (.int 2))) wNil))) (gN 14) wYes (wBin oMod (wCB oInt (wCons (wBin oAdd (wBin oIx (wBin oIx (wBin oIx (wVar 0) (wC (.int 1))) (wVar 2)) (wVar 14)) (wBin oMul (wCB oLen (wCons (wVar 1) wNil)) (wBin oIx (wBin oIx (wVar 0) (wC (.int 2))) (wVar 14)))) wNil)) (wVar 3)) [14]))
  (wSeq (wSet 5 (wLstM wNil))
  (wSeq (wFor (wRg1 (wCB oLen (wCons (wBin oIx (wVar 0) (wC (.int 3))) wNil))) (gN 6) (wSeq (wSet 7 (wBin oIx (wBin oIx (wVar 0) (wC (.int 3))) (wVar 6)))
  (wSeq (wSet 8 (wCall (sp__law_times c) (wCons (wBin oIx (wVar 7) (wC (.int 0))) (wCons (wVar 4) (wCons (wVar 3) wNil)))))
  (wSeq (wSet 9 (wTup (wCons (wCB oTuple (wCons (wCall (sp__law_times c) (wCons (wBin oIx (wVar 7) (wC (.int 1))) (wCons (wVar 4) (wCons (wVar 3) wNil)))) wNil)) (wCons (wCB oTuple (wCons (wCall (sp__law_times c) (wCons (wBin oIx (wVar 7) (wC (.int 2))) (wCons (wVar 4) (wCons (wVar 3) wNil)))) wNil)) wNil))))
  (wSeq (wFor (wIt (wBin oAdd (wLc (wIt (wVar 1)) (gN 15) wYes (wBin oIx (wBin oIx (wVar 15) (wC (.int 0))) (wVar 6)) [15]) (wLst (wCons (wVar 9) wNil)))) (gN 10) (wSeq (wSet 11 (wCall (sp__law_dot c) (wCons (wVar 8) (wCons (wBin oIx (wVar 10) (wC (.int 0))) (wCons (wVar 3) wNil)))))
  (wSet 4 (wLc (wRg1 (wCB oLen (wCons (wVar 4) wNil))) (gN 14) wYes (wBin oMod (wCB oInt (wCons (wBin oAdd (wBin oIx (wVar 4) (wVar 14)) (wBin oMul (wVar 11) (wBin oIx (wBin oIx (wVar 10) (wC (.int 1))) (wVar 14)))) wNil)) (wVar 3)) [14]))))
  (wSeq (wSet 12 (wLc (wIt (wCall (sp__law_times c) (wCons (wBin oIx (wVar 7) (wC (.int 3))) (wCons (wVar 4) (wCons (wVar 3) wNil))))) (gN 16) wYes (wBin oMul (wVar 16) (wVar 16)) [16]))
  (wSeq (wSet 13 (wCall (sp__law_times c) (wCons (wBin oIx (wVar 7) (wC (.int 4))) (wCons (wVar 12) (wCons (wVar 3) wNil)))))
  (wSeq (wSet 4 (wLc (wRg1 (wCB oLen (wCons (wVar 4) wNil))) (gN 14) wYes (wBin oMod (wCB oInt (wCons (wBin oAdd (wBin oIx (wVar 4) (wVar 14)) (wBin oIx (wVar 13) (wVar 14))) wNil)) (wVar 3)) [14]))
  (wDrop (wMt oAppend (wVar 5) (wCons (wVar 9) wNil)))))))))))
  (wRet (wTup (wCons (wCB oTuple (wCons (wVar 5) wNil)) (wCons (wCB oTuple (wCons (wLc (wIt (wBin oIx (wVar 0) (wC (.int 4)))) (gN 16) wYes (wBin oAdd (wCall (sp__law_dot c) (wCons (wVar 16) (wCons (wVar 4) (wCons (wVar 3) wNil)))) (wC (.int 1))) [16]) wNil)) wNil))))))))
def N__law_rows_ : List Str := ["net", "letters", "rows", "letter"]
/-- _law_rows: slots 0 net, 1 letters, 2 rows, 3 letter, -/
def w__law_rows (c : Cl) : WPs := (wSeq (wSet 2 (wLstM wNil))
  (wSeq (wFor (wIt (wVar 1)) (gN 3) (wDrop (wMt oAppend (wVar 2) (wCons (wCall (sp__law_row c) (wCons (wVar 0) (wCons (wVar 2) (wCons (wVar 3) wNil)))) wNil))))
  (wRet (wVar 2))))
def N__law_after_ : List Str := ["rule", "text", "state", "letter"]
/-- _law_after: slots 0 rule, 1 text, 2 state, 3 letter, -/
def w__law_after (c : Cl) : WPs := (wSeq (wSet 2 (wBin oIx (wVar 0) (wC (.int 0))))
  (wSeq (wFor (wIt (wVar 1)) (gN 3) (wIf (wTest (wBin oNotN (wVar 2) (wC .non))) (wSet 2 (wBin oIx (wBin oIx (wBin oIx (wVar 0) (wC (.int 1))) (wVar 2)) (wVar 3))) wNext))
  (wRet (wVar 2))))
def N__law_counted_ : List Str := ["weights", "rule", "text", "counted", "state", "letter"]
/-- _law_counted: slots 0 weights, 1 rule, 2 text, 3 counted, 4 state, 5 letter, -/
def w__law_counted (c : Cl) : WPs := (wSeq (wSet 3 (wCB oListM (wCons (wVar 0) wNil)))
  (wSeq (wIf (wTest (wBin oNotN (wVar 1) (wC .non))) (wSeq (wSet 4 (wCall (sp__law_after c) (wCons (wVar 1) (wCons (wVar 2) wNil))))
  (wFor (wRg1 (wCB oLen (wCons (wVar 0) wNil))) (gN 5) (wIf (wOr (wTest (wBin oIsN (wVar 4) (wC .non))) (wTest (wBin oIsN (wBin oIx (wBin oIx (wBin oIx (wVar 1) (wC (.int 1))) (wVar 4)) (wVar 5)) (wC .non)))) (wSetI (wVar 3) (wVar 5) (wC (.int 0))) wNext))) wNext)
  (wRet (wVar 3))))
def N__law_choice_ : List Str := ["weights", "rule", "tape", "text", "counted", "rest", "letter", "k"]
/-- _law_choice: slots 0 weights, 1 rule, 2 tape, 3 text, 4 counted, 5 rest, 6 letter, 7 k, -/
def w__law_choice (c : Cl) : WPs := (wSeq (wSet 4 (wCall (sp__law_counted c) (wCons (wVar 0) (wCons (wVar 1) (wCons (wVar 3) wNil)))))
  (wSeq (wIf (wTest (wBin oEq (wCB oSum (wCons (wVar 4) wNil)) (wC (.int 0)))) (wRet (wC .non)) wNext)
  (wSeq (wIf (wTest (wBin oEq (wCB oLen (wCons (wVar 2) wNil)) (wC (.int 0)))) (wRet (wMt oIndex (wVar 4) (wCons (wCB oMaxL (wCons (wVar 4) wNil)) wNil))) wNext)
  (wSeq (wSet 5 (wBin oMod (wCB oInt (wCons (wBin oIx (wVar 2) (wBin oMod (wCB oInt (wCons (wCB oLen (wCons (wVar 3) wNil)) wNil)) (wCB oLen (wCons (wVar 2) wNil)))) wNil)) (wCB oSum (wCons (wVar 4) wNil))))
  (wSeq (wSet 6 (wC (.int 0)))
  (wSeq (wFor (wRg1 (wCB oLen (wCons (wVar 4) wNil))) (gN 7) (wIf (wTest (wBin oGe (wVar 5) (wCB oSum (wCons (wSl (wVar 4) wNoP (wP (wBin oAdd (wVar 7) (wC (.int 1))))) wNil)))) (wSet 6 (wBin oAdd (wVar 7) (wC (.int 1)))) wNext))
  (wRet (wVar 6))))))))
def N__law_rule_ : List Str := ["numbers", "k", "letters", "states", "steps", "state", "row", "letter", "seed"]
/-- _law_rule: slots 0 numbers, 1 k, 2 letters, 3 states, 4 steps, 5 state, 6 row, 7 letter, 8 seed, -/
def w__law_rule (c : Cl) : WPs := (wSeq (wIf (wTest (wBin oGt (wBin oMod (wCB oInt (wCons (wBin oIx (wVar 0) (wVar 1)) wNil)) (wC (.int 3))) (wC (.int 0)))) (wRet (wC .non)) wNext)
  (wSeq (wSet 3 (wBin oAdd (wC (.int 1)) (wBin oMod (wCB oInt (wCons (wBin oIx (wVar 0) (wBin oAdd (wVar 1) (wC (.int 1)))) wNil)) (wC (.int 6)))))
  (wSeq (wSet 4 (wLstM wNil))
  (wSeq (wFor (wRg1 (wVar 3)) (gN 5) (wSeq (wSet 6 (wLstM wNil))
  (wSeq (wFor (wRg1 (wVar 2)) (gN 7) (wSeq (wSet 8 (wBin oIx (wVar 0) (wBin oAdd (wBin oAdd (wBin oAdd (wVar 1) (wC (.int 3))) (wBin oMul (wVar 5) (wVar 2))) (wVar 7))))
  (wDrop (wMt oAppend (wVar 6) (wCons (wBin oIx (wLst (wCons (wBin oMod (wCB oInt (wCons (wVar 8) wNil)) (wVar 3)) (wCons (wBin oMod (wCB oInt (wCons (wVar 8) wNil)) (wVar 3)) (wCons (wBin oMod (wCB oInt (wCons (wVar 8) wNil)) (wVar 3)) (wCons (wC .non) wNil))))) (wBin oMod (wCB oInt (wCons (wBin oDiv (wVar 8) (wC (.int 8))) wNil)) (wC (.int 4)))) wNil)))))
  (wDrop (wMt oAppend (wVar 4) (wCons (wCB oTuple (wCons (wVar 6) wNil)) wNil))))))
  (wRet (wTup (wCons (wBin oMod (wCB oInt (wCons (wBin oIx (wVar 0) (wBin oAdd (wVar 1) (wC (.int 2)))) wNil)) (wVar 3)) (wCons (wCB oTuple (wCons (wVar 4) wNil)) wNil))))))))
def N__law_stops_ : List Str := ["numbers", "k", "letters", "stops", "j", "stop", "i"]
/-- _law_stops: slots 0 numbers, 1 k, 2 letters, 3 stops, 4 j, 5 stop, 6 i, -/
def w__law_stops (c : Cl) : WPs := (wSeq (wSet 3 (wLstM wNil))
  (wSeq (wFor (wRg1 (wBin oIx (wLst (wCons (wC (.int 0)) (wCons (wC (.int 0)) (wCons (wC (.int 1)) (wCons (wC (.int 2)) (wCons (wC (.int 3)) (wCons (wC (.int 4)) wNil))))))) (wBin oMod (wCB oInt (wCons (wBin oIx (wVar 0) (wVar 1)) wNil)) (wC (.int 6))))) (gN 4) (wSeq (wSet 5 (wLstM wNil))
  (wSeq (wFor (wRg1 (wBin oAdd (wC (.int 1)) (wBin oMod (wCB oInt (wCons (wBin oIx (wVar 0) (wBin oAdd (wBin oAdd (wVar 1) (wC (.int 1))) (wBin oMul (wC (.int 5)) (wVar 4)))) wNil)) (wC (.int 4))))) (gN 6) (wDrop (wMt oAppend (wVar 5) (wCons (wBin oMod (wCB oInt (wCons (wBin oIx (wVar 0) (wBin oAdd (wBin oAdd (wBin oAdd (wVar 1) (wC (.int 2))) (wBin oMul (wC (.int 5)) (wVar 4))) (wVar 6))) wNil)) (wVar 2)) wNil))))
  (wDrop (wMt oAppend (wVar 3) (wCons (wCB oTuple (wCons (wVar 5) wNil)) wNil))))))
  (wRet (wCB oTuple (wCons (wVar 3) wNil)))))
def N__law_tape_ : List Str := ["numbers", "k", "tape", "j"]
/-- _law_tape: slots 0 numbers, 1 k, 2 tape, 3 j, -/
def w__law_tape (c : Cl) : WPs := (wSeq (wSet 2 (wLstM wNil))
  (wSeq (wFor (wRg1 (wBin oIx (wLst (wCons (wC (.int 0)) (wCons (wC (.int 0)) (wCons (wC (.int 1)) (wCons (wC (.int 2)) (wCons (wBin oMod (wCB oInt (wCons (wBin oIx (wVar 0) (wVar 1)) wNil)) (wC (.int 13))) wNil)))))) (wBin oMod (wCB oInt (wCons (wBin oDiv (wBin oIx (wVar 0) (wVar 1)) (wC (.int 13))) wNil)) (wC (.int 5))))) (gN 3) (wDrop (wMt oAppend (wVar 2) (wCons (wBin oAdd (wBin oMul (wBin oIx (wVar 0) (wBin oAdd (wBin oAdd (wVar 1) (wC (.int 1))) (wBin oMul (wC (.int 2)) (wVar 3)))) (wC (.int 1000))) (wBin oIx (wVar 0) (wBin oAdd (wBin oAdd (wVar 1) (wC (.int 2))) (wBin oMul (wC (.int 2)) (wVar 3))))) wNil))))
  (wRet (wCB oTuple (wCons (wVar 2) wNil)))))
def N__law_ask_ : List Str := ["numbers", "letters", "prompt", "k", "most", "stops"]
/-- _law_ask: slots 0 numbers, 1 letters, 2 prompt, 3 k, 4 most, 5 stops, -/
def w__law_ask (c : Cl) : WPs := (wSeq (wSet 2 (wLstM wNil))
  (wSeq (wFor (wRg1 (wBin oIx (wLst (wCons (wC (.int 1)) (wCons (wC (.int 2)) (wCons (wC (.int 3)) (wCons (wBin oAdd (wC (.int 1)) (wBin oMod (wCB oInt (wCons (wBin oIx (wVar 0) (wC (.int 100))) wNil)) (wC (.int 20)))) wNil))))) (wBin oMod (wCB oInt (wCons (wBin oIx (wVar 0) (wC (.int 101))) wNil)) (wC (.int 4))))) (gN 3) (wDrop (wMt oAppend (wVar 2) (wCons (wBin oMod (wCB oInt (wCons (wBin oIx (wVar 0) (wBin oAdd (wC (.int 102)) (wVar 3))) wNil)) (wVar 1)) wNil))))
  (wSeq (wSet 4 (wBin oIx (wLst (wCons (wC (.int 1)) (wCons (wC (.int 2)) (wCons (wC (.int 5)) (wCons (wBin oAdd (wC (.int 1)) (wBin oMod (wCB oInt (wCons (wBin oIx (wVar 0) (wC (.int 122))) wNil)) (wC (.int 30)))) wNil))))) (wBin oMod (wCB oInt (wCons (wBin oIx (wVar 0) (wC (.int 123))) wNil)) (wC (.int 4)))))
  (wSeq (wSet 5 (wCall (sp__law_stops c) (wCons (wVar 0) (wCons (wC (.int 200)) (wCons (wVar 1) wNil)))))
  (wRet (wTup (wCons (wCB oTuple (wCons (wVar 2) wNil)) (wCons (wVar 4) (wCons (wVar 5) (wCons (wCall (sp__law_tape c) (wCons (wVar 0) (wCons (wC (.int 222)) wNil))) (wCons (wCall (sp__law_rule c) (wCons (wVar 0) (wCons (wC (.int 248)) (wCons (wVar 1) wNil)))) wNil)))))))))))
def N__law_ends_ : List Str := ["text", "stop"]
/-- _law_ends: slots 0 text, 1 stop, -/
def w__law_ends (c : Cl) : WPs := (wRet (wAndV (wBin oLe (wCB oLen (wCons (wVar 1) wNil)) (wCB oLen (wCons (wVar 0) wNil))) (wBin oEq (wCB oTuple (wCons (wSl (wVar 0) (wP (wBin oSub (wCB oLen (wCons (wVar 0) wNil)) (wCB oLen (wCons (wVar 1) wNil)))) wNoP) wNil)) (wCB oTuple (wCons (wVar 1) wNil)))))
def N__law_stopped_ : List Str := ["text", "stops", "longest", "stop"]
/-- _law_stopped: slots 0 text, 1 stops, 2 longest, 3 stop, -/
def w__law_stopped (c : Cl) : WPs := (wSeq (wSet 2 (wC (.int 0)))
  (wSeq (wFor (wIt (wVar 1)) (gN 3) (wIf (wTest (wCall (sp__law_ends c) (wCons (wVar 0) (wCons (wVar 3) wNil)))) (wSet 2 (wCB oMax2 (wCons (wVar 2) (wCons (wCB oLen (wCons (wVar 3) wNil)) wNil)))) wNext))
  (wRet (wVar 2))))
def N__law_written_ : List Str := ["net", "end", "ask", "begun", "rows", "text", "turn", "letter", "stopped"]
/-- _law_written: slots 0 net, 1 end, 2 ask, 3 begun, 4 rows, 5 text, 6 turn, 7 letter, 8 stopped, -/
def w__law_written (c : Cl) : WPs := (wSeq (wSet 4 (wCall (sp__law_rows c) (wCons (wVar 0) (wCons (wBin oAdd (wCB oList (wCons (wBin oIx (wVar 2) (wC (.int 0))) wNil)) (wCB oList (wCons (wVar 3) wNil))) wNil))))
  (wSeq (wSet 5 (wCB oListM (wCons (wVar 3) wNil)))
  (wSeq (wFor (wRg1 (wC (.int 31))) (gN 6) (wSeq (wSet 7 (wCall (sp__law_choice c) (wCons (wBin oIx (wBin oIx (wVar 4) (wUn oNeg (wC (.int 1)))) (wC (.int 1))) (wCons (wBin oIx (wVar 2) (wC (.int 4))) (wCons (wBin oIx (wVar 2) (wC (.int 3))) (wCons (wVar 5) wNil))))))
  (wSeq (wIf (wTest (wBin oIsN (wVar 7) (wC .non))) (wRet (wTup (wCons (wCB oTuple (wCons (wVar 5) wNil)) (wCons (wC (.str "stuck")) wNil)))) wNext)
  (wSeq (wIf (wTest (wBin oEq (wVar 7) (wVar 1))) (wRet (wTup (wCons (wCB oTuple (wCons (wVar 5) wNil)) (wCons (wC (.str "end")) wNil)))) wNext)
  (wSeq (wDrop (wMt oAppend (wVar 5) (wCons (wVar 7) wNil)))
  (wSeq (wSet 8 (wCall (sp__law_stopped c) (wCons (wVar 5) (wCons (wBin oIx (wVar 2) (wC (.int 2))) wNil))))
  (wSeq (wIf (wTest (wBin oGt (wVar 8) (wC (.int 0)))) (wRet (wTup (wCons (wCB oTuple (wCons (wSl (wVar 5) wNoP (wP (wBin oSub (wCB oLen (wCons (wVar 5) wNil)) (wVar 8)))) wNil)) (wCons (wC (.str "stop")) wNil)))) wNext)
  (wSeq (wIf (wTest (wBin oEq (wCB oLen (wCons (wVar 5) wNil)) (wBin oIx (wVar 2) (wC (.int 1))))) (wRet (wTup (wCons (wCB oTuple (wCons (wVar 5) wNil)) (wCons (wC (.str "most")) wNil)))) wNext)
  (wDrop (wMt oAppend (wVar 4) (wCons (wCall (sp__law_row c) (wCons (wVar 0) (wCons (wVar 4) (wCons (wVar 7) wNil)))) wNil)))))))))))
  (wRet (wTup (wCons (wCB oTuple (wCons (wVar 5) wNil)) (wCons (wC (.str "")) wNil)))))))
def N__law_made_ : List Str := ["ask", "lists", "rule", "row", "stop"]
/-- _law_made: slots 0 ask, 1 lists, 2 rule, 3 row, 4 stop, -/
def w__law_made (c : Cl) : WPs := (wSeq (wSet 2 (wC .non))
  (wSeq (wIf (wTest (wBin oNotN (wBin oIx (wVar 0) (wC (.int 4))) (wC .non))) (wSet 2 (wFrz (wMake c.Rule N_Rule (sp_Rule_init c) (wCons (wBin oIx (wBin oIx (wVar 0) (wC (.int 4))) (wC (.int 0))) (wCons (wBin oIx (wLst (wCons (wBin oIx (wBin oIx (wVar 0) (wC (.int 4))) (wC (.int 1))) (wCons (wLc (wIt (wBin oIx (wBin oIx (wVar 0) (wC (.int 4))) (wC (.int 1)))) (gN 3) wYes (wCB oList (wCons (wVar 3) wNil)) [3]) wNil))) (wCB oInt (wCons (wVar 1) wNil))) wNil))))) wNext)
  (wSeq (wIf (wTest (wVar 1)) (wRet (wFrz (wMakeK c.Ask N_Ask (sp_Ask_init c) 3 3 [0, 1, 2, 3, 4, 5] (wCons (wCB oList (wCons (wBin oIx (wVar 0) (wC (.int 0))) wNil)) (wCons (wBin oIx (wVar 0) (wC (.int 1))) wNil)) (wCons (wLc (wIt (wBin oIx (wVar 0) (wC (.int 2)))) (gN 4) wYes (wCB oList (wCons (wVar 4) wNil)) [4]) (wCons (wCB oList (wCons (wBin oIx (wVar 0) (wC (.int 3))) wNil)) (wCons (wVar 2) wNil)))))) wNext)
  (wRet (wFrz (wMakeK c.Ask N_Ask (sp_Ask_init c) 3 3 [0, 1, 2, 3, 4, 5] (wCons (wBin oIx (wVar 0) (wC (.int 0))) (wCons (wBin oIx (wVar 0) (wC (.int 1))) wNil)) (wCons (wBin oIx (wVar 0) (wC (.int 2))) (wCons (wBin oIx (wVar 0) (wC (.int 3))) (wCons (wVar 2) wNil)))))))))
def N__law_odd_ : List Str := ["numbers", "k", "letters", "odd"]
/-- _law_odd: slots 0 numbers, 1 k, 2 letters, 3 odd, -/
def w__law_odd (c : Cl) : WPs := (wSeq (wSet 3 (wLst (wCons (wVar 2) (wCons (wUn oNeg (wC (.int 1))) (wCons (wBin oAdd (wBin oAdd (wVar 2) (wC (.int 1))) (wBin oIx (wVar 0) (wBin oAdd (wVar 1) (wC (.int 1))))) (wCons (wBin oPow (wC (.int 10)) (wC (.int 20))) (wCons (wC (.bl true)) (wCons (wC (.bl false)) (wCons (wC .non) (wCons (wC (.str "0")) (wCons (wTup (wCons (wC (.int 0)) wNil)) (wCons (wLst (wCons (wC (.int 0)) wNil)) (wCons (wTup (wCons (wC (.int 0)) (wCons (wLst (wCons (wC (.int 1)) wNil)) wNil))) wNil)))))))))))))
  (wSeq (wSet 3 (wBin oAdd (wVar 3) (wLst (wCons (wBin oMul (wBin oPow (wC (.int 10)) (wC (.int 64))) (wBin oPow (wC (.int 10)) (wC (.int 64)))) (wCons (wUn oNeg (wC (.int 2))) (wCons (wBin oSub (wBin oSub (wUn oNeg (wVar 2)) (wC (.int 1))) (wBin oIx (wVar 0) (wBin oAdd (wVar 1) (wC (.int 1))))) (wCons (wBin oSub (wC (.int 0)) (wBin oPow (wC (.int 10)) (wC (.int 30)))) wNil)))))))
  (wRet (wBin oIx (wVar 3) (wBin oMod (wCB oInt (wCons (wBin oIx (wVar 0) (wVar 1)) wNil)) (wC (.int 15)))))))
def N__law_put_ : List Str := ["row", "place", "value"]
/-- _law_put: slots 0 row, 1 place, 2 value, -/
def w__law_put (c : Cl) : WPs := (wRet (wBin oAdd (wBin oAdd (wCB oTuple (wCons (wSl (wVar 0) wNoP (wP (wVar 1))) wNil)) (wTup (wCons (wVar 2) wNil))) (wCB oTuple (wCons (wSl (wVar 0) (wP (wBin oAdd (wVar 1) (wC (.int 1)))) wNoP) wNil))))
def N__law_spoilt_ : List Str := ["numbers", "ask", "begun", "letters", "prompt", "stops", "k", "odd", "seed", "where", "place"]
/-- _law_spoilt: slots 0 numbers, 1 ask, 2 begun, 3 letters, 4 prompt, 5 stops, 6 k, 7 odd, 8 seed, 9 where, 10 place, -/
def w__law_spoilt (c : Cl) : WPs := (wSeq (wSet 4 (wBin oIx (wVar 1) (wC (.int 0))))
  (wSeq (wSet 5 (wBin oIx (wVar 1) (wC (.int 2))))
  (wSeq (wFor (wRg1 (wC (.int 2))) (gN 6) (wSeq (wSet 7 (wCall (sp__law_odd c) (wCons (wVar 0) (wCons (wBin oAdd (wC (.int 180)) (wBin oMul (wC (.int 7)) (wVar 6))) (wCons (wVar 3) wNil)))))
  (wSeq (wSet 8 (wCB oInt (wCons (wBin oIx (wVar 0) (wBin oAdd (wC (.int 182)) (wBin oMul (wC (.int 7)) (wVar 6)))) wNil)))
  (wSeq (wSet 9 (wBin oMod (wCB oInt (wCons (wVar 8) wNil)) (wC (.int 4))))
  (wSeq (wIf (wTest (wBin oEq (wVar 9) (wC (.int 0)))) (wSet 4 (wCall (sp__law_put c) (wCons (wVar 4) (wCons (wBin oMod (wCB oInt (wCons (wBin oIx (wVar 0) (wBin oAdd (wC (.int 183)) (wBin oMul (wC (.int 7)) (wVar 6)))) wNil)) (wCB oLen (wCons (wVar 4) wNil))) (wCons (wVar 7) wNil))))) wNext)
  (wSeq (wIf (wAnd (wTest (wBin oEq (wVar 9) (wC (.int 1)))) (wTest (wBin oGt (wCB oLen (wCons (wVar 2) wNil)) (wC (.int 0))))) (wSet 2 (wCall (sp__law_put c) (wCons (wVar 2) (wCons (wBin oMod (wCB oInt (wCons (wBin oIx (wVar 0) (wBin oAdd (wC (.int 183)) (wBin oMul (wC (.int 7)) (wVar 6)))) wNil)) (wCB oLen (wCons (wVar 2) wNil))) (wCons (wVar 7) wNil))))) wNext)
  (wIf (wAnd (wTest (wBin oGt (wVar 9) (wC (.int 1)))) (wTest (wBin oGt (wCB oLen (wCons (wVar 5) wNil)) (wC (.int 0))))) (wSeq (wSet 10 (wBin oMod (wCB oInt (wCons (wBin oIx (wVar 0) (wBin oAdd (wC (.int 183)) (wBin oMul (wC (.int 7)) (wVar 6)))) wNil)) (wCB oLen (wCons (wVar 5) wNil))))
  (wSet 5 (wCall (sp__law_put c) (wCons (wVar 5) (wCons (wVar 10) (wCons (wCall (sp__law_put c) (wCons (wBin oIx (wVar 5) (wVar 10)) (wCons (wBin oMod (wCB oInt (wCons (wBin oDiv (wVar 8) (wC (.int 4))) wNil)) (wCB oLen (wCons (wBin oIx (wVar 5) (wVar 10)) wNil))) (wCons (wVar 7) wNil)))) wNil)))))) wNext)))))))
  (wRet (wTup (wCons (wTup (wCons (wVar 4) (wCons (wBin oIx (wVar 1) (wC (.int 1))) (wCons (wVar 5) (wCons (wBin oIx (wVar 1) (wC (.int 3))) (wCons (wBin oIx (wVar 1) (wC (.int 4))) wNil)))))) (wCons (wVar 2) wNil)))))))
def N__law_first_bad_ : List Str := ["ask", "begun", "letters", "bad", "row", "letter"]
/-- _law_first_bad: slots 0 ask, 1 begun, 2 letters, 3 bad, 4 row, 5 letter, -/
def w__law_first_bad (c : Cl) : WPs := (wSeq (wSet 3 (wLstM wNil))
  (wSeq (wFor (wIt (wBin oAdd (wBin oAdd (wTup (wCons (wBin oIx (wVar 0) (wC (.int 0))) wNil)) (wCB oTuple (wCons (wBin oIx (wVar 0) (wC (.int 2))) wNil))) (wTup (wCons (wVar 1) wNil)))) (gN 4) (wFor (wIt (wVar 4)) (gN 5) (wIf (wOr (wNot (wTest (wIsi "int" (wVar 5)))) (wOr (wTest (wIsi "bool" (wVar 5))) (wNot (wTest (wChain oLe oLt (wC (.int 0)) (wVar 5) (wVar 2)))))) (wDrop (wMt oAppend (wVar 3) (wCons (wVar 5) wNil))) wNext)))
  (wRet (wSl (wVar 3) wNoP (wP (wC (.int 1)))))))
def N__law_refuses_ : List Str := ["net", "ask", "begun", "odd", "kinds", "e"]
/-- _law_refuses: slots 0 net, 1 ask, 2 begun, 3 odd, 4 kinds, 5 e, -/
def w__law_refuses (c : Cl) : WPs := (wSeq (wSet 4 (wLstM wNil))
  (wSeq (wTry c.K c.ServeError 5 (wDrop (wCallK (sp_written c) 2 1 [0, 1, 2] (wCons (wVar 0) (wCons (wVar 1) wNil)) (wCons (wVar 2) wNil))) (fun a dd C => (wSeq (wIf (wTest (wIsE c.K a dd C c.InvalidLetter (wVar 5))) (wDrop (wMt oAppend (wVar 4) (wCons (wCB oRepr (wCons (wExF c.K a dd C "letter" (wVar 5)) wNil)) wNil))) wNext)
  (wSeq (wIf (wTest (wIsET c.K a dd C [c.InvalidNumber, c.NoHouse, c.NoRequest, c.NoRoom, c.NotAlone, c.NotHeld, c.TooLarge] (wVar 5))) (wDrop (wMt oAppend (wVar 4) (wCons (wC (.str "other")) wNil))) wNext)
  (wIf (wNot (wTest (wIsEB c.K a dd C "ValueError" (wVar 5)))) (wDrop (wMt oAppend (wVar 4) (wCons (wC (.str "other")) wNil))) wNext)))))
  (wRet (wBin oEq (wVar 4) (wLst (wCons (wCB oRepr (wCons (wVar 3) wNil)) wNil))))))
def N__law_is_kept_ : List Str := ["asked", "ask"]
/-- _law_is_kept: slots 0 asked, 1 ask, -/
def w__law_is_kept (c : Cl) : WPs := (wSeq (wIf (wNot (wTest (wCall (sp__law_same c) (wCons (wTup (wCons (wFld c.Ask N_Ask 0 (wVar 0)) (wCons (wFld c.Ask N_Ask 1 (wVar 0)) (wCons (wFld c.Ask N_Ask 2 (wVar 0)) (wCons (wFld c.Ask N_Ask 3 (wVar 0)) wNil))))) (wCons (wSl (wVar 1) wNoP (wP (wC (.int 4)))) wNil))))) (wRet (wC (.bl false))) wNext)
  (wSeq (wIf (wTest (wBin oIsN (wBin oIx (wVar 1) (wC (.int 4))) (wC .non))) (wRet (wBin oIsN (wFld c.Ask N_Ask 4 (wVar 0)) (wC .non))) wNext)
  (wRet (wCall (sp__law_same c) (wCons (wTup (wCons (wFld c.Rule N_Rule 0 (wFld c.Ask N_Ask 4 (wVar 0))) (wCons (wFld c.Rule N_Rule 1 (wFld c.Ask N_Ask 4 (wVar 0))) wNil))) (wCons (wBin oIx (wVar 1) (wC (.int 4))) wNil))))))
def N_law_ : List Str := ["script", "at", "numbers", "primes", "prime", "letters", "width", "many", "net", "end", "told", "ask", "whole", "lists", "asked", "other", "begun", "handed", "spoilt", "bad", "k"]
/-- law: slots 0 script, 1 at, 2 numbers, 3 primes, 4 prime, 5 letters, 6 width, 7 many, 8 net, 9 end, 10 told, 11 ask, 12 whole, 13 lists, 14 asked, 15 other, 16 begun, 17 handed, 18 spoilt, 19 bad, 20 k, -/
def w_law (c : Cl) : WPs := (wSeq (wFor (wRg1 (wCB oMin2 (wCons (wCB oLen (wCons (wVar 0) wNil)) (wCons (wC (.int 3)) wNil)))) (gN 1) (wSeq (wSet 2 (wCall (sp__law_numbers c) (wCons (wBin oIx (wVar 0) (wVar 1)) (wCons (wVar 1) (wCons (wC (.int 490)) wNil)))))
  (wSeq (wSet 3 (wLst (wCons (wC (.int 2)) (wCons (wC (.int 3)) (wCons (wC (.int 5)) (wCons (wC (.int 7)) (wCons (wC (.int 11)) (wCons (wC (.int 13)) (wCons (wC (.int 17)) (wCons (wC (.int 19)) (wCons (wC (.int 23)) (wCons (wC (.int 29)) (wCons (wC (.int 31)) (wCons (wC (.int 37)) (wCons (wC (.int 41)) (wCons (wC (.int 43)) (wCons (wC (.int 47)) (wCons (wC (.int 53)) (wCons (wC (.int 59)) (wCons (wC (.int 61)) (wCons (wC (.int 67)) (wCons (wC (.int 71)) (wCons (wC (.int 73)) (wCons (wC (.int 79)) (wCons (wC (.int 83)) (wCons (wC (.int 89)) (wCons (wC (.int 97)) wNil)))))))))))))))))))))))))))
  (wSeq (wSet 4 (wBin oIx (wBin oAdd (wVar 3) (wLst (wCons (wC (.int 2)) (wCons (wC (.int 3)) (wCons (wC (.int 5)) (wCons (wC (.int 97)) (wCons (wC (.int 2)) wNil))))))) (wBin oMod (wCB oInt (wCons (wBin oIx (wVar 2) (wC (.int 0))) wNil)) (wC (.int 30)))))
  (wSeq (wSet 5 (wBin oIx (wLst (wCons (wC (.int 1)) (wCons (wC (.int 2)) (wCons (wC (.int 3)) (wCons (wC (.int 4)) (wCons (wC (.int 2)) (wCons (wC (.int 3)) (wCons (wC (.int 5)) (wCons (wBin oAdd (wC (.int 1)) (wBin oMod (wCB oInt (wCons (wBin oIx (wVar 2) (wC (.int 1))) wNil)) (wC (.int 12)))) wNil))))))))) (wBin oMod (wCB oInt (wCons (wBin oDiv (wBin oIx (wVar 2) (wC (.int 1))) (wC (.int 100))) wNil)) (wC (.int 8)))))
  (wSeq (wSet 6 (wBin oAdd (wC (.int 1)) (wBin oMod (wCB oInt (wCons (wBin oIx (wVar 2) (wC (.int 2))) wNil)) (wC (.int 4)))))
  (wSeq (wSet 7 (wBin oIx (wLst (wCons (wC (.int 0)) (wCons (wC (.int 1)) (wCons (wC (.int 1)) (wCons (wC (.int 2)) (wCons (wC (.int 1)) (wCons (wC (.int 3)) wNil))))))) (wBin oMod (wCB oInt (wCons (wBin oIx (wVar 2) (wC (.int 3))) wNil)) (wC (.int 6)))))
  (wSeq (wSet 8 (wCall (sp__law_net c) (wCons (wSl (wVar 2) (wP (wC (.int 330))) wNoP) (wCons (wVar 5) (wCons (wVar 6) (wCons (wVar 7) (wCons (wVar 4) wNil)))))))
  (wSeq (wSet 9 (wBin oIx (wLst (wCons (wC .non) (wCons (wBin oMod (wCB oInt (wCons (wBin oIx (wVar 2) (wC (.int 191))) wNil)) (wVar 5)) wNil))) (wBin oMod (wCB oInt (wCons (wBin oIx (wVar 2) (wC (.int 192))) wNil)) (wC (.int 2)))))
  (wSeq (wSet 10 (wFrz (wMake c.Net N_Net (sp_Net_init c) (wCons (wVar 4) (wCons (wBin oIx (wVar 8) (wC (.int 1))) (wCons (wBin oIx (wVar 8) (wC (.int 2))) (wCons (wBin oIx (wVar 8) (wC (.int 3))) (wCons (wBin oIx (wVar 8) (wC (.int 4))) (wCons (wVar 9) wNil)))))))))
  (wSeq (wSet 11 (wCall (sp__law_ask c) (wCons (wVar 2) (wCons (wVar 5) wNil))))
  (wSeq (wSet 12 (wCall (sp__law_written c) (wCons (wVar 8) (wCons (wVar 9) (wCons (wVar 11) (wCons (wTup wNil) wNil))))))
  (wSeq (wSet 13 (wBin oEq (wBin oMod (wCB oInt (wCons (wBin oIx (wVar 2) (wC (.int 196))) wNil)) (wC (.int 2))) (wC (.int 0))))
  (wSeq (wSet 14 (wCall (sp__law_made c) (wCons (wVar 11) (wCons (wVar 13) wNil))))
  (wSeq (wIf (wOr (wNot (wTest (wCall (sp__law_same c) (wCons (wCallD (sp_written c) [.tup []] (wCons (wVar 10) (wCons (wVar 14) wNil))) (wCons (wVar 12) wNil))))) (wNot (wTest (wCall (sp__law_is_kept c) (wCons (wVar 14) (wCons (wVar 11) wNil)))))) (wRet (wC (.bl false))) wNext)
  (wSeq (wSet 15 (wTup (wCons (wBin oIx (wVar 11) (wC (.int 0))) (wCons (wBin oAdd (wC (.int 1)) (wBin oMod (wCB oInt (wCons (wBin oIx (wVar 2) (wC (.int 198))) wNil)) (wC (.int 30)))) (wCons (wBin oIx (wVar 11) (wC (.int 2))) (wCons (wBin oIx (wVar 11) (wC (.int 3))) (wCons (wBin oIx (wVar 11) (wC (.int 4))) wNil)))))))
  (wSeq (wIf (wTest (wBin oEq (wBin oMod (wCB oInt (wCons (wBin oIx (wVar 2) (wC (.int 199))) wNil)) (wC (.int 3))) (wC (.int 0)))) (wSeq (wIf (wNot (wTest (wCall (sp__law_same c) (wCons (wCallD (sp_written c) [.tup []] (wCons (wVar 10) (wCons (wCall (sp__law_made c) (wCons (wVar 15) (wCons (wVar 13) wNil))) wNil))) (wCons (wCall (sp__law_written c) (wCons (wVar 8) (wCons (wVar 9) (wCons (wVar 15) (wCons (wTup wNil) wNil))))) wNil))))) (wRet (wC (.bl false))) wNext)
  (wIf (wNot (wTest (wCall (sp__law_same c) (wCons (wCallD (sp_written c) [.tup []] (wCons (wVar 10) (wCons (wVar 14) wNil))) (wCons (wVar 12) wNil))))) (wRet (wC (.bl false))) wNext)) wNext)
  (wSeq (wSet 16 (wTup wNil))
  (wSeq (wIf (wTest (wBin oEq (wBin oMod (wCB oInt (wCons (wBin oIx (wVar 2) (wC (.int 193))) wNil)) (wC (.int 3))) (wC (.int 0)))) (wSet 16 (wCB oTuple (wCons (wLc (wRg1 (wBin oMod (wCB oInt (wCons (wBin oIx (wVar 2) (wC (.int 194))) wNil)) (wCB oMin2 (wCons (wC (.int 30)) (wCons (wBin oIx (wVar 11) (wC (.int 1))) wNil))))) (gN 20) wYes (wBin oMod (wCB oInt (wCons (wBin oIx (wVar 2) (wBin oAdd (wC (.int 60)) (wVar 20))) wNil)) (wVar 5)) [20]) wNil))) wNext)
  (wSeq (wIf (wTest (wBin oEq (wBin oMod (wCB oInt (wCons (wBin oIx (wVar 2) (wC (.int 193))) wNil)) (wC (.int 3))) (wC (.int 1)))) (wSeq (wSet 16 (wSl (wBin oIx (wVar 12) (wC (.int 0))) wNoP (wP (wBin oMod (wCB oInt (wCons (wBin oIx (wVar 2) (wC (.int 194))) wNil)) (wBin oAdd (wCB oLen (wCons (wBin oIx (wVar 12) (wC (.int 0))) wNil)) (wC (.int 1)))))))
  (wSet 16 (wSl (wVar 16) wNoP (wP (wBin oSub (wBin oIx (wVar 11) (wC (.int 1))) (wC (.int 1))))))) wNext)
  (wSeq (wSet 17 (wVar 16))
  (wSeq (wIf (wTest (wBin oEq (wBin oMod (wCB oInt (wCons (wBin oIx (wVar 2) (wC (.int 195))) wNil)) (wC (.int 2))) (wC (.int 0)))) (wSet 17 (wCB oList (wCons (wVar 16) wNil))) wNext)
  (wSeq (wIf (wNot (wTest (wCall (sp__law_same c) (wCons (wCallK (sp_written c) 2 1 [0, 1, 2] (wCons (wVar 10) (wCons (wCall (sp__law_made c) (wCons (wVar 11) (wCons (wNotV (wVar 13)) wNil))) wNil)) (wCons (wVar 17) wNil)) (wCons (wCall (sp__law_written c) (wCons (wVar 8) (wCons (wVar 9) (wCons (wVar 11) (wCons (wVar 16) wNil))))) wNil))))) (wRet (wC (.bl false))) wNext)
  (wSeq (wIf (wTest (wBin oNe (wCB oList (wCons (wVar 17) wNil)) (wCB oList (wCons (wVar 16) wNil)))) (wRet (wC (.bl false))) wNext)
  (wSeq (wSet 18 (wCall (sp__law_spoilt c) (wCons (wVar 2) (wCons (wVar 11) (wCons (wVar 16) (wCons (wVar 5) wNil))))))
  (wSeq (wSet 19 (wCall (sp__law_first_bad c) (wCons (wBin oIx (wVar 18) (wC (.int 0))) (wCons (wBin oIx (wVar 18) (wC (.int 1))) (wCons (wVar 5) wNil)))))
  (wIf (wTest (wBin oGt (wCB oLen (wCons (wVar 19) wNil)) (wC (.int 0)))) (wSeq (wSet 17 (wBin oIx (wLst (wCons (wBin oIx (wVar 18) (wC (.int 1))) (wCons (wCB oList (wCons (wBin oIx (wVar 18) (wC (.int 1))) wNil)) wNil))) (wBin oMod (wCB oInt (wCons (wBin oIx (wVar 2) (wC (.int 197))) wNil)) (wC (.int 2)))))
  (wSeq (wIf (wNot (wTest (wCall (sp__law_refuses c) (wCons (wVar 10) (wCons (wCall (sp__law_made c) (wCons (wBin oIx (wVar 18) (wC (.int 0))) (wCons (wVar 13) wNil))) (wCons (wVar 17) (wCons (wBin oIx (wVar 19) (wC (.int 0))) wNil))))))) (wRet (wC (.bl false))) wNext)
  (wIf (wOr (wNot (wTest (wCall (sp__law_same c) (wCons (wCallD (sp_written c) [.tup []] (wCons (wVar 10) (wCons (wVar 14) wNil))) (wCons (wVar 12) wNil))))) (wNot (wTest (wCall (sp__law_is_kept c) (wCons (wVar 14) (wCons (wVar 11) wNil)))))) (wRet (wC (.bl false))) wNext))) wNext)))))))))))))))))))))))))))
  (wRet (wC (.bl true))))
end K07
set_option Elab.async false
set_option linter.all false
set_option maxRecDepth 100000
set_option maxHeartbeats 1000000
namespace K07
open PySem PySem.Spec PyProof.Rows L2 DL
theorem seq_k {w u : WPs} {env : DE} {S : Sto} {q : QS} (h : ∀ q1 : QS, (∀ e s, u e s q → q1.nx e s) → q1.rt = q.rt → q1.bk = q.bk → q1.ct = q.ct → q1.xc = q.xc → w env S q1) : wSeq w u env S q :=
  h { q with nx := fun e s => u e s q } (fun _ _ z => z) rfl rfl rfl rfl
theorem kt2 : kitB "bool" "int" = some true := by decide +kernel
theorem kt3 : kitB "int" "int" = some true := by decide +kernel
theorem kt7 : kitB "bool" "bool" = some true := by decide +kernel
theorem kt8 : kitB "int" "bool" = some false := by decide +kernel
theorem oIx_eq {S : Sto} {x d : D} {i : Int} {xs : List D} (h : seqA S x = some xs) (h2 : atI xs i = some d) (Q : Qd) : oIx S x (.int i) Q = Q d S := by
  show some! (seqA S x) _ = _
  rw [h]
  show some! (atI xs i) _ = _
  rw [h2]
  rfl
theorem at_k {α : Type} {xs : List α} {k : Nat} {x : α} (h : xs[k]? = some x) : atI xs (k : Int) = some x := by
  have hl := lt_of_some h
  unfold atI ixN
  rw [if_pos (by omega), if_pos (by omega)]
  show xs[(k : Int).toNat]? = _
  rw [Int.toNat_natCast]; exact h
theorem at_z {α : Type} {xs : List α} {k : Int} {x : α} (h0 : 0 ≤ k) (h : xs[k.toNat]? = some x) : atI xs k = some x := by
  have := at_k h
  rw [Int.toNat_of_nonneg h0] at this; exact this
theorem seqA_at {S : Sto} {p : Addr} {xs : List D} (h : S p = some (.lst xs)) : seqA S (.ref p) = some xs := by
  show (match S p with | some (MO.lst xs) => some xs | _ => none) = _
  rw [h]
theorem seqL_at {S : Sto} {p : Addr} {xs : List D} (h : S p = some (.lst xs)) : seqL S (.ref p) = some xs := seqA_at h
theorem ext_refl (S : Sto) : Ext S S := fun _ _ z => z
theorem ext_put {S S' : Sto} {p : Addr} {m : MO} (e : Ext S S') (h : S' p = none) : Ext S (put S' p m) := fun a n z => by
  have := e a n z
  rw [put_ne (fun y => by rw [y, h] at this; cases this)]; exact this
theorem ext_none {S S' : Sto} {p : Addr} (e : Ext S S') (h : S' p = none) : S p = none := by
  cases z : S p with
  | none => rfl
  | some m => rw [e p m z] at h; cases h
theorem ext_chg {S S' : Sto} {p : Addr} {m : MO} (e : Ext S S') (h : S p = none) : Ext S (put S' p m) := fun a n z => by
  rw [put_ne (fun y => by rw [y, h] at z; cases z)]; exact e a n z
theorem ext_del {S S' : Sto} {p : Addr} (e : Ext S S') (h : S p = none) : Ext S (del S' p) := fun a n z => by
  show (if a = p then none else S' a) = _
  rw [if_neg (fun y => by rw [y, h] at z; cases z)]; exact e a n z
theorem ext_trans {S S' S'' : Sto} (e : Ext S S') (e2 : Ext S' S'') : Ext S S'' := fun a n z => e2 a n (e a n z)
theorem oLen_of {S : Sto} {d : D} {xs : List D} {Q : Qd} (h : seqA S d = some xs) (q : Q (.int (xs.length : Nat)) S) : oLen S [d] Q := by
  have key : some! (seqA S d) fun xs => Q (.int (xs.length : Nat)) S := by rw [h]; exact q
  cases d with
  | str x => cases h
  | _ => exact key
theorem mulw {i j : Int} (hi : 0 ≤ i ∧ i < 10000000000000000000) (hj : 0 ≤ j ∧ j < 10000000000000000000) : CMulW i j := by
  have key : ∀ i : Int, 0 ≤ i ∧ i < 10000000000000000000 → i.natAbs.log2 < 100 := fun i hi => by
    by_cases z : i.natAbs = 0
    · rw [z]; decide
    · have := (Nat.log2_lt (k := 64) z).mpr (by omega); omega
  have := key i hi
  have := key j hj
  unfold CMulW
  omega
theorem divw {i j : Int} (h : 0 < j ∧ j ≤ 1000000000) : CDivW i j := by
  refine ⟨h.1, ?_⟩
  by_cases z : j.natAbs = 0
  · omega
  · have : j.natAbs.log2 < 61 := by rw [Nat.log2_lt z]; omega
    omega
theorem z1 : 1 ≤ sizeLine := by decide
theorem z2 : 2 ≤ sizeLine := by decide
theorem fm_map {α β : Type} {f : α → Option β} {g : α → β} : ∀ (l : List α), (∀ x, x ∈ l → f x = some (g x)) → l.filterMap f = l.map g
  | [], _ => rfl
  | x :: r, h => by rw [List.filterMap_cons, h x List.mem_cons_self, List.map_cons, fm_map r fun y hy => h y (List.mem_cons_of_mem _ hy)]
theorem compI_filt {α : Type} {t : WPg} {tt : WPt} {te : WPe} {g : Sto → Prop} {env : DE} {S : Sto} {Q : List D → Sto → Prop} (xs : List α) (f v : α → D) (p : α → Bool) (hg : g S)
    (h : ∀ a, a ∈ xs → ∀ R : Option D → Sto → Prop, R (if p a = true then some (v a) else none) S → t (f a) env fun e => tt e S (fun b S1 => if b = true then te e S1 (fun y S2 => R (some y) S2) X0 else R none S1) X0)
    (hq : Q ((xs.filter p).map v) S) : compI t tt te g env (xs.map f) S Q := by
  refine compI_inv (fun i acc S' => S' = S ∧ acc = ((xs.take i).filter p).map v) ⟨rfl, by simp⟩ (fun i acc S' hh => by rw [hh.1]; exact hg) ?_ ?_
  · rintro i d acc S' hi ⟨rfl, rfl⟩
    rw [List.getElem?_map] at hi
    obtain ⟨a, ha, rfl⟩ := Option.map_eq_some_iff.mp hi
    have et : xs.take (i + 1) = xs.take i ++ [a] := by rw [List.take_add_one, ha]; rfl
    refine h a (List.mem_of_getElem? ha) (fun o S2 => match o with | some y => S2 = S' ∧ ((xs.take i).filter p).map v ++ [y] = ((xs.take (i + 1)).filter p).map v | none => S2 = S' ∧ ((xs.take i).filter p).map v = ((xs.take (i + 1)).filter p).map v) ?_
    rw [et, List.filter_append, List.map_append]
    by_cases z : p a = true
    · rw [if_pos z]
      exact ⟨rfl, by rw [List.filter_cons_of_pos z]; rfl⟩
    · rw [if_neg z]
      exact ⟨rfl, by rw [List.filter_cons_of_neg z]; simp⟩
  · rintro acc S' ⟨rfl, rfl⟩
    rw [List.length_map, List.take_length]
    exact hq
theorem compI_vals {α : Type} {t : WPg} {te : WPe} {g : Sto → Prop} {env : DE} {S : Sto} {Q : List D → Sto → Prop} (xs : List α) (f v : α → D) (hg : g S)
    (h : ∀ a, a ∈ xs → ∀ R : D → Sto → Prop, R (v a) S → t (f a) env fun e => te e S R X0)
    (hq : Q (xs.map v) S) : compI t wYes te g env (xs.map f) S Q := by
  refine compI_filt xs f v (fun _ => true) hg (fun a ha R hR => ?_) (by rw [List.filter_eq_self.mpr fun _ _ => rfl]; exact hq)
  have := h a ha (fun y S2 => R (some y) S2) hR
  simpa [wYes] using this
theorem rng_eq {n : Nat} : rngD 0 n = (List.range n).map fun (i : Nat) => D.int (i : Int) := by
  unfold rngD
  exact List.map_congr_left fun i _ => by rw [Int.zero_add]
theorem prime_pos {w L : Nat} {n : NetV} (h : NetOk w L n) : 0 < n.prime ∧ 2 ≤ n.prime ∧ n.prime ≤ 97 := by
  have := h.pr
  simp only [thePrimes, List.mem_cons, List.not_mem_nil, or_false] at this
  omega
theorem kt1 : kitB "NoneType" "int" = some false := by decide +kernel
theorem kt4 : kitB "str" "int" = some false := by decide +kernel
theorem kt5 : kitB "tuple" "int" = some false := by decide +kernel
theorem kt6 : kitB "list" "int" = some false := by decide +kernel
/-- a value of a known class -/
theorem kn_cases {S : Sto} {d : D} (h : Kn S d) : d = .non ∨ (∃ b, d = .bl b) ∨ (∃ i, d = .int i) ∨ (∃ x, d = .str x) ∨ (∃ xs, d = .tup xs) ∨ (tyN S d = some "list" ∧ ∃ xs, seqL S d = some xs ∧ seqA S d = some xs) := by
  obtain ⟨n, h⟩ := h
  have key : (seqL S d).map (fun _ => "list") = some n → seqA S d = seqL S d → tyN S d = (seqL S d).map (fun _ => "list") → (tyN S d = some "list" ∧ ∃ xs, seqL S d = some xs ∧ seqA S d = some xs) := fun h1 h2 h3 => by
    cases e : seqL S d with
    | none => rw [e] at h1; cases h1
    | some xs => exact ⟨by rw [h3, e]; rfl, xs, rfl, by rw [h2, e]⟩
  cases d with
  | non => exact .inl rfl
  | bl b => exact .inr (.inl ⟨b, rfl⟩)
  | int i => exact .inr (.inr (.inl ⟨i, rfl⟩))
  | str x => exact .inr (.inr (.inr (.inl ⟨x, rfl⟩)))
  | tup xs => exact .inr (.inr (.inr (.inr (.inl ⟨xs, rfl⟩))))
  | lst xs => exact .inr (.inr (.inr (.inr (.inr (key h rfl rfl)))))
  | ref a => exact .inr (.inr (.inr (.inr (.inr (key h rfl rfl)))))
  | fro xs => exact .inr (.inr (.inr (.inr (.inr (key h rfl rfl)))))
  | obj C N xs => exact .inr (.inr (.inr (.inr (.inr (key h rfl rfl)))))
  | exc a dd C f x => exact .inr (.inr (.inr (.inr (.inr (key h rfl rfl)))))
theorem list_not_in {S : Sto} {d : D} {l m : Int} (h : tyN S d = some "list") : inR l m d = false := by
  cases d with
  | int i => exact absurd (Option.some.inj (show some "int" = some "list" from h)) (by decide)
  | _ => rfl
theorem kn_int {S : Sto} (i : Int) : Kn S (.int i) := ⟨_, rfl⟩
theorem isLet_int {L : Nat} {i : Int} (h : 0 ≤ i ∧ i < (L : Int)) : isLet L (.int i) = true := decide_eq_true (by omega)
/-- plain letters: none is bad -/
theorem no_bad {L : Nat} {xs : List D} (h : ∀ d, d ∈ xs → isLet L d = true) : firstBad L xs = none := by
  unfold firstBad
  rw [List.find?_eq_none]
  intro d hd
  rw [h d hd]
  decide
theorem lets_let {L : Nat} {v : Vec} (h : LetsOk L v) : ∀ d, d ∈ v.map D.int → isLet L d = true := fun d hd => by
  obtain ⟨i, hi, rfl⟩ := List.mem_map.mp hd
  exact isLet_int (h i hi)
/-! ### asks of plain letters -/
theorem stops_toG (st : List Vec) : (st.map fun s => s.map D.int).map D.tup = st.map dT := by rw [List.map_map]; rfl
theorem gF_toG (c : Cl) (a : AskV) : gF c (toG a) = askF c a := by
  show [_, _, D.tup ((a.stops.map fun s => s.map D.int).map D.tup), _, _] = _
  rw [stops_toG]; rfl
theorem dG_toG (c : Cl) (a : AskV) : dG c (toG a) = dAsk c a := by unfold dG dAsk; rw [gF_toG]
theorem dGT_toG (a : AskV) : dGT (toG a) = dAskT a := by
  show D.tup [_, _, D.tup ((a.stops.map fun s => s.map D.int).map D.tup), _, _] = _
  rw [stops_toG]; rfl
theorem all_toG {L : Nat} {a : AskV} {bg : Vec} (ha : AskOk L a) (hb : LetsOk L bg) : firstBad L (allG (toG a) (bg.map D.int)) = none := no_bad fun d hd => by
  rcases List.mem_append.mp hd with z | z
  · rcases List.mem_append.mp z with y | y
    · exact lets_let ha.pr.1 d y
    · obtain ⟨s, hs, hd⟩ := List.mem_flatten.mp y
      obtain ⟨v, hv, rfl⟩ := List.mem_map.mp hs
      exact lets_let (ha.st.2 v hv).1 d hd
  · exact lets_let hb d z
end K07
set_option Elab.async false
set_option linter.all false
set_option maxRecDepth 100000
set_option maxHeartbeats 1000000
namespace K07
open PySem PySem.Spec PyProof.Rows L2 DL
theorem len_vector_of (c : Cl) : ∀ ds S Q E, sp_vector_of c ds S Q E → ds.length = 1 := by
  rintro ds S Q E ⟨_, rfl, _⟩; rfl
theorem rd_vector_of (c : Cl) : ∀ ds S Q X1, sp_vector_of c ds S Q X1 → w_vector_of c (startD N_vector_of_ ds) S (endQ Q X1) := by
  rintro ds S Q X1 ⟨v, rfl, h⟩
  show w_vector_of c [some (dT v)] S (endQ Q X1)
  unfold w_vector_of
  simp only [wRet, wCB, wCons, wNil, wVar, getV, some!, oTuple, one, dT, seqA]
  exact h
theorem len_matrix_of (c : Cl) : ∀ ds S Q E, sp_matrix_of c ds S Q E → ds.length = 1 := by
  rintro ds S Q E ⟨_, rfl, _⟩; rfl
theorem rd_matrix_of (c : Cl) : ∀ ds S Q X1, sp_matrix_of c ds S Q X1 → w_matrix_of c (startD N_matrix_of_ ds) S (endQ Q X1) := by
  rintro ds S Q X1 ⟨m, rfl, hl, h⟩
  show w_matrix_of c [some (dM m), none] S (endQ Q X1)
  unfold w_matrix_of
  simp only [wRet, wCB, wCons, wNil, wLc, wIt, wVar, getV, some!, dM, seqA, delVs, delV, List.length_map]
  refine ⟨by unfold sizeLine; omega, compI_vals m dT dT trivial (fun v hv R hR => ?_) ?_⟩
  · simp only [gN, setV, wCall, wCons, wNil, wVar, getV, some!]
    exact ⟨v, rfl, hR⟩
  · simp only [oTuple, one, seqA, seqL, seqM, some!]
    exact h
theorem len_product_sum (c : Cl) : ∀ ds S Q E, sp_product_sum c ds S Q E → ds.length = 2 := by
  rintro ds S Q E ⟨_, _, _, _, rfl, _⟩; rfl
theorem zipD_ints {a b : Vec} : zipD (a.map D.int) (b.map D.int) = (a.zip b).map fun p => D.tup [.int p.1, .int p.2] := by
  unfold zipD
  rw [List.zip_map, List.map_map]
  rfl
theorem psum_zip (a b : Vec) : psum a b = ((a.zip b).map fun p => p.1 * p.2).sum := by
  unfold psum
  rw [List.zip, List.map_zipWith]
theorem zip_mem {a b : Vec} {p : Int × Int} (h : p ∈ a.zip b) : p.1 ∈ a ∧ p.2 ∈ b := ⟨(List.of_mem_zip h).1, (List.of_mem_zip h).2⟩
theorem seqA_dR2 {S : Sto} {k : Bool} {xs : List Int} : seqA S (dR k xs) = some (xs.map D.int) := seqA_dR
theorem rd_product_sum (c : Cl) : ∀ ds S Q X1, sp_product_sum c ds S Q X1 → w_product_sum c (startD N_product_sum_ ds) S (endQ Q X1) := by
  rintro ds S Q X1 ⟨i, j, a, b, rfl, ha, hb, h⟩
  show w_product_sum c [some (dR i a), some (dR j b), none, none, none] S (endQ Q X1)
  unfold w_product_sum
  refine seq_k fun q1 n1 r1 _ _ x1 => ?_
  simp only [wSet, wC, setV]
  refine n1 _ _ ?_
  refine seq_k fun q1 n1 r1 _ _ x1 => ?_
  simp only [wFor, wZip, wVar, getV, some!, seqA_dR]
  refine forI_invq (fun k e S' => S' = S ∧ ∃ x3 x4, e = [some (dR i a), some (dR j b), some (.int (((a.zip b).take k).map fun p => p.1 * p.2).sum), x3, x4]) ⟨rfl, _, _, rfl⟩ (fun k e S' h => ⟨trivial, trivial⟩) ?_ ?_
  · rintro k d e S' hi ⟨rfl, x3, x4, rfl⟩ q hq _ _ _ _
    rw [zipD_ints, List.getElem?_map] at hi
    obtain ⟨p, hp, rfl⟩ := Option.map_eq_some_iff.mp hi
    have hm := zip_mem (List.mem_of_getElem? hp)
    have h1 := ha _ hm.1
    have h2 := hb _ hm.2
    simp only [gT, gAll, gN, setV]
    refine ⟨rfl, ?_⟩
    simp only [wAug, wBin, wVar, getV, setV, some!, oMul, oI, oI0]
    refine ⟨mulw ⟨h1.1, by omega⟩ ⟨h2.1, by omega⟩, hq _ _ ⟨rfl, some (.int p.1), some (.int p.2), ?_⟩⟩
    rw [List.take_add_one, hp]
    simp
  · rintro e S' ⟨rfl, x3, x4, rfl⟩
    refine n1 _ _ ?_
    rw [zipD_ints, List.length_map, List.take_length, ← psum_zip]
    simp only [wRet, wVar, getV, some!]
    exact h
theorem len_Net_rest (c : Cl) : ∀ ds S Q E, sp_Net_rest c ds S Q E → ds.length = 2 := by
  rintro ds S Q E ⟨_, _, _, rfl, _⟩; rfl
theorem rd_Net_rest (c : Cl) : ∀ ds S Q X1, sp_Net_rest c ds S Q X1 → w_Net_rest c (startD N_Net_rest_ ds) S (endQ Q X1) := by
  rintro ds S Q X1 ⟨n, e, v, rfl, hp, h⟩
  show w_Net_rest c [some (dNet c n e), some (.int v)] S (endQ Q X1)
  unfold w_Net_rest
  simp only [wRet, wBin, wCB, wCons, wNil, wFld, wVar, getV, some!, oInt, one, fldD, dNet, true_and, netF, List.getElem?_cons_zero, oMod, oI]
  exact ⟨hp, h⟩
theorem len_Net_times (c : Cl) : ∀ ds S Q E, sp_Net_times c ds S Q E → ds.length = 3 := by
  rintro ds S Q E ⟨_, _, _, _, _, rfl, _⟩; rfl
theorem isN {c : Cl} {n : NetV} {e : Option Int} {S : Sto} : isIns c.Net N_Net S (dNet c n e) := ⟨rfl, rfl⟩
theorem rd_Net_times (c : Cl) : ∀ ds S Q X1, sp_Net_times c ds S Q X1 → w_Net_times c (startD N_Net_times_ ds) S (endQ Q X1) := by
  rintro ds S Q X1 ⟨n, e, m, j, v, rfl, hp, hm, hr, hv, h⟩
  show w_Net_times c [some (dNet c n e), some (dM m), some (dR j v), none] S (endQ Q X1)
  unfold w_Net_times
  simp only [wRet, wCB, wCons, wNil, wLc, wIt, wVar, getV, some!, dM, seqA, delVs, delV, List.length_map]
  refine ⟨by unfold sizeLine; omega, compI_vals m dT (fun r => .int (psum r v % n.prime)) trivial (fun r hr2 R hR => ?_) ?_⟩
  · simp only [gN, setV, wMeth, wCall, wCons, wNil, wVar, getV, some!]
    exact ⟨isN, true, j, r, v, rfl, hr r hr2, hv, n, e, _, rfl, hp, hR⟩
  · simp only [oTuple, one, seqA, seqL, seqM, some!]
    have e : m.map (fun r => D.int (psum r v % n.prime)) = (timesF n.prime m v).map D.int := by unfold timesF; rw [List.map_map]; rfl
    rw [e]
    exact h
theorem len_Net_plus (c : Cl) : ∀ ds S Q E, sp_Net_plus c ds S Q E → ds.length = 3 := by
  rintro ds S Q E ⟨_, _, _, _, _, _, rfl, _⟩; rfl
theorem plusF_zip (p : Int) (a b : Vec) : plusF p a b = (a.zip b).map fun q => (q.1 + q.2) % p := by
  unfold plusF
  rw [List.zip, List.map_zipWith]
theorem rd_Net_plus (c : Cl) : ∀ ds S Q X1, sp_Net_plus c ds S Q X1 → w_Net_plus c (startD N_Net_plus_ ds) S (endQ Q X1) := by
  rintro ds S Q X1 ⟨n, e, i, j, a, b, rfl, hp, hl, h⟩
  show w_Net_plus c [some (dNet c n e), some (dR i a), some (dR j b), none, none] S (endQ Q X1)
  unfold w_Net_plus
  simp only [wRet, wCB, wCons, wNil, wLc, wZip, wVar, getV, some!, seqA_dR, delVs, delV]
  refine ⟨by rw [zipD_length, List.length_map]; unfold sizeLine; omega, ?_⟩
  rw [zipD_ints]
  refine compI_vals (a.zip b) (fun p => D.tup [.int p.1, .int p.2]) (fun q => .int ((q.1 + q.2) % n.prime)) ⟨trivial, trivial⟩ (fun q hq R hR => ?_) ?_
  · simp only [gT, gAll, gN, setV]
    refine ⟨rfl, ?_⟩
    simp only [wMeth, wBin, wCons, wNil, wVar, getV, some!, oAdd]
    exact ⟨isN, n, e, _, rfl, hp, hR⟩
  · simp only [oTuple, one, seqA, seqL, seqM, some!]
    have e : (a.zip b).map (fun q => D.int ((q.1 + q.2) % n.prime)) = (plusF n.prime a b).map D.int := by rw [plusF_zip, List.map_map]; rfl
    rw [e]
    exact h
theorem len_is_between (c : Cl) : ∀ ds S Q E, sp_is_between c ds S Q E → ds.length = 3 := by
  rintro ds S Q E ⟨_, _, _, rfl, _⟩; rfl
theorem rd_is_between (c : Cl) : ∀ ds S Q X1, sp_is_between c ds S Q X1 → w_is_between c (startD N_is_between_ ds) S (endQ Q X1) := by
  rintro ds S Q X1 ⟨d, l, m, rfl, hk, h⟩
  show w_is_between c [some d, some (.int l), some (.int m)] S (endQ Q X1)
  unfold w_is_between
  simp only [wRet, wAndV, wIsi, wNotV, wVar, getV, some!]
  rcases kn_cases hk with rfl | ⟨b, rfl⟩ | ⟨v, rfl⟩ | ⟨x, rfl⟩ | ⟨xs, rfl⟩ | ⟨e1, xs, e2, e3⟩
  · simp only [tyN, kt1, Bool.false_eq_true, if_false]; exact h
  · simp only [tyN, kt2, kt7, if_true, Bool.not_true, Bool.false_eq_true, if_false]; exact h
  · simp only [tyN, kt3, kt8, if_true, Bool.not_false, wChain, wVar, getV, some!, oLe, oI0, decide_eq_true_eq]
    unfold inR at h
    dsimp only at h
    by_cases z : l ≤ v
    · rw [if_pos z]
      by_cases y : v ≤ m
      · rw [decide_eq_true y]; rw [decide_eq_true (⟨z, y⟩ : l ≤ v ∧ v ≤ m)] at h; exact h
      · rw [decide_eq_false y]; rw [decide_eq_false (fun x : l ≤ v ∧ v ≤ m => y x.2)] at h; exact h
    · rw [if_neg z]; rw [decide_eq_false (fun x : l ≤ v ∧ v ≤ m => z x.1)] at h; exact h
  · simp only [tyN, kt4, Bool.false_eq_true, if_false]; exact h
  · simp only [tyN, kt5, Bool.false_eq_true, if_false]; exact h
  · rw [list_not_in e1] at h
    simp only [e1, kt6, Bool.false_eq_true, if_false]; exact h
theorem len_Net_is_letter (c : Cl) : ∀ ds S Q E, sp_Net_is_letter c ds S Q E → ds.length = 2 := by
  rintro ds S Q E ⟨_, _, _, rfl, _⟩; rfl
theorem rd_Net_is_letter (c : Cl) : ∀ ds S Q X1, sp_Net_is_letter c ds S Q X1 → w_Net_is_letter c (startD N_Net_is_letter_ ds) S (endQ Q X1) := by
  rintro ds S Q X1 ⟨n, e, d, rfl, hk, h⟩
  show w_Net_is_letter c [some (dNet c n e), some d] S (endQ Q X1)
  unfold w_Net_is_letter
  simp only [wRet, wBin, wCall, wCB, wCons, wNil, wC, wFld, wVar, getV, some!, oLen, one, fldD, dNet, true_and, netF, List.getElem?_cons_zero, List.getElem?_cons_succ, dM, seqA, seqL, seqM, List.length_map, oSub, oI0]
  exact ⟨_, _, _, rfl, hk, h⟩
end K07
set_option Elab.async false
set_option linter.all false
set_option maxRecDepth 100000
set_option maxHeartbeats 1000000
namespace K07
open PySem PySem.Spec PyProof.Rows L2 DL
theorem seqA_ext {S S' : Sto} {d : D} {xs : List D} (e : Ext S S') (h : seqA S d = some xs) : seqA S' d = some xs := by
  cases d with
  | ref a =>
    have h' : (match S a with | some (MO.lst xs) => some xs | _ => none) = some xs := h
    show (match S' a with | some (MO.lst xs) => some xs | _ => none) = some xs
    cases q : S a with
    | none => rw [q] at h'; cases h'
    | some m => rw [e a m q]; rw [q] at h'; exact h'
  | _ => exact h
/-! ### bounds, widths -/
theorem psum_bd : ∀ {a b : Vec}, Sm a → Sm b → 0 ≤ psum a b ∧ psum a b ≤ 1000000000000 * (a.length : Int)
  | [], b, _, _ => by unfold psum; simp
  | x :: r, [], _, _ => by unfold psum; simp; omega
  | x :: r, y :: s, ha, hb => by
    have h1 := ha x List.mem_cons_self
    have h2 := hb y List.mem_cons_self
    have ih := psum_bd (a := r) (b := s) (fun z hz => ha z (List.mem_cons_of_mem _ hz)) fun z hz => hb z (List.mem_cons_of_mem _ hz)
    have e : psum (x :: r) (y :: s) = x * y + psum r s := by unfold psum; rw [List.zipWith_cons_cons, List.sum_cons]
    have h3 : 0 ≤ x * y := Int.mul_nonneg h1.1 h2.1
    have h4 : x * y ≤ 1000000 * 1000000 := Int.mul_le_mul (by omega) (by omega) h2.1 (by omega)
    rw [e, List.length_cons]
    omega
theorem sm_mod {p x : Int} (h : 0 < p ∧ p ≤ 97) : 0 ≤ x % p ∧ x % p < 97 := by
  have := Int.emod_nonneg x (show p ≠ 0 by omega)
  have := Int.emod_lt_of_pos x h.1
  omega
def Sm97 (v : Vec) : Prop := ∀ x, x ∈ v → 0 ≤ x ∧ x < 97
theorem Sm97.sm {v : Vec} (h : Sm97 v) : Sm v := fun x hx => by have := h x hx; omega
theorem sm_times {p : Int} {m : Mat} {v : Vec} (h : 0 < p ∧ p ≤ 97) : Sm97 (timesF p m v) := fun x hx => by
  unfold timesF at hx
  obtain ⟨r, _, rfl⟩ := List.mem_map.mp hx
  exact sm_mod h
theorem sm_plus {p : Int} {a b : Vec} (h : 0 < p ∧ p ≤ 97) : Sm97 (plusF p a b) := fun x hx => by
  rw [plusF_zip] at hx
  obtain ⟨q, _, rfl⟩ := List.mem_map.mp hx
  exact sm_mod h
theorem len_plus {p : Int} {a b : Vec} : (plusF p a b).length = min a.length b.length := by
  unfold plusF; rw [List.length_zipWith]
theorem len_times {p : Int} {m : Mat} {v : Vec} : (timesF p m v).length = m.length := by unfold timesF; rw [List.length_map]
theorem sm_sq {v : Vec} (h : Sm97 v) : Sm (v.map fun n => n * n) := fun x hx => by
  obtain ⟨y, hy, rfl⟩ := List.mem_map.mp hx
  have h1 := h y hy
  have h3 : 0 ≤ y * y := Int.mul_nonneg h1.1 h1.1
  have h4 : y * y ≤ 97 * 97 := Int.mul_le_mul (by omega) (by omega) h1.1 (by omega)
  omega
theorem len_look {p : Int} {q : Vec} {w : Nat} : ∀ {pairs : List (Vec × Vec)}, q.length = w → (∀ x, x ∈ pairs → x.2.length = w) → (lookF p q pairs).length = w := by
  intro pairs hq hp
  unfold lookF
  have key : ∀ (ps : List (Vec × Vec)) (f : Vec), (∀ x, x ∈ ps → x.2.length = w) → f.length = w → (ps.foldl (fun f kv => plusF p f (kv.2.map (psum q kv.1 * ·))) f).length = w := by
    intro ps
    induction ps with
    | nil => exact fun f _ h => h
    | cons x r ih =>
      intro f h1 h2
      refine ih _ (fun y hy => h1 y (List.mem_cons_of_mem _ hy)) ?_
      rw [len_plus, List.length_map, h2, h1 x List.mem_cons_self, Nat.min_self]
  exact key pairs _ hp (by rw [List.length_map]; exact hq)
theorem look_snoc {p : Int} {q : Vec} {pairs : List (Vec × Vec)} {k : Nat} {x : Vec × Vec} (h : pairs[k]? = some x) : lookF p q (pairs.take (k + 1)) = plusF p (lookF p q (pairs.take k)) (x.2.map (psum q x.1 * ·)) := by
  unfold lookF
  rw [List.take_add_one, h, List.foldl_append]
  rfl
theorem sm_look {p : Int} {q : Vec} {pairs : List (Vec × Vec)} (h : 0 < p ∧ p ≤ 97) : Sm97 (lookF p q pairs) := by
  unfold lookF
  have key : ∀ (ps : List (Vec × Vec)) (f : Vec), Sm97 f → Sm97 (ps.foldl (fun f kv => plusF p f (kv.2.map (psum q kv.1 * ·))) f) := by
    intro ps
    induction ps with
    | nil => exact fun f h => h
    | cons x r ih => exact fun f _ => ih _ (sm_plus h)
  exact key pairs _ fun x hx => by
    obtain ⟨_, _, rfl⟩ := List.mem_map.mp hx
    omega
/-! ### looked_at -/
theorem len_Net_looked_at (c : Cl) : ∀ ds S Q E, sp_Net_looked_at c ds S Q E → ds.length = 3 := by
  rintro ds S Q E ⟨_, _, _, _, rfl, _⟩; rfl
theorem ints_map {v : Vec} {f : Int → Int} : v.map (fun x => D.int (f x)) = (v.map f).map D.int := by rw [List.map_map]; rfl
theorem rd_Net_looked_at (c : Cl) : ∀ ds S Q X1, sp_Net_looked_at c ds S Q X1 → w_Net_looked_at c (startD N_Net_looked_at_ ds) S (endQ Q X1) := by
  rintro ds S Q X1 ⟨n, e, q, pairs, rfl, p0, p97, hql, hq, hpairs, h⟩
  show w_Net_looked_at c [some (dNet c n e), some (dT q), some (.lst (pairs.map dP)), none, none, none, none, none, none] S (endQ Q X1)
  unfold w_Net_looked_at
  refine seq_k fun q1 n1 r1 _ _ x1 => ?_
  simp only [wSet, wCB, wCons, wNil, wLc, wIt, wVar, getV, setV, some!, dT, seqA, delVs, delV, List.length_map]
  refine ⟨by unfold sizeLine; omega, compI_vals q D.int (fun _ => .int 0) trivial (fun x hx R hR => ?_) ?_⟩
  · simp only [gN, setV, wC]; exact hR
  simp only [oTuple, one, seqA, seqL, seqM, some!]
  rw [ints_map (f := fun _ => 0)]
  refine n1 _ _ ?_
  refine seq_k fun q1 n1 r1 _ _ x1 => ?_
  simp only [wFor, wIt, wVar, getV, some!, seqA, seqL, seqM]
  refine forI_invq (fun k e' S' => S' = S ∧ ∃ x4 x5 x6, e' = [some (dNet c n e), some (.tup (q.map D.int)), some (.lst (pairs.map dP)), some (dT (lookF n.prime q (pairs.take k))), x4, x5, x6, none, none]) ⟨rfl, _, _, _, rfl⟩ (fun _ _ _ _ => trivial) ?_ ?_
  · rintro k d e' S' hi ⟨rfl, x4, x5, x6, rfl⟩ q' hq' _ _ _ _
    rw [List.getElem?_map] at hi
    obtain ⟨x, hx, rfl⟩ := Option.map_eq_some_iff.mp hi
    have hm := hpairs x (List.mem_of_getElem? hx)
    have hb := psum_bd hq hm.1.1
    simp only [gT, gAll, gN, setV, dP]
    refine ⟨rfl, ?_⟩
    refine seq_k fun q1 n1 r1 _ _ x1 => ?_
    simp only [wSet, wCall, wCons, wNil, wVar, getV, setV, some!]
    refine ⟨true, true, q, x.1, rfl, hq, hm.1.1, n1 _ _ ?_⟩
    simp only [wSet, wMeth, wCons, wNil, wLc, wIt, wVar, getV, setV, some!, dT, seqA, delVs, delV, List.length_map]
    refine ⟨isN, by unfold sizeLine; omega, compI_vals x.2 D.int (fun y => .int (psum q x.1 * y)) trivial (fun y hy R hR => ?_) ?_⟩
    · have h2 := hm.2.1 y hy
      simp only [gN, setV, wBin, wVar, getV, some!, oMul, oI]
      exact ⟨mulw ⟨hb.1, by omega⟩ ⟨h2.1, by omega⟩, hR⟩
    · rw [ints_map (f := fun y => psum q x.1 * y)]
      have hl : (lookF n.prime q (pairs.take k)).length ≤ 1000 := by
        have key : ∀ (ps : List (Vec × Vec)) (f : Vec), f.length ≤ 1000 → (ps.foldl (fun f kv => plusF n.prime f (kv.2.map (psum q kv.1 * ·))) f).length ≤ 1000 := by
          intro ps
          induction ps with
          | nil => exact fun f h => h
          | cons x r ih => exact fun f hf => ih _ (by rw [len_plus]; omega)
        exact key _ _ (by rw [List.length_map]; exact hql)
      refine ⟨n, e, true, false, lookF n.prime q (pairs.take k), x.2.map fun y => psum q x.1 * y, rfl, p0, hl, hq' _ _ ⟨rfl, some (dT x.1), some (dT x.2), some (.int (psum q x.1)), ?_⟩⟩
      rw [look_snoc hx]
      rfl
  · rintro e' S' ⟨rfl, x4, x5, x6, rfl⟩
    refine n1 _ _ ?_
    rw [List.length_map, List.take_length]
    simp only [wRet, wVar, getV, some!]
    exact h
end K07
set_option Elab.async false
set_option linter.all false
set_option maxRecDepth 100000
set_option maxHeartbeats 1000000
namespace K07
open PySem PySem.Spec PyProof.Rows L2 DL
def W97 (w : Nat) (v : Vec) : Prop := v.length = w ∧ Sm97 v
theorem W97.wd {w : Nat} {v : Vec} (h : W97 w v) : Wd w v := ⟨h.1, h.2.sm⟩
structure StOk (w : Nat) (st : List (Vec × Vec) × Vec) : Prop where
  x : W97 w st.2
  pa : ∀ p, p ∈ st.1 → W97 w p.1 ∧ W97 w p.2
theorem w97_times {w : Nat} {p : Int} {m : Mat} {v : Vec} (hp : 0 < p ∧ p ≤ 97) (h : m.length = w) : W97 w (timesF p m v) := ⟨by rw [len_times]; exact h, sm_times hp⟩
theorem w97_plus {w : Nat} {p : Int} {a b : Vec} (hp : 0 < p ∧ p ≤ 97) (ha : a.length = w) (hb : b.length = w) : W97 w (plusF p a b) := ⟨by rw [len_plus, ha, hb, Nat.min_self], sm_plus hp⟩
theorem before_ok {w L m i : Nat} {rows : List Rw} (h : RowsOk w L m rows) (hi : i < m) : ∀ q, q ∈ beforeF rows i → Wd w q.1 ∧ Wd w q.2 := fun q hq => by
  unfold beforeF at hq
  obtain ⟨r, hr, rfl⟩ := List.mem_map.mp hq
  obtain ⟨⟨l, a⟩, _⟩ := h.2 r hr
  have hl : i < r.pairs.length := by omega
  rw [List.getD_eq_getElem?_getD, List.getElem?_eq_getElem hl]
  exact a _ (List.getElem_mem hl)
theorem step_ok {w L m : Nat} {p : Int} {rows : List Rw} {st : List (Vec × Vec) × Vec} {l : Lay} (hp : 0 < p ∧ p ≤ 97) (hr : RowsOk w L m rows) (hi : st.1.length < m) (hl : LayOk w l) (h : StOk w st) : StOk w (stepL p rows st l) := by
  obtain ⟨h1, h2, h3, h4, h5⟩ := hl
  have hk := w97_times (v := st.2) hp h2.1
  have hv := w97_times (v := st.2) hp h3.1
  have hq := w97_times (v := st.2) hp h1.1
  have hlook : (lookF p (timesF p l.q st.2) (beforeF rows st.1.length ++ [pairF p l st.2])).length = w := len_look hq.1 fun x hx => by
    rcases List.mem_append.mp hx with z | z
    · exact (before_ok hr hi x z).2.1
    · rw [List.mem_singleton] at z; subst z; exact hv.1
  have hx1 := w97_plus (b := lookF p (timesF p l.q st.2) (beforeF rows st.1.length ++ [pairF p l st.2])) hp h.x.1 hlook
  refine ⟨w97_plus hp hx1.1 (by rw [len_times]; exact h5.1), fun q hq => ?_⟩
  rcases List.mem_append.mp hq with z | z
  · exact h.pa q z
  · rw [List.mem_singleton] at z; subst z; exact ⟨hk, hv⟩
theorem fold_snoc {α β : Type} {f : β → α → β} {xs : List α} {i : Nat} {x : α} {b : β} (h : xs[i]? = some x) : (xs.take (i + 1)).foldl f b = f ((xs.take i).foldl f b) x := by
  rw [List.take_add_one, h, List.foldl_append]
  rfl
theorem fold_len {p : Int} {rows : List Rw} : ∀ (ls : List Lay) (st : List (Vec × Vec) × Vec), (ls.foldl (stepL p rows) st).1.length = st.1.length + ls.length
  | [], st => rfl
  | l :: r, st => by
    rw [List.foldl_cons, fold_len r]
    show (st.1 ++ [_]).length + _ = _
    simp only [List.length_append, List.length_cons, List.length_nil]; omega
theorem fold_ok {w L m : Nat} {p : Int} {rows : List Rw} (hp : 0 < p ∧ p ≤ 97) (hr : RowsOk w L m rows) : ∀ (ls : List Lay) (st : List (Vec × Vec) × Vec), (∀ l, l ∈ ls → LayOk w l) → st.1.length + ls.length ≤ m → StOk w st → StOk w (ls.foldl (stepL p rows) st)
  | [], st, _, _, h => h
  | l :: r, st, hl, hm, h => by
    rw [List.length_cons] at hm
    rw [List.foldl_cons]
    refine fold_ok hp hr r _ (fun x hx => hl x (List.mem_cons_of_mem _ hx)) ?_ (step_ok hp hr (by omega) (hl l List.mem_cons_self) h)
    show (st.1 ++ [_]).length + _ ≤ _
    rw [List.length_append, List.length_singleton]; omega
theorem x0_ok {w L : Nat} {n : NetV} {rows : List Rw} {l : Int} (hn : NetOk w L n) (hl : 0 ≤ l ∧ l < (L : Int)) : W97 w (x0F n rows l) := by
  have hp := prime_pos hn
  have hlt : l.toNat < n.embed.length := by have := hn.em.1; omega
  refine w97_plus ⟨hp.1, hp.2.2⟩ ?_ (by rw [List.length_map]; exact hn.sh.1)
  rw [List.getD_eq_getElem?_getD, List.getElem?_eq_getElem hlt]
  exact (hn.em.2 _ (List.getElem_mem hlt)).1
theorem row_ok {w L : Nat} {n : NetV} {rows : List Rw} {l : Int} (hn : NetOk w L n) (hr : RowsOk w L n.layers.length rows) (hl : 0 ≤ l ∧ l < (L : Int)) : RwOk w L n.layers.length (rowF n rows l) := by
  have hp := prime_pos hn
  have hp' : 0 < n.prime ∧ n.prime ≤ 97 := ⟨hp.1, hp.2.2⟩
  have ok := fold_ok hp' hr n.layers ([], x0F n rows l) hn.la.2 (by simp) ⟨x0_ok hn hl, fun p h => by cases h⟩
  refine ⟨⟨by show (n.layers.foldl (stepL n.prime rows) ([], x0F n rows l)).1.length = _; rw [fold_len]; simp, fun p h => ⟨(ok.pa p h).1.wd, (ok.pa p h).2.wd⟩⟩, by show (n.out.map _).length = L; rw [List.length_map]; exact hn.ou.1, fun x hx => ?_⟩
  obtain ⟨v, _, rfl⟩ := List.mem_map.mp hx
  have := sm_mod (x := psum v (n.layers.foldl (stepL n.prime rows) ([], x0F n rows l)).2) hp'
  omega
theorem len_Net_row (c : Cl) : ∀ ds S Q E, sp_Net_row c ds S Q E → ds.length = 3 := by
  rintro ds S Q E ⟨_, _, _, _, _, _, _, rfl, _⟩; rfl
theorem rd_Net_row (c : Cl) : ∀ ds S Q X1, sp_Net_row c ds S Q X1 → w_Net_row c (startD N_Net_row_ ds) S (endQ Q X1) := by
  rintro ds S Q X1 ⟨n, e, d, rows, l, w, L, rfl, hd, hn, hr, hl, h⟩
  have hp := prime_pos hn
  have hp' : 0 < n.prime ∧ n.prime ≤ 97 := ⟨hp.1, hp.2.2⟩
  show w_Net_row c [some (dNet c n e), some d, some (.int l), none, none, none, none, none, none, none, none, none, none, none, none, none, none] S (endQ Q X1)
  unfold w_Net_row
  refine seq_k fun q1 n1 r1 _ _ x1 => ?_
  simp only [wIf, wNot, wTest, wMeth, wCons, wNil, wVar, getV, some!]
  refine ⟨isN, n, e, .int l, rfl, kn_int l, ?_⟩
  rw [isLet_int (show 0 ≤ l ∧ l < (n.embed.length : Int) by have := hn.em.1; omega)]
  simp only [Bool.not_true, Bool.false_eq_true, if_false, wNext]
  refine n1 _ _ ?_
  refine seq_k fun q1 n1 r1 _ _ x1 => ?_
  have hlt : l.toNat < n.embed.length := by have := hn.em.1; omega
  obtain ⟨ev, hev⟩ : ∃ ev, n.embed[l.toNat]? = some ev := ⟨_, List.getElem?_eq_getElem hlt⟩
  have hevw := hn.em.2 ev (List.mem_of_getElem? hev)
  have a1 := fun Q => oIx_eq (S := S) (x := dM n.embed) (i := l) rfl (at_z hl.1 (by rw [List.getElem?_map, hev]; rfl) : atI (n.embed.map dT) l = some (dT ev)) Q
  have ol := fun (Q : Qd) => oLen_of (S := S) (d := d) (Q := Q) hd
  simp only [wSet, wMeth, wBin, wCB, wCons, wNil, wLc, wIt, wFld, wVar, getV, setV, some!, fldD, dNet, true_and, netF, List.getElem?_cons_zero, List.getElem?_cons_succ, a1]
  refine ⟨⟨rfl, rfl⟩, ?_⟩
  simp only [dT, seqA, delVs, delV, List.length_map]
  refine ⟨by have := hn.sh.1; have := hn.w1; unfold sizeLine; omega, compI_vals n.shift D.int (fun y => .int ((rows.length : Int) * y)) trivial (fun y hy R hR => ?_) ?_⟩
  · have h2 := hn.sh.2 y hy
    simp only [gN, setV, wBin, wCB, wCons, wNil, wVar, getV, some!]
    refine ol _ ?_
    simp only [List.length_map, oMul, oI]
    exact ⟨mulw ⟨by omega, by have := hr.1; omega⟩ ⟨h2.1, by omega⟩, hR⟩
  rw [ints_map (f := fun y => (rows.length : Int) * y)]
  refine ⟨n, e, true, false, ev, n.shift.map fun y => (rows.length : Int) * y, rfl, hp.1, by have := hevw.1; have := hn.w1; omega, n1 _ _ ?_⟩
  have ex0 : plusF n.prime ev (n.shift.map fun y => (rows.length : Int) * y) = x0F n rows l := by
    unfold x0F; rw [List.getD_eq_getElem?_getD, hev]; rfl
  rw [ex0]
  have ok0 := x0_ok (rows := rows) hn hl
  generalize hx0 : x0F n rows l = x0 at ok0
  refine seq_k fun q1 n1 r1 _ _ x1 => ?_
  simp only [wSet, wLstM, wNil, setV]
  refine ⟨Nat.zero_le _, fun po hpo => n1 _ _ ?_⟩
  have E := ext_put (m := .lst []) (ext_refl S) hpo
  have hat : put S po (.lst []) po = some (.lst (([] : List (Vec × Vec)).map dP)) := put_same
  generalize put S po (.lst []) = S1 at E hat
  refine seq_k fun q1 n1 r1 _ _ x1 => ?_
  simp only [wFor, wEnum, wFld, wVar, getV, some!, fldD, dNet, true_and, netF, List.getElem?_cons_zero, List.getElem?_cons_succ, seqA]
  refine forI_invq (fun i e' S' => ∃ st x5 x6 x7 x8 x9 x10 x11 x12, st = (n.layers.take i).foldl (stepL n.prime rows) ([], x0) ∧ StOk w st ∧ Ext S S' ∧ S' po = some (.lst (st.1.map dP)) ∧
    e' = [some (dNet c n e), some d, some (.int l), some (dT st.2), some (.ref po), x5, x6, x7, x8, x9, x10, x11, x12, none, none, none, none]) ⟨([], x0), _, _, _, _, _, _, _, _, rfl, ⟨ok0, fun p h => by cases h⟩, E, hat, rfl⟩ (fun _ _ _ _ => trivial) ?_ ?_
  · rintro i d' e' S' hi ⟨st, x5, x6, x7, x8, x9, x10, x11, x12, est, ok, E, hat, rfl⟩ q hq _ _ _ _
    obtain ⟨x, hx, rfl⟩ := enumD_get hi
    rw [List.getElem?_map] at hx
    obtain ⟨la, hla, rfl⟩ := Option.map_eq_some_iff.mp hx
    have hlt2 := lt_of_some hla
    have hlen : st.1.length = i := by rw [est, fold_len, List.length_take]; simp; omega
    obtain ⟨k1, k2, k3, k4, k5⟩ := hn.la.2 la (List.mem_of_getElem? hla)
    have hd' := seqA_ext E hd
    obtain ⟨ox, opa⟩ := id ok
    have wle := hn.w1
    have sv : Sm st.2 := ox.2.sm
    have mk : ∀ {m : Mat}, m.length = w ∧ MatOk w m → m.length ≤ 1000 ∧ ∀ r, r ∈ m → Sm r := fun hm => ⟨by have := hm.1; omega, fun r hr => (hm.2 r hr).2⟩
    simp only [gT, gAll, gN, setV, dLay, Nat.zero_add]
    refine ⟨rfl, rfl, ?_⟩
    refine seq_k fun q1 n1 r1 _ _ x1 => ?_
    simp only [wSet, wTup, wMeth, wCons, wNil, wVar, getV, setV, some!]
    refine ⟨isN, n, e, la.k, true, st.2, rfl, hp.1, (mk k2).1, (mk k2).2, sv, ?_⟩
    refine ⟨isN, n, e, la.v, true, st.2, rfl, hp.1, (mk k3).1, (mk k3).2, sv, z2, n1 _ _ ?_⟩
    have hpair : D.tup [dT (timesF n.prime la.k st.2), dT (timesF n.prime la.v st.2)] = dP (pairF n.prime la st.2) := rfl
    rw [hpair]
    have hpk : W97 w (pairF n.prime la st.2).1 := w97_times hp' k2.1
    have hpv : W97 w (pairF n.prime la st.2).2 := w97_times hp' k3.1
    refine seq_k fun q1 n1 r1 _ _ x1 => ?_
    simp only [wSet, wBin, wLc, wIt, wLst, wCons, wNil, wVar, getV, setV, some!, hd', delVs, delV, List.length_map]
    refine ⟨by have := hr.1; unfold sizeLine; omega, compI_vals rows dRw (fun r => dP (r.pairs.getD i ([], []))) hd' (fun r hr2 R hR => ?_) ?_⟩
    · have hri := hr.2 r hr2
      have hli : i < r.pairs.length := by have := hri.pa.1; omega
      have a2 := fun Q => oIx_eq (S := S') (x := .tup (r.pairs.map dP)) (i := (i : Int)) rfl (at_k (by rw [List.getElem?_map, List.getElem?_eq_getElem hli]; rfl)) Q
      have a3 := fun Q => oIx_eq (S := S') (x := dRw r) (i := 0) (xs := [.tup (r.pairs.map dP), dT r.wts]) rfl rfl Q
      simp only [gN, setV, wBin, wVar, wC, getV, some!, a3, a2]
      rw [List.getD_eq_getElem?_getD, List.getElem?_eq_getElem hli] at hR
      exact hR
    have hbef : rows.map (fun r => dP (r.pairs.getD i ([], []))) = (beforeF rows st.1.length).map dP := by
      unfold beforeF; rw [hlen, List.map_map]; rfl
    rw [hbef]
    simp only [oAdd, oCatL, seqM, some!]
    refine ⟨z1, by rw [List.length_map]; show (rows.map _).length + 1 ≤ _; rw [List.length_map]; have := hr.1; unfold sizeLine; omega, n1 _ _ ?_⟩
    have hcat : (beforeF rows st.1.length).map dP ++ [dP (pairF n.prime la st.2)] = (beforeF rows st.1.length ++ [pairF n.prime la st.2]).map dP := by rw [List.map_append]; rfl
    rw [hcat]
    have hbo : ∀ p, p ∈ beforeF rows st.1.length ++ [pairF n.prime la st.2] → (Sm p.1 ∧ p.1.length ≤ 1000) ∧ (Sm p.2 ∧ p.2.length ≤ 1000) := fun p hp2 => by
      rcases List.mem_append.mp hp2 with z | z
      · have := before_ok hr (by rw [hlen]; exact hlt2) p z
        exact ⟨⟨this.1.2, by have := this.1.1; omega⟩, ⟨this.2.2, by have := this.2.1; omega⟩⟩
      · rw [List.mem_singleton] at z; subst z
        exact ⟨⟨hpk.2.sm, by have := hpk.1; omega⟩, ⟨hpv.2.sm, by have := hpv.1; omega⟩⟩
    have hq97 := w97_times (v := st.2) hp' k1.1
    have hlook : (lookF n.prime (timesF n.prime la.q st.2) (beforeF rows st.1.length ++ [pairF n.prime la st.2])).length = w := len_look hq97.1 fun x hx => by
      rcases List.mem_append.mp hx with z | z
      · exact (before_ok hr (by rw [hlen]; exact hlt2) x z).2.1
      · rw [List.mem_singleton] at z; subst z; exact hpv.1
    refine seq_k fun q1 n1 r1 _ _ x1 => ?_
    simp only [wSet, wMeth, wCons, wNil, wVar, getV, setV, some!]
    refine ⟨isN, isN, isN, n, e, la.q, true, st.2, rfl, hp.1, (mk k1).1, (mk k1).2, sv, ?_⟩
    refine ⟨n, e, timesF n.prime la.q st.2, _, rfl, hp.1, hp.2.2, by have := hq97.1; omega, hq97.2.sm, hbo, ?_⟩
    refine ⟨n, e, true, true, st.2, _, rfl, hp.1, by have := ox.1; omega, n1 _ _ ?_⟩
    have hx1 := w97_plus (a := st.2) (b := lookF n.prime (timesF n.prime la.q st.2) (beforeF rows st.1.length ++ [pairF n.prime la st.2])) hp' ox.1 hlook
    have enx : nextX n.prime (beforeF rows st.1.length) la st.2 = plusF n.prime (plusF n.prime st.2 (lookF n.prime (timesF n.prime la.q st.2) (beforeF rows st.1.length ++ [pairF n.prime la st.2]))) (timesF n.prime la.s ((timesF n.prime la.f (plusF n.prime st.2 (lookF n.prime (timesF n.prime la.q st.2) (beforeF rows st.1.length ++ [pairF n.prime la st.2])))).map fun n => n * n)) := rfl
    have esl : stepL n.prime rows st la = (st.1 ++ [pairF n.prime la st.2], nextX n.prime (beforeF rows st.1.length) la st.2) := rfl
    have ok2 := step_ok hp' hr (by rw [hlen]; exact hlt2) (hn.la.2 la (List.mem_of_getElem? hla)) ok
    rw [esl, enx] at ok2
    rw [enx] at esl
    have est2 : (n.layers.take (i + 1)).foldl (stepL n.prime rows) ([], x0) = stepL n.prime rows st la := by rw [fold_snoc hla, ← est]
    rw [esl] at est2
    generalize plusF n.prime st.2 (lookF n.prime (timesF n.prime la.q st.2) (beforeF rows st.1.length ++ [pairF n.prime la st.2])) = y1 at hx1 ok2 est2
    clear esl enx
    have hf97 := w97_times (v := y1) hp' k4.1
    refine seq_k fun q1 n1 r1 _ _ x1 => ?_
    simp only [wSet, wMeth, wCons, wNil, wLc, wIt, wVar, getV, setV, some!]
    refine ⟨isN, isN, isN, n, e, la.f, true, y1, rfl, hp.1, (mk k4).1, (mk k4).2, hx1.2.sm, ?_⟩
    simp only [dT, seqA, delVs, delV, List.length_map]
    refine ⟨by have := hf97.1; unfold sizeLine; omega, compI_vals (timesF n.prime la.f y1) D.int (fun y => .int (y * y)) trivial (fun y hy R hR => ?_) ?_⟩
    · have h2 := hf97.2 y hy
      simp only [gN, setV, wBin, wVar, getV, some!, oMul, oI]
      exact ⟨mulw ⟨h2.1, by omega⟩ ⟨h2.1, by omega⟩, hR⟩
    rw [ints_map (f := fun y => y * y)]
    refine ⟨n, e, la.s, false, (timesF n.prime la.f y1).map fun y => y * y, rfl, hp.1, (mk k5).1, (mk k5).2, sm_sq hf97.2, ?_⟩
    refine ⟨n, e, true, true, y1, _, rfl, hp.1, by have := hx1.1; omega, n1 _ _ ?_⟩
    simp only [wDrop, wMt, wCons, wNil, wVar, getV, some!, mutL, hat, oAppend, one]
    refine ⟨by rw [List.length_map]; have := hn.la.1; unfold sizeLine; omega, hq _ _ ⟨_, _, _, _, _, _, _, _, _, est2.symm, ok2, ext_chg E (ext_none (ext_refl S) hpo), by rw [put_same, List.map_append]; rfl, rfl⟩⟩
  · rintro e' S' ⟨st, x5, x6, x7, x8, x9, x10, x11, x12, est, ok, E, hat, rfl⟩
    rw [enumD_length, List.length_map, List.take_length] at est
    refine n1 _ _ ?_
    refine seq_k fun q1 n1 r1 _ _ x1 => ?_
    simp only [wSet, wLc, wIt, wFld, wVar, getV, setV, some!, fldD, dNet, true_and, netF, List.getElem?_cons_zero, List.getElem?_cons_succ, dM, seqA, delVs, delV, List.length_map]
    refine ⟨by have := hn.ou.1; have := hn.l1; unfold sizeLine; omega, compI_vals n.out dT (fun v => .int (1 + psum v st.2 % n.prime)) trivial (fun v hv R hR => ?_) ?_⟩
    · simp only [gN, setV, wBin, wMeth, wCall, wCons, wNil, wVar, wC, getV, some!]
      refine ⟨⟨rfl, rfl⟩, true, true, v, st.2, rfl, (hn.ou.2 v hv).2, ok.x.2.sm, n, e, _, rfl, hp.1, ?_⟩
      simp only [oAdd]
      exact hR
    refine n1 _ _ ?_
    have e3 := seqA_at hat
    simp only [wRet, wTup, wCB, wCons, wNil, wVar, getV, some!, oTuple, one, e3]
    simp only [seqA, seqL, seqM]
    refine ⟨z2, ?_⟩
    have eo : n.out.map (fun v => D.int (1 + psum v st.2 % n.prime)) = (n.out.map fun v => 1 + psum v st.2 % n.prime).map D.int := by rw [List.map_map]; rfl
    rw [eo, est]
    have := h S' E
    unfold rowF at this
    rw [hx0] at this
    exact this
end K07
set_option Elab.async false
set_option linter.all false
set_option maxRecDepth 100000
set_option maxHeartbeats 1000000
namespace K07
open PySem PySem.Spec PyProof.Rows L2 DL
theorem at_last {α : Type} {xs : List α} {x : α} (h : xs.getLast? = some x) : atI xs (-1) = some x := by
  have hne : xs ≠ [] := fun z => by rw [z] at h; cases h
  have hl := List.length_pos_iff.mpr hne
  have key : ixN xs.length (-1) = some (xs.length - 1) := by
    unfold ixN
    rw [if_neg (by decide)]
    first
      | (rw [if_pos (by omega)]; congr 1; omega)
      | (simp; omega)
  unfold atI
  rw [key]
  show xs[xs.length - 1]? = some x
  rw [← List.getLast?_eq_getElem?]; exact h
theorem rowsF_snoc (n : NetV) (ls : Vec) (l : Int) : rowsF n (ls ++ [l]) = rowsF n ls ++ [rowF n (rowsF n ls) l] := by
  unfold rowsF; rw [List.foldl_append]; rfl
theorem rowsF_take {n : NetV} {ls : Vec} {i : Nat} {l : Int} (h : ls[i]? = some l) : rowsF n (ls.take (i + 1)) = rowsF n (ls.take i) ++ [rowF n (rowsF n (ls.take i)) l] := by
  rw [List.take_add_one, h]; exact rowsF_snoc ..
theorem rowsF_len (n : NetV) (ls : Vec) : (rowsF n ls).length = ls.length := by
  have key : ∀ k, (rowsF n (ls.take k)).length = (ls.take k).length := by
    intro k
    induction k with
    | zero => rfl
    | succ k ih =>
      cases h : ls[k]? with
      | none =>
        have hl := List.getElem?_eq_none_iff.mp h
        rw [List.take_of_length_le (by omega : ls.length ≤ k + 1)]
        rw [List.take_of_length_le hl] at ih; exact ih
      | some l =>
        rw [rowsF_take h, List.length_append, ih, List.take_add_one, h, List.length_append]; rfl
  have := key ls.length
  rwa [List.take_length] at this
theorem rowsF_ok {w L : Nat} {n : NetV} {ls : Vec} (hn : NetOk w L n) (hl : LetsOk L ls) (h50 : ls.length ≤ 100) : ∀ k, RowsOk w L n.layers.length (rowsF n (ls.take k)) := by
  intro k
  induction k with
  | zero => exact ⟨Nat.zero_le _, fun r h => by cases h⟩
  | succ k ih =>
    refine ⟨by rw [rowsF_len, List.length_take]; omega, fun r hr => ?_⟩
    cases h : ls[k]? with
    | none =>
      have hl := List.getElem?_eq_none_iff.mp h
      rw [List.take_of_length_le (by omega : ls.length ≤ k + 1)] at hr
      rw [List.take_of_length_le hl] at ih; exact ih.2 r hr
    | some l =>
      rw [rowsF_take h] at hr
      rcases List.mem_append.mp hr with z | z
      · exact ih.2 r z
      · rw [List.mem_singleton] at z; subst z
        exact row_ok hn ih (hl l (List.mem_of_getElem? h))
theorem len_rows_of (c : Cl) : ∀ ds S Q E, sp_rows_of c ds S Q E → ds.length = 2 := by
  rintro ds S Q E ⟨_, _, _, _, _, _, rfl, _⟩; rfl
theorem rd_rows_of (c : Cl) : ∀ ds S Q X1, sp_rows_of c ds S Q X1 → w_rows_of c (startD N_rows_of_ ds) S (endQ Q X1) := by
  rintro ds S Q X1 ⟨n, e, i, ls, w, L, rfl, hn, hl, h50, h⟩
  show w_rows_of c [some (dNet c n e), some (dR i ls), none, none] S (endQ Q X1)
  unfold w_rows_of
  refine seq_k fun q1 n1 r1 _ _ x1 => ?_
  simp only [wSet, wLstM, wNil, setV]
  refine ⟨Nat.zero_le _, fun p hp => n1 _ _ ?_⟩
  have E := ext_put (m := .lst []) (ext_refl S) hp
  have hat : put S p (.lst []) p = some (.lst ((rowsF n (ls.take 0)).map dRw)) := put_same
  generalize put S p (.lst []) = S1 at E hat
  refine seq_k fun q1 n1 r1 _ _ x1 => ?_
  simp only [wFor, wIt, wVar, getV, some!, seqA_dR]
  refine forI_invq (fun k e' S' => ∃ x3, Ext S S' ∧ S' p = some (.lst ((rowsF n (ls.take k)).map dRw)) ∧ e' = [some (dNet c n e), some (dR i ls), some (.ref p), x3]) ⟨_, E, hat, rfl⟩ (fun _ _ _ _ => trivial) ?_ ?_
  · rintro k d e' S' hi ⟨x3, E, hat, rfl⟩ q hq _ _ _ _
    rw [List.getElem?_map] at hi
    obtain ⟨l, hlk, rfl⟩ := Option.map_eq_some_iff.mp hi
    simp only [gN, setV, wDrop, wMt, wMeth, wCons, wNil, wVar, getV, some!, mutL, hat]
    refine ⟨isN, n, e, .ref p, rowsF n (ls.take k), l, w, L, rfl, seqA_at hat, hn, rowsF_ok hn hl (by omega) k, hl l (List.mem_of_getElem? hlk), fun S2 E2 => ?_⟩
    have hat2 := E2 _ _ hat
    simp only [oAppend, mutL, hat2, one]
    refine ⟨by rw [List.length_map, rowsF_len, List.length_take]; unfold sizeLine; omega, hq _ _ ⟨_, ext_chg (ext_trans E E2) (ext_none (ext_refl S) hp), ?_, rfl⟩⟩
    rw [put_same, rowsF_take hlk, List.map_append]; rfl
  · rintro e' S' ⟨x3, E, hat, rfl⟩
    rw [List.length_map, List.take_length] at hat
    refine n1 _ _ ?_
    have e3 := seqA_at hat
    simp only [wRet, wCB, wCons, wNil, wVar, getV, some!, oTuple, one, e3]
    exact h S' E
theorem prime_in {S : Sto} {p : Int} {Q : Qd} (h : p ∈ thePrimes) (q : Q (.bl false) S) : oInD true S (.int p) (.tup (K_PRIMES.map D.int)) Q := by
  refine ⟨⟨rfl, by show (PyData.int p).depth ≤ 8; exact Nat.zero_le _⟩, by show (PyData.tuple (toPs (K_PRIMES.map D.int))).canLay0 = true; decide +kernel, ?_⟩
  show Q (.bl (!hasD (PyData.int p) (toPs (K_PRIMES.map D.int)))) S
  have e : hasD (PyData.int p) (toPs (K_PRIMES.map D.int)) = true := by
    simp only [thePrimes, List.mem_cons, List.not_mem_nil, or_false] at h
    rcases h with rfl | rfl | rfl | rfl | rfl | rfl | rfl | rfl | rfl | rfl | rfl | rfl | rfl | rfl | rfl | rfl | rfl | rfl | rfl | rfl | rfl | rfl | rfl | rfl | rfl <;> decide +kernel
  rw [e]; exact q
theorem len_Net_init (c : Cl) : ∀ ds S Q E, sp_Net_init c ds S Q E → ds.length = 7 := by
  rintro ds S Q E ⟨_, _, _, _, _, rfl, _⟩; rfl
theorem setD_at {S : Sto} {a C : Addr} {N : List Str} {xs : DE} {i : Nat} {d : D} {k : Sto → Prop} (h : S a = some (.ins C N xs)) (q : k (put S a (.ins C N (setV xs i d)))) : setD C N i S (.ref a) d k := by
  show (match S a with | some (MO.ins C' N' xs) => _ | _ => False)
  rw [h]
  exact ⟨⟨rfl, rfl⟩, q⟩
theorem rd_Net_init (c : Cl) : ∀ ds S Q X1, sp_Net_init c ds S Q X1 → w_Net_init c (startD N_Net_init_ ds) S (endQ Q X1) := by
  rintro ds S Q X1 ⟨a, w, L, n, e, rfl, hn, h0, h⟩
  have hp := prime_pos hn
  have l1 := hn.l1
  show w_Net_init c [some (.ref a), some (.int n.prime), some (dM n.embed), some (dT n.shift), some (.tup (n.layers.map dLay)), some (dM n.out), some (dO e), none, none] S (endQ Q X1)
  unfold w_Net_init
  refine seq_k fun q1 n1 r1 _ _ x1 => ?_
  simp only [wIf, wOr, wNot, wTest, wCall, wBin, wCons, wNil, wVar, wC, getV, some!]
  refine ⟨.int n.prime, 2, 97, rfl, kn_int _, ?_⟩
  rw [show inR 2 97 (.int n.prime) = true from decide_eq_true (⟨hp.2.1, hp.2.2⟩ : 2 ≤ n.prime ∧ n.prime ≤ 97)]
  simp only [Bool.not_true, Bool.false_eq_true, if_false]
  refine prime_in hn.pr ?_
  simp only [Bool.false_eq_true, if_false, wNext]
  refine n1 _ _ ?_
  refine seq_k fun q1 n1 r1 _ _ x1 => ?_
  simp only [wSetF, wVar, getV, some!]
  refine setD_at h0 (n1 _ _ ?_)
  refine seq_k fun q1 n1 r1 _ _ x1 => ?_
  simp only [wSetF, wCall, wCons, wNil, wVar, getV, some!]
  refine ⟨n.embed, rfl, by have := hn.em.1; omega, setD_at put_same (n1 _ _ ?_)⟩
  rw [put_put]
  refine seq_k fun q1 n1 r1 _ _ x1 => ?_
  simp only [wSetF, wCall, wCons, wNil, wVar, getV, some!]
  refine ⟨n.shift, rfl, setD_at put_same (n1 _ _ ?_)⟩
  rw [put_put]
  refine seq_k fun q1 n1 r1 _ _ x1 => ?_
  simp only [wSetF, wCB, wCons, wNil, wLc, wIt, wVar, getV, some!, seqA, delVs, delV, List.length_map]
  refine ⟨by have := hn.la.1; unfold sizeLine; omega, compI_vals n.layers dLay dLay trivial (fun l hl R hR => ?_) ?_⟩
  · obtain ⟨k1, k2, k3, k4, k5⟩ := hn.la.2 l hl
    have wle := hn.w1
    have hd : dLay l = .tup ([l.q, l.k, l.v, l.f, l.s].map dM) := rfl
    simp only [gN, setV, wCB, wCons, wNil, wLc, wIt, wVar, getV, some!, hd, seqA, delVs, delV, List.length_map]
    refine ⟨by show 5 ≤ sizeLine; decide, compI_vals [l.q, l.k, l.v, l.f, l.s] dM dM trivial (fun m hm R hR => ?_) ?_⟩
    · simp only [gN, setV, wCall, wCons, wNil, wVar, getV, some!]
      refine ⟨m, rfl, ?_, hR⟩
      simp only [List.mem_cons, List.not_mem_nil, or_false] at hm
      rcases hm with rfl | rfl | rfl | rfl | rfl
      · have := k1.1; omega
      · have := k2.1; omega
      · have := k3.1; omega
      · have := k4.1; omega
      · have := k5.1; omega
    · simp only [oTuple, one, seqA, seqL, seqM, some!]
      exact hR
  simp only [oTuple, one, seqA, seqL, seqM, some!]
  refine setD_at put_same (n1 _ _ ?_)
  rw [put_put]
  refine seq_k fun q1 n1 r1 _ _ x1 => ?_
  simp only [wSetF, wCall, wCons, wNil, wVar, getV, some!]
  refine ⟨n.out, rfl, by have := hn.ou.1; omega, setD_at put_same (n1 _ _ ?_)⟩
  rw [put_put]
  simp only [wSetF, wVar, getV, some!]
  refine setD_at put_same ?_
  rw [put_put]
  exact h
end K07
set_option Elab.async false
set_option linter.all false
set_option maxRecDepth 100000
set_option maxHeartbeats 1000000
namespace K07
open PySem PySem.Spec PyProof.Rows L2 DL
theorem bad_at {L k j : Nat} {R : List (List D)} {row : List D} {d : D} (h1 : ∀ x, x ∈ (R.take k).flatten → isLet L x = true) (h2 : R[k]? = some row) (h3 : ∀ x, x ∈ row.take j → isLet L x = true) (h4 : row[j]? = some d) (h5 : isLet L d = false) : firstBad L R.flatten = some d := by
  obtain ⟨hk, ek⟩ := List.getElem?_eq_some_iff.mp h2
  obtain ⟨hj, ej⟩ := List.getElem?_eq_some_iff.mp h4
  have e1 : R = R.take k ++ row :: R.drop (k + 1) := by rw [← ek, List.getElem_cons_drop, List.take_append_drop]
  have e2 : row = row.take j ++ d :: row.drop (j + 1) := by rw [← ej, List.getElem_cons_drop, List.take_append_drop]
  have no : ∀ xs : List D, (∀ x, x ∈ xs → isLet L x = true) → (xs.find? fun d => !isLet L d) = none := fun xs h => no_bad h
  unfold firstBad
  rw [e1, List.flatten_append, List.flatten_cons, List.find?_append, no _ h1, e2, Option.none_or, List.append_assoc, List.find?_append, no _ h3, Option.none_or, List.cons_append, List.find?_cons, h5]
  rfl
theorem all_take {L k : Nat} {R : List (List D)} {row : List D} (h1 : ∀ x, x ∈ (R.take k).flatten → isLet L x = true) (h2 : R[k]? = some row) (h3 : ∀ x, x ∈ row → isLet L x = true) : ∀ x, x ∈ (R.take (k + 1)).flatten → isLet L x = true := fun x hx => by
  rw [List.take_add_one, h2, List.flatten_append] at hx
  rcases List.mem_append.mp hx with z | z
  · exact h1 x z
  · exact h3 x (by simpa using z)
theorem take_one {L j : Nat} {row : List D} {d : D} (h1 : ∀ x, x ∈ row.take j → isLet L x = true) (h2 : row[j]? = some d) (h3 : isLet L d = true) : ∀ x, x ∈ row.take (j + 1) → isLet L x = true := fun x hx => by
  rw [List.take_add_one, h2] at hx
  rcases List.mem_append.mp hx with z | z
  · exact h1 x z
  · have : x = d := by simpa using z
    rw [this]; exact h3
def rowsG (g : GAsk) (bg : List D) : List (List D) := g.prompt :: g.stops ++ [bg]
theorem rowsG_flat (g : GAsk) (bg : List D) : (rowsG g bg).flatten = allG g bg := by unfold rowsG allG; simp
theorem rowsG_fine {L : Nat} {g : GAsk} {bg : List D} (hg : GOk L g) (hb : BgOk bg) : ∀ r, r ∈ rowsG g bg → ∀ d, d ∈ r → Fine d := fun r hr => by
  rcases List.mem_append.mp hr with z | z
  · rcases List.mem_cons.mp z with y | y
    · rw [y]; exact hg.pr.1
    · exact (hg.st.2 r y).1
  · rw [List.mem_singleton] at z; subst z; exact hb.fi
theorem seqA_dS {S : Sto} {i : Bool} {xs : List D} : seqA S (dS i xs) = some xs := by cases i <;> rfl
theorem oTuple_S {S : Sto} {i : Bool} {xs : List D} (Q : Qd) : oTuple S [dS i xs] Q = Q (.tup xs) S := by cases i <;> rfl
theorem len_check_letters (c : Cl) : ∀ ds S Q E, sp_check_letters c ds S Q E → ds.length = 3 := by
  rintro ds S Q E ⟨_, _, _, _, _, _, _, rfl, _⟩; rfl
theorem rd_check_letters (c : Cl) : ∀ ds S Q X1, sp_check_letters c ds S Q X1 → w_check_letters c (startD N_check_letters_ ds) S (endQ Q X1) := by
  rintro ds S Q X1 ⟨n, e, g, i, bg, w, L, rfl, hn, hg, hb, h, hx⟩
  show w_check_letters c [some (dNet c n e), some (dG c g), some (dS i bg), none, none] S (endQ Q X1)
  unfold w_check_letters
  rw [← rowsG_flat] at h hx
  have hrows := rowsG_fine hg hb
  have ecat : ([D.tup g.prompt] ++ g.stops.map D.tup) ++ [D.tup bg] = (rowsG g bg).map D.tup := by simp [rowsG]
  have eL : n.embed.length = L := hn.em.1
  generalize rowsG g bg = R at h hx hrows ecat
  simp only [wFor, wIt, wBin, wTup, wCB, wCons, wNil, wFld, wVar, getV, some!, fldD, dG, true_and, gF, List.getElem?_cons_zero, List.getElem?_cons_succ, oAdd, oTuple_S, List.length_map]
  have hst := hg.st.1
  refine ⟨z1, by show 1 + _ ≤ sizeLine; unfold sizeLine; omega, z1, by rw [List.length_append, List.length_map]; show 1 + _ + 1 ≤ sizeLine; unfold sizeLine; omega, ?_⟩
  rw [ecat]
  simp only [seqA, some!]
  refine forI_invq (fun k e' S' => S' = S ∧ (∀ x, x ∈ (R.take k).flatten → isLet L x = true) ∧ ∃ x3 x4, e' = [some (dNet c n e), some (.obj c.Ask N_Ask [.tup g.prompt, .int g.most, .tup (g.stops.map D.tup), dT g.tape, dRuleO c g.rule]), some (dS i bg), x3, x4]) ⟨rfl, fun x h => (by cases h), _, _, rfl⟩ (fun _ _ _ _ => trivial) ?_ ?_
  · rintro k d e' S' hi ⟨rfl, hk, x3, x4, rfl⟩ q hq _ _ _ hxc
    rw [List.getElem?_map] at hi
    obtain ⟨r, hr, rfl⟩ := Option.map_eq_some_iff.mp hi
    have hr2 := hrows r (List.mem_of_getElem? hr)
    simp only [gN, setV, wFor, wIt, wVar, getV, some!, seqA]
    refine forI_invq (fun j e' S'' => S'' = S' ∧ (∀ x, x ∈ r.take j → isLet L x = true) ∧ ∃ x3 x4, e' = [some (dNet c n e), some (.obj c.Ask N_Ask [.tup g.prompt, .int g.most, .tup (g.stops.map D.tup), dT g.tape, dRuleO c g.rule]), some (dS i bg), x3, x4]) ⟨rfl, fun x h => (by cases h), _, _, rfl⟩ (fun _ _ _ _ => trivial) ?_ ?_
    · rintro j d e' S'' hi2 ⟨rfl, hj, x3, x4, rfl⟩ q2 hq2 _ _ _ hxc2
      have hf := hr2 d (List.mem_of_getElem? hi2)
      simp only [gN, setV, wIf, wNot, wTest, wMeth, wCons, wNil, wVar, getV, some!]
      refine ⟨isN, n, e, d, rfl, hf.1 _, ?_⟩
      rw [eL]
      cases el : isLet L d with
      | true =>
        simp only [Bool.not_true, Bool.false_eq_true, if_false, wNext]
        exact hq2 _ _ ⟨rfl, take_one hj hi2 el, _, _, rfl⟩
      | false =>
        simp only [Bool.not_false, if_true, wRaise, wMkE, wVar, getV, some!, xcQ]
        rw [hxc2, hxc]
        exact hx d (bad_at hk hr hj hi2 el)
    · rintro e' S'' ⟨rfl, hj, x3, x4, rfl⟩
      rw [List.take_length] at hj
      exact hq _ _ ⟨rfl, all_take hk hr hj, _, _, rfl⟩
  · rintro e' S' ⟨rfl, hk, x3, x4, rfl⟩
    rw [List.length_map, List.take_length] at hk
    exact h (no_bad hk)
end K07
set_option Elab.async false
set_option linter.all false
set_option maxRecDepth 100000
set_option maxHeartbeats 1000000
namespace K07
open PySem PySem.Spec PyProof.Rows L2 DL
/-! ### stops -/
theorem stop_step {t s : Vec} {m : Nat} : (if endsF t s = true then max m s.length else m) = if (m < s.length ∧ s.length ≤ t.length) ∧ t.drop (t.length - s.length) = s then s.length else m := by
  unfold endsF
  by_cases h1 : s.length ≤ t.length
  · by_cases h2 : t.drop (t.length - s.length) = s
    · rw [decide_eq_true h1, decide_eq_true h2, Bool.and_true]
      by_cases h3 : m < s.length
      · rw [if_pos rfl, if_pos ⟨⟨h3, h1⟩, h2⟩]; omega
      · rw [if_pos rfl, if_neg (fun z => h3 z.1.1)]; omega
    · rw [decide_eq_false h2, Bool.and_false, if_neg Bool.false_ne_true, if_neg (fun z => h2 z.2)]
  · rw [decide_eq_false h1, Bool.false_and, if_neg Bool.false_ne_true, if_neg (fun z => h1 z.1.2)]
theorem stop_le (stops : List Vec) (t : Vec) : stopF stops t ≤ t.length := by
  unfold stopF
  have key : ∀ (l : List Vec) (m : Nat), m ≤ t.length → l.foldl (fun m s => if endsF t s = true then max m s.length else m) m ≤ t.length := by
    intro l
    induction l with
    | nil => exact fun m h => h
    | cons s r ih =>
      intro m hm
      refine ih _ ?_
      show (if endsF t s = true then max m s.length else m) ≤ t.length
      rw [stop_step]
      split
      · rename_i h; exact h.1.2
      · exact hm
  exact key stops 0 (Nat.zero_le _)
/-! ### the first greatest -/
theorem idx_first : ∀ {w : Vec} {b : Nat} {m : Int}, w[b]? = some m → (∀ j x, j < b → w[j]? = some x → x ≠ m) → w.idxOf m = b
  | [], b, m, h, _ => by cases h
  | x :: r, 0, m, h, _ => by
    cases h
    exact List.idxOf_cons_self
  | x :: r, b + 1, m, h, h2 => by
    have hx : x ≠ m := h2 0 x (Nat.succ_pos _) rfl
    rw [List.idxOf_cons, show (x == m) = false by simpa using hx, cond_false]
    congr 1
    exact idx_first (w := r) h fun j y hj hy => h2 (j + 1) y (Nat.succ_lt_succ hj) hy
theorem top_fold {ns : Vec} (h : ns ≠ []) (h0 : ∀ x, x ∈ ns → 0 ≤ x) {m : Int} (h1 : m ∈ ns) (h2 : ∀ y, y ∈ ns → y ≤ m) : m = ns.foldl max 0 := by
  obtain ⟨a, b⟩ := DL.fold_max ns 0
  have c := b m (List.mem_cons_of_mem _ h1)
  rcases List.mem_cons.mp a with z | z
  · have := h0 m h1; omega
  · have := h2 _ z; omega
theorem top_is {w : Vec} {b : Nat} {m : Int} (h0 : ∀ x, x ∈ w → 0 ≤ x) (hb : w[b]? = some m) (h : ∀ (j : Nat) x, w[j]? = some x → x ≤ m ∧ (j < b → x < m)) : topF w = (b : Int) := by
  unfold topF
  have hm := List.mem_of_getElem? hb
  rw [← top_fold (List.ne_nil_of_mem hm) h0 hm (fun y hy => by
    obtain ⟨j, hj⟩ := List.mem_iff_getElem?.mp hy
    exact (h j y hj).1)]
  rw [idx_first hb fun j x hj hx => by have := (h j x hx).2 hj; omega]
theorem top_at {w : Vec} (h0 : ∀ x, x ∈ w → 0 ≤ x) (hne : w ≠ []) : ∃ (b : Nat) (m : Int), w[b]? = some m ∧ (∀ (j : Nat) x, w[j]? = some x → x ≤ m ∧ (j < b → x < m)) := by
  have key : ∀ k, 0 < k → k ≤ w.length → ∃ (b : Nat) (m : Int), b < k ∧ w[b]? = some m ∧ (∀ (j : Nat) x, j < k → w[j]? = some x → x ≤ m ∧ (j < b → x < m)) := by
    intro k
    induction k with
    | zero => intro h; omega
    | succ k ih =>
      intro _ hk
      obtain ⟨y, hy⟩ : ∃ y, w[k]? = some y := ⟨_, List.getElem?_eq_getElem (by omega)⟩
      by_cases z : k = 0
      · subst z
        exact ⟨0, y, by omega, hy, fun j x hj hx => by
          have : j = 0 := by omega
          subst this
          rw [hy] at hx; cases hx
          exact ⟨Int.le_refl _, fun h => by omega⟩⟩
      · obtain ⟨b, m, h1, h2, h3⟩ := ih (by omega) (by omega)
        by_cases q : m < y
        · exact ⟨k, y, by omega, hy, fun j x hj hx => by
            by_cases e : j = k
            · subst e; rw [hy] at hx; cases hx; exact ⟨Int.le_refl _, fun h => by omega⟩
            · have := (h3 j x (by omega) hx).1
              exact ⟨by omega, fun _ => by omega⟩⟩
        · exact ⟨b, m, by omega, h2, fun j x hj hx => by
            by_cases e : j = k
            · subst e; rw [hy] at hx; cases hx; exact ⟨by omega, fun h => by omega⟩
            · exact h3 j x (by omega) hx⟩
  obtain ⟨b, m, h1, h2, h3⟩ := key w.length (List.length_pos_iff.mpr hne) (Nat.le_refl _)
  exact ⟨b, m, h2, fun j x hx => h3 j x (lt_of_some hx) hx⟩
/-! ### by a number -/
theorem sum_nn : ∀ {w : Vec}, (∀ x, x ∈ w → 0 ≤ x) → 0 ≤ w.sum
  | [], _ => Int.le_refl _
  | x :: r, h => by
    have := h x List.mem_cons_self
    have := sum_nn (w := r) fun y hy => h y (List.mem_cons_of_mem _ hy)
    rw [List.sum_cons]; omega
theorem goB_lt : ∀ {w : Vec} {r : Int}, (∀ x, x ∈ w → 0 ≤ x) → r < w.sum → 0 ≤ r → goB w r < w.length
  | [], r, _, h, h0 => by simp at h; omega
  | x :: s, r, h, hs, h0 => by
    unfold goB
    rw [List.sum_cons] at hs
    rw [List.length_cons]
    by_cases z : x ≤ r
    · rw [if_pos z]
      have := goB_lt (w := s) (r := r - x) (fun y hy => h y (List.mem_cons_of_mem _ hy)) (by omega) (by omega)
      omega
    · rw [if_neg z]; omega
theorem goB_le : ∀ {w : Vec} {r : Int} {j : Nat}, (∀ x, x ∈ w → 0 ≤ x) → 0 ≤ r → j ≤ w.length → ((w.take j).sum ≤ r ↔ j ≤ goB w r)
  | w, r, 0, _, h0, _ => by simp; exact h0
  | [], r, j + 1, _, h0, hj => by simp at hj
  | x :: s, r, j + 1, h, h0, hj => by
    have hs := fun y hy => h y (List.mem_cons_of_mem x hy)
    unfold goB
    rw [List.take_succ_cons, List.sum_cons]
    rw [List.length_cons] at hj
    by_cases z : x ≤ r
    · rw [if_pos z]
      have := goB_le (w := s) (r := r - x) (j := j) hs (by omega) (by omega)
      constructor
      · intro q
        have := this.mp (by omega)
        omega
      · intro q
        have := this.mpr (by omega)
        omega
    · rw [if_neg z]
      have := sum_nn (w := s.take j) fun y hy => hs y (List.mem_of_mem_take hy)
      constructor
      · intro q; omega
      · intro q; omega
/-! ### letters that are let -/
theorem let_len {r : Option RuleV} {w t : Vec} : (letF r w t).length = w.length := by
  cases r with
  | none => rfl
  | some r => unfold letF; rw [List.length_map, List.length_zipIdx]
theorem let_get {r : RuleV} {w t : Vec} {i : Nat} {x : Int} (h : w[i]? = some x) : (letF (some r) w t)[i]? = some (if (afterF r (t ++ [(i : Int)])).isSome = true then x else 0) := by
  unfold letF
  rw [List.getElem?_map, List.getElem?_zipIdx, h]
  simp
theorem let_ok {r : Option RuleV} {L : Nat} {w t : Vec} (h : WtOk L w) : WtOk L (letF r w t) := by
  refine ⟨by rw [let_len]; exact h.1, fun x hx => ?_⟩
  cases r with
  | none => exact h.2 x hx
  | some r =>
    unfold letF at hx
    obtain ⟨p, hp, rfl⟩ := List.mem_map.mp hx
    have := h.2 p.1 (by
      obtain ⟨i, hi⟩ := List.mem_iff_getElem?.mp hp
      rw [List.getElem?_zipIdx] at hi
      obtain ⟨y, hy, rfl⟩ := Option.map_eq_some_iff.mp hi
      exact List.mem_of_getElem? hy)
    split
    · exact this
    · omega
theorem choice_ok {a : AskV} {L : Nat} {w t : Vec} {l : Int} (h : WtOk L w) (hc : choiceF a w t = some l) : 0 ≤ l ∧ l < (L : Int) := by
  have hw := let_ok (r := a.rule) (t := t) h
  have h0 : ∀ x, x ∈ letF a.rule w t → 0 ≤ x := fun x hx => (hw.2 x hx).1
  unfold choiceF at hc
  dsimp only at hc
  by_cases z : (letF a.rule w t).sum = 0
  · rw [if_pos z] at hc; cases hc
  rw [if_neg z] at hc
  have hpos : 0 < (letF a.rule w t).sum := by have := sum_nn h0; omega
  have hne : letF a.rule w t ≠ [] := fun q => by rw [q] at z; exact z rfl
  by_cases y : a.tape = []
  · rw [if_pos y] at hc
    cases hc
    obtain ⟨b, m, h1, h2⟩ := top_at h0 hne
    rw [top_is h0 h1 h2]
    have := lt_of_some h1
    rw [hw.1] at this
    omega
  · rw [if_neg y] at hc
    cases hc
    unfold byF
    have := goB_lt (r := (a.tape.getD (t.length % a.tape.length) 0) % (letF a.rule w t).sum) h0 (Int.emod_lt_of_pos _ hpos) (Int.emod_nonneg _ (by omega))
    rw [hw.1] at this
    omega
theorem next_none {e : Option Int} {a : AskV} {t w : Vec} (h : (nextF e a t w).2 = none) : ∃ l, choiceF a w t = some l ∧ (nextF e a t w).1 = t ++ [l] ∧ ((t.length : Int) + 1 ≠ a.most) := by
  unfold nextF at h ⊢
  cases hc : choiceF a w t with
  | none => rw [hc] at h; cases h
  | some l =>
    rw [hc] at h
    dsimp only at h ⊢
    by_cases z : some l = e
    · rw [if_pos z] at h; cases h
    rw [if_neg z] at h ⊢
    by_cases y : 0 < stopF a.stops (t ++ [l])
    · rw [if_pos y] at h; cases h
    rw [if_neg y] at h ⊢
    dsimp only at h ⊢
    refine ⟨l, rfl, rfl, fun q => ?_⟩
    rw [if_pos (by rw [List.length_append]; show ((t.length + 1 : Nat) : Int) = _; omega)] at h
    cases h
theorem lets_snoc {L : Nat} {t : Vec} {l : Int} (h : LetsOk L t) (hl : 0 ≤ l ∧ l < (L : Int)) : LetsOk L (t ++ [l]) := fun x hx => by
  rcases List.mem_append.mp hx with z | z
  · exact h x z
  · rw [List.mem_singleton] at z; subst z; exact hl
theorem wts_ok {w L : Nat} {n : NetV} {ls : Vec} {r : Rw} (hn : NetOk w L n) (hl : LetsOk L ls) (h50 : ls.length ≤ 100) (h : (rowsF n ls).getLast? = some r) : WtOk L r.wts := by
  have := rowsF_ok hn hl h50 ls.length
  rw [List.take_length] at this
  have hr := this.2 r (List.mem_of_getLast? h)
  exact ⟨hr.wt.1, fun x hx => by have := hr.wt.2 x hx; omega⟩
theorem last_some {n : NetV} {ls : Vec} (h : ls ≠ []) : ∃ r, (rowsF n ls).getLast? = some r := by
  cases e : (rowsF n ls).getLast? with
  | some r => exact ⟨r, rfl⟩
  | none =>
    have := List.getLast?_eq_none_iff.mp e
    have l := rowsF_len n ls
    rw [this] at l
    exact absurd (List.eq_nil_of_length_eq_zero l.symm) h
/-- the walk ends -/
theorem walk_end {w L : Nat} {n : NetV} {e : Option Int} {a : AskV} (hn : NetOk w L n) (ha : AskOk L a) : ∀ (k : Nat) (t : Vec), LetsOk L t → (t.length : Int) + (k : Int) ≥ a.most → (t.length : Int) < a.most → ∃ r, walkF n e a k t = some r
  | 0, t, _, h1, h2 => by omega
  | k + 1, t, ht, h1, h2 => by
    unfold walkF
    cases hx : nextF e a t (wtsF n a t) with
    | mk t' wd =>
      cases wd with
      | some x => exact ⟨_, rfl⟩
      | none =>
        obtain ⟨l, hc, e1, hne⟩ := next_none (e := e) (a := a) (t := t) (w := wtsF n a t) (by rw [hx])
        rw [hx] at e1
        dsimp only at e1
        subst e1
        have hp : LetsOk L (a.prompt ++ t) := fun x hx => by
          rcases List.mem_append.mp hx with z | z
          · exact ha.pr.1 x z
          · exact ht x z
        have hne2 : a.prompt ++ t ≠ [] := fun z => by have := ha.pr.2.1; rw [(List.append_eq_nil_iff.mp z).1] at this; simp at this
        obtain ⟨r, hr⟩ := last_some (n := n) hne2
        have hw : WtOk L (wtsF n a t) := by
          unfold wtsF; rw [hr]
          exact wts_ok hn hp (by rw [List.length_append]; have := ha.pr.2.2; have := ha.mo; omega) hr
        have hl := choice_ok hw hc
        refine walk_end hn ha k _ (lets_snoc ht hl) ?_ ?_
        · rw [List.length_append]; show ((t.length + 1 : Nat) : Int) + _ ≥ _; omega
        · rw [List.length_append]; show ((t.length + 1 : Nat) : Int) < _; omega
end K07
set_option Elab.async false
set_option linter.all false
set_option maxRecDepth 100000
set_option maxHeartbeats 1000000
namespace K07
open PySem PySem.Spec PyProof.Rows L2 DL
theorem isR {c : Cl} {r : RuleV} {S : Sto} : isIns c.Rule N_Rule S (dRule c r) := ⟨rfl, rfl⟩
theorem isA {c : Cl} {a : AskV} {S : Sto} : isIns c.Ask N_Ask S (dAsk c a) := ⟨rfl, rfl⟩
theorem len_stop_length (c : Cl) : ∀ ds S Q E, sp_stop_length c ds S Q E → ds.length = 2 := by
  rintro ds S Q E ⟨_, _, rfl, _⟩; rfl
theorem dropI {t : Vec} {n : Nat} (h : n ≤ t.length) : cutI t (some ((t.length : Int) - (n : Int))) none = t.drop (t.length - n) := by
  rw [cutI_from (by omega)]
  congr 1; omega
theorem rd_stop_length (c : Cl) : ∀ ds S Q X1, sp_stop_length c ds S Q X1 → w_stop_length c (startD N_stop_length_ ds) S (endQ Q X1) := by
  rintro ds S Q X1 ⟨stops, t, rfl, h⟩
  show w_stop_length c [some (.tup (stops.map dT)), some (dT t), none, none] S (endQ Q X1)
  unfold w_stop_length
  refine seq_k fun q1 n1 r1 _ _ x1 => ?_
  simp only [wSet, wC, setV]
  refine n1 _ _ ?_
  refine seq_k fun q1 n1 r1 _ _ x1 => ?_
  simp only [wFor, wIt, wVar, getV, some!, seqA]
  refine forI_invq (fun k e S' => S' = S ∧ ∃ x3, e = [some (.tup (stops.map dT)), some (dT t), some (.int ((stops.take k).foldl (fun m s => if endsF t s = true then max m s.length else m) 0 : Nat)), x3]) ⟨rfl, _, rfl⟩ (fun _ _ _ _ => trivial) ?_ ?_
  · rintro k d e S' hi ⟨rfl, x3, rfl⟩ q hq _ _ _ _
    rw [List.getElem?_map] at hi
    obtain ⟨s, hs, rfl⟩ := Option.map_eq_some_iff.mp hi
    have key : ∀ (m' : Nat), m' = (stops.take (k + 1)).foldl (fun m s => if endsF t s = true then max m s.length else m) 0 → q.nx [some (.tup (stops.map dT)), some (dT t), some (.int (m' : Nat)), some (dT s)] S' := fun m' e => hq _ _ ⟨rfl, some (dT s), by rw [e]⟩
    have es : (stops.take (k + 1)).foldl (fun m s => if endsF t s = true then max m s.length else m) 0 = if endsF t s = true then max ((stops.take k).foldl (fun m s => if endsF t s = true then max m s.length else m) 0) s.length else (stops.take k).foldl (fun m s => if endsF t s = true then max m s.length else m) 0 := fold_snoc hs
    rw [es, ] at key
    generalize (stops.take k).foldl (fun m s => if endsF t s = true then max m s.length else m) 0 = m at key
    rw [stop_step] at key
    simp only [gN, setV, wIf, wAnd, wTest, wChain, wBin, wCB, wCons, wNil, wSl, wP, wNoP, wVar, getV, some!, oLen, one, dT, seqA, seqL, seqM, List.length_map, oLt, oLe, oSub, oI0, asI, oSl, decide_eq_true_eq]
    by_cases h1 : (m : Int) < (s.length : Int)
    · rw [if_pos h1]
      by_cases h2 : (s.length : Int) ≤ (t.length : Int)
      · rw [if_pos h2]
        simp only [cutD_int, oEq, shD_tup, eqD_tup, true_and, decide_eq_true_eq]
        rw [dropI (by omega)]
        by_cases h3 : t.drop (t.length - s.length) = s
        · rw [if_pos h3]
          simp only [wSet, wCB, wCons, wNil, wVar, getV, setV, some!, oLen, one, seqA, seqL, seqM, List.length_map]
          exact key _ (by rw [if_pos ⟨⟨by omega, by omega⟩, h3⟩])
        · rw [if_neg h3]
          exact key _ (by rw [if_neg fun z => h3 z.2])
      · rw [if_neg h2]
        exact key _ (by rw [if_neg fun z => h2 (by have := z.1.2; omega)])
    · rw [if_neg h1]
      simp only [Bool.false_eq_true, if_false]
      exact key _ (by rw [if_neg fun z => h1 (by have := z.1.1; omega)])
  · rintro e S' ⟨rfl, x3, rfl⟩
    refine n1 _ _ ?_
    rw [List.length_map, List.take_length]
    simp only [wRet, wVar, getV, some!]
    exact h
theorem len_greatest (c : Cl) : ∀ ds S Q E, sp_greatest c ds S Q E → ds.length = 1 := by
  rintro ds S Q E ⟨_, rfl, _⟩; rfl
theorem rd_greatest (c : Cl) : ∀ ds S Q X1, sp_greatest c ds S Q X1 → w_greatest c (startD N_greatest_ ds) S (endQ Q X1) := by
  rintro ds S Q X1 ⟨w, rfl, hne, h0, h⟩
  show w_greatest c [some (dT w), none, none, none] S (endQ Q X1)
  unfold w_greatest
  refine seq_k fun q1 n1 r1 _ _ x1 => ?_
  simp only [wSet, wC, setV]
  refine n1 _ _ ?_
  refine seq_k fun q1 n1 r1 _ _ x1 => ?_
  simp only [wFor, wEnum, wVar, getV, some!, dT, seqA]
  have hl := List.length_pos_iff.mpr hne
  refine forI_invq (fun k e S' => S' = S ∧ ∃ (b : Nat) (m : Int) (x2 x3 : Option D), w[b]? = some m ∧ (∀ (j : Nat) x, j < k → w[j]? = some x → x ≤ m ∧ (j < b → x < m)) ∧ (b < k ∨ b = 0) ∧ e = [some (.tup (w.map D.int)), some (.int (b : Nat)), x2, x3]) ⟨rfl, 0, _, none, none, List.getElem?_eq_getElem hl, fun j x hj => by omega, .inr rfl, rfl⟩ (fun _ _ _ _ => trivial) ?_ ?_
  · rintro k d e S' hi ⟨rfl, b, m, x2, x3, hb, hall, hbk, rfl⟩ q hq _ _ _ _
    obtain ⟨y, hy, rfl⟩ := enumD_get hi
    rw [List.getElem?_map] at hy
    obtain ⟨v, hv, rfl⟩ := Option.map_eq_some_iff.mp hy
    have a1 := fun Q => oIx_eq (S := S') (x := .tup (w.map D.int)) (i := (b : Int)) rfl (at_k (by rw [List.getElem?_map, hb]; rfl)) Q
    simp only [gT, gAll, gN, setV, Nat.zero_add]
    refine ⟨rfl, ?_⟩
    simp only [wIf, wTest, wBin, wVar, getV, some!, a1, oGt, oI0, decide_eq_true_eq]
    by_cases z : m < v
    · rw [if_pos z]
      simp only [wSet, wVar, getV, setV, some!]
      refine hq _ _ ⟨rfl, k, v, _, _, hv, fun j x hj hx => ?_, .inl (by omega), rfl⟩
      by_cases ej : j = k
      · subst ej; rw [hv] at hx; cases hx; exact ⟨Int.le_refl _, fun q => by omega⟩
      · have := (hall j x (by omega) hx).1
        exact ⟨by omega, fun _ => by omega⟩
    · rw [if_neg z]
      refine hq _ _ ⟨rfl, b, m, _, _, hb, fun j x hj hx => ?_, by omega, rfl⟩
      by_cases ej : j = k
      · subst ej; rw [hv] at hx; cases hx
        refine ⟨by omega, fun q => ?_⟩
        rcases hbk with r | r <;> omega
      · exact hall j x (by omega) hx
  · rintro e S' ⟨rfl, b, m, x2, x3, hb, hall, hbk, rfl⟩
    rw [enumD_length, List.length_map] at hall
    refine n1 _ _ ?_
    simp only [wRet, wVar, getV, some!]
    rw [← top_is h0 hb fun j x hx => hall j x (lt_of_some hx) hx]
    exact h
theorem len_by_number (c : Cl) : ∀ ds S Q E, sp_by_number c ds S Q E → ds.length = 2 := by
  rintro ds S Q E ⟨_, _, rfl, _⟩; rfl
theorem rd_by_number (c : Cl) : ∀ ds S Q X1, sp_by_number c ds S Q X1 → w_by_number c (startD N_by_number_ ds) S (endQ Q X1) := by
  rintro ds S Q X1 ⟨w, n, rfl, h0, hs, h⟩
  show w_by_number c [some (dT w), some (.int n), none, none] S (endQ Q X1)
  unfold w_by_number
  refine seq_k fun q1 n1 r1 _ _ x1 => ?_
  simp only [wSet, wBin, wCB, wCons, wNil, wVar, getV, setV, some!, oInt, oSumA, one, dT, seqA, toInts_map, oMod, oI]
  refine ⟨hs, n1 _ _ ?_⟩
  have hr := Int.emod_nonneg n (show w.sum ≠ 0 by omega)
  have hr2 := Int.emod_lt_of_pos n hs
  unfold byF at h
  generalize n % w.sum = r at hr hr2 h
  refine seq_k fun q1 n1 r1 _ _ x1 => ?_
  simp only [wSet, wC, setV]
  refine n1 _ _ ?_
  refine seq_k fun q1 n1 r1 _ _ x1 => ?_
  refine ⟨fun m e S' => S' = S ∧ ∃ (k : Nat) (left : Int), m = w.length - k ∧ goB w r = goB (w.drop k) left + k ∧ 0 ≤ left ∧ left < (w.drop k).sum ∧ e = [some (.tup (w.map D.int)), some (.int n), some (.int left), some (.int (k : Nat))], ⟨w.length, rfl, 0, r, rfl, rfl, hr, hr2, rfl⟩, ?_⟩
  rintro m e S' ⟨rfl, k, left, em, hg, l0, l1, rfl⟩
  have hk : k < w.length := by
    refine Classical.byContradiction fun z => ?_
    rw [List.drop_of_length_le (by omega)] at l1
    simp at l1; omega
  obtain ⟨v, hv⟩ : ∃ v, w[k]? = some v := ⟨_, List.getElem?_eq_getElem hk⟩
  have ed : w.drop k = v :: w.drop (k + 1) := by
    rw [List.drop_eq_getElem_cons hk]
    obtain ⟨_, e⟩ := List.getElem?_eq_some_iff.mp hv
    rw [e]
  rw [ed] at hg l1
  rw [List.sum_cons] at l1
  have a1 := fun Q => oIx_eq (S := S') (x := .tup (w.map D.int)) (i := (k : Int)) rfl (at_k (by rw [List.getElem?_map, hv]; rfl)) Q
  simp only [wTest, wBin, wVar, getV, some!, a1, oGe, oI0, decide_eq_true_eq]
  rw [show goB (v :: w.drop (k + 1)) left = if v ≤ left then goB (w.drop (k + 1)) (left - v) + 1 else 0 from rfl] at hg
  by_cases z : v ≤ left
  · rw [if_pos z] at hg ⊢
    simp only [wSeq, wAug, wBin, wVar, wC, getV, setV, some!, a1, oSub, oI0]
    exact ⟨w.length - (k + 1), by omega, trivial, k + 1, left - v, rfl, by rw [hg]; omega, by omega, by omega, rfl⟩
  · rw [if_neg z] at hg ⊢
    refine n1 _ _ ?_
    simp only [wRet, wVar, getV, some!]
    rw [hg, Nat.zero_add] at h
    exact h
theorem fold_none {r : RuleV} : ∀ t : Vec, t.foldl (stepR r) none = none
  | [] => rfl
  | _ :: t => fold_none t
theorem len_Rule_after (c : Cl) : ∀ ds S Q E, sp_Rule_after c ds S Q E → ds.length = 2 := by
  rintro ds S Q E ⟨_, _, _, rfl, _⟩; rfl
/-- a step of a rule -/
theorem step_at {c : Cl} {r : RuleV} {L : Nat} {i l : Int} {S : Sto} (hr : RuleOk L r) (hi : 0 ≤ i ∧ i < r.steps.length) (hl : 0 ≤ l ∧ l < (L : Int)) : ∃ (row : List (Option Int)) (o : Option Int), atI (r.steps.map fun r => D.tup (r.map dO)) i = some (.tup (row.map dO)) ∧ atI (row.map dO) l = some (dO o) ∧ stepR r (some i) l = o ∧ (∀ j, o = some j → 0 ≤ j ∧ j < r.steps.length) := by
  obtain ⟨row, hrow⟩ : ∃ row, r.steps[i.toNat]? = some row := ⟨_, List.getElem?_eq_getElem (by omega)⟩
  have hro := hr.ro row (List.mem_of_getElem? hrow)
  obtain ⟨o, ho⟩ : ∃ o, row[l.toNat]? = some o := ⟨_, List.getElem?_eq_getElem (by omega)⟩
  refine ⟨row, o, at_z hi.1 (by rw [List.getElem?_map, hrow]; rfl), at_z hl.1 (by rw [List.getElem?_map, ho]; rfl), ?_, fun j hj => ?_⟩
  · show ((r.steps.getD i.toNat []).getD l.toNat none) = o
    rw [List.getD_eq_getElem?_getD, List.getD_eq_getElem?_getD, hrow]
    show (row[l.toNat]?).getD none = o
    rw [ho]; rfl
  · rw [hj] at ho
    exact hro.2 j (List.mem_of_getElem? ho)
theorem rd_Rule_after (c : Cl) : ∀ ds S Q X1, sp_Rule_after c ds S Q X1 → w_Rule_after c (startD N_Rule_after_ ds) S (endQ Q X1) := by
  rintro ds S Q X1 ⟨r, L, t, rfl, hr, ht, h⟩
  show w_Rule_after c [some (dRule c r), some (dT t), none, none] S (endQ Q X1)
  unfold w_Rule_after
  refine seq_k fun q1 n1 r1 _ _ x1 => ?_
  simp only [wSet, wFld, wVar, getV, setV, some!, fldD, dRule, true_and, List.getElem?_cons_zero]
  refine n1 _ _ ?_
  refine seq_k fun q1 n1 r1 _ _ x1 => ?_
  simp only [wFor, wIt, wVar, getV, some!, dT, seqA]
  refine forI_invq (fun k e S' => S' = S ∧ ∃ (o : Option Int) (x3 : Option D), o = (t.take k).foldl (stepR r) (some r.start) ∧ (∀ j, o = some j → 0 ≤ j ∧ j < (r.steps.length : Int)) ∧ e = [some (dRule c r), some (.tup (t.map D.int)), some (dO o), x3]) ⟨rfl, some r.start, none, rfl, fun j hj => by cases hj; exact hr.s0, rfl⟩ (fun _ _ _ _ => trivial) ?_ ?_
  · rintro k d e S' hi ⟨rfl, o, x3, eo, hb, rfl⟩ q hq hrt _ _ _
    rw [List.getElem?_map] at hi
    obtain ⟨l, hl, rfl⟩ := Option.map_eq_some_iff.mp hi
    simp only [gN, setV]
    refine seq_k fun q1 n1 r2 _ _ x1 => ?_
    cases o with
    | none =>
      simp only [wIf, wTest, wBin, wVar, wC, getV, some!, oIsN, isNon, dO, if_true, wRet]
      rw [r2, hrt, r1]
      have : afterF r t = none := by
        have e : t = t.take k ++ t.drop k := (List.take_append_drop k t).symm
        unfold afterF
        rw [e, List.foldl_append, ← eo]
        exact fold_none _
      rw [this] at h
      exact h
    | some i =>
      simp only [wIf, wTest, wBin, wVar, wC, getV, some!, oIsN, isNon, dO, Bool.false_eq_true, if_false, wNext]
      refine n1 _ _ ?_
      obtain ⟨row, o2, g1, g2, g3, g4⟩ := step_at (c := c) (S := S') hr (hb i rfl) (ht l (List.mem_of_getElem? hl))
      have a1 := fun Q => oIx_eq (S := S') (x := dSteps r.steps) (i := i) rfl g1 Q
      have a2 := fun Q => oIx_eq (S := S') (x := .tup (row.map dO)) (i := l) rfl g2 Q
      simp only [wSet, wBin, wFld, wVar, getV, setV, some!, fldD, dRule, true_and, List.getElem?_cons_zero, List.getElem?_cons_succ, a1, a2]
      refine hq _ _ ⟨rfl, o2, _, ?_, g4, rfl⟩
      rw [fold_snoc hl, ← eo, g3]
  · rintro e S' ⟨rfl, o, x3, eo, hb, rfl⟩
    rw [List.length_map, List.take_length] at eo
    refine n1 _ _ ?_
    simp only [wRet, wVar, getV, some!]
    rw [eo]
    exact h
theorem len_Rule_lets (c : Cl) : ∀ ds S Q E, sp_Rule_lets c ds S Q E → ds.length = 3 := by
  rintro ds S Q E ⟨_, _, _, _, rfl, _⟩; rfl
theorem non_dO {o : Option Int} : (!isNon (dO o)) = o.isSome := by cases o <;> rfl
theorem rd_Rule_lets (c : Cl) : ∀ ds S Q X1, sp_Rule_lets c ds S Q X1 → w_Rule_lets c (startD N_Rule_lets_ ds) S (endQ Q X1) := by
  rintro ds S Q X1 ⟨r, L, t, l, rfl, hr, ht, hl, h1000, h⟩
  show w_Rule_lets c [some (dRule c r), some (dT t), some (.int l)] S (endQ Q X1)
  unfold w_Rule_lets
  simp only [wRet, wBin, wMeth, wCB, wTup, wCons, wNil, wVar, wC, getV, some!, oTuple, one, dT, seqA, oAdd, List.length_map]
  refine ⟨isR, z1, by show _ + 1 ≤ _; unfold sizeLine; omega, r, L, t ++ [l], by rw [dT, List.map_append]; rfl, hr, lets_snoc ht hl, ?_⟩
  simp only [oNotN, non_dO]
  exact h
theorem len_Rule_init (c : Cl) : ∀ ds S Q E, sp_Rule_init c ds S Q E → ds.length = 3 := by
  rintro ds S Q E ⟨_, _, _, _, rfl, _⟩; rfl
theorem rd_Rule_init (c : Cl) : ∀ ds S Q X1, sp_Rule_init c ds S Q X1 → w_Rule_init c (startD N_Rule_init_ ds) S (endQ Q X1) := by
  rintro ds S Q X1 ⟨a, i, b, s, rfl, hs, h0, h⟩
  show w_Rule_init c [some (.ref a), some (.int i), some (dStepsL b s), none] S (endQ Q X1)
  unfold w_Rule_init
  refine seq_k fun q1 n1 r1 _ _ x1 => ?_
  simp only [wSetF, wVar, getV, some!]
  refine setD_at h0 (n1 _ _ ?_)
  simp only [wSetF, wCB, wCons, wNil, wLc, wIt, wVar, getV, some!, dStepsL, seqA_dS, delVs, delV, List.length_map]
  refine ⟨by unfold sizeLine; omega, compI_vals s (fun r => dS b (r.map dO)) (fun r => .tup (r.map dO)) trivial (fun r hr R hR => ?_) ?_⟩
  · simp only [gN, setV, wCB, wCons, wNil, wVar, getV, some!, oTuple_S]
    exact hR
  simp only [oTuple, one, seqA, seqL, seqM, some!]
  refine setD_at put_same ?_
  rw [put_put]
  exact h
end K07
set_option Elab.async false
set_option linter.all false
set_option maxRecDepth 100000
set_option maxHeartbeats 1000000
namespace K07
open PySem PySem.Spec PyProof.Rows L2 DL
theorem enum_zip : ∀ (w : List D) (j : Nat), enumD j w = (w.zipIdx j).map fun p => .tup [.int (p.2 : Nat), p.1]
  | [], _ => rfl
  | x :: r, j => by
    show _ :: enumD (j + 1) r = _
    rw [enum_zip r (j + 1), List.zipIdx_cons, List.map_cons]
theorem enum_ints (w : Vec) : enumD 0 (w.map D.int) = w.zipIdx.map fun p => .tup [.int (p.2 : Nat), .int p.1] := by
  rw [enum_zip, List.zipIdx_map, List.map_map]
  rfl
theorem zip_idx {w : Vec} {p : Int × Nat} (h : p ∈ w.zipIdx) : w[p.2]? = some p.1 := by
  obtain ⟨i, hi⟩ := List.mem_iff_getElem?.mp h
  rw [List.getElem?_zipIdx] at hi
  obtain ⟨y, hy, rfl⟩ := Option.map_eq_some_iff.mp hi
  simpa using hy
theorem len_Ask_let_weights (c : Cl) : ∀ ds S Q E, sp_Ask_let_weights c ds S Q E → ds.length = 3 := by
  rintro ds S Q E ⟨_, _, _, _, rfl, _⟩; rfl
theorem rd_Ask_let_weights (c : Cl) : ∀ ds S Q X1, sp_Ask_let_weights c ds S Q X1 → w_Ask_let_weights c (startD N_Ask_let_weights_ ds) S (endQ Q X1) := by
  rintro ds S Q X1 ⟨a, L, w, t, rfl, ha, hw, hL, ht, h1000, h⟩
  show w_Ask_let_weights c [some (dAsk c a), some (dT w), some (dT t), none, none] S (endQ Q X1)
  unfold w_Ask_let_weights
  refine seq_k fun q1 n1 r1 _ _ x1 => ?_
  simp only [wIf, wTest, wBin, wFld, wVar, wC, getV, some!, fldD, dAsk, true_and, askF, List.getElem?_cons_zero, List.getElem?_cons_succ, oIsN]
  cases er : a.rule with
  | none =>
    rw [er] at h
    simp only [dRuleO, isNon, if_true, wRet, wCB, wCons, wNil, wVar, getV, some!, oTuple, one, dT, seqA, r1]
    exact h
  | some r =>
    rw [er] at h
    have hr := ha.ru r er
    simp only [dRuleO, dRule, isNon, Bool.false_eq_true, if_false, wNext]
    refine n1 _ _ ?_
    simp only [wRet, wCB, wCons, wNil, wLc, wEnum, wVar, getV, some!, dT, seqA, delVs, delV]
    refine ⟨by rw [enumD_length, List.length_map, hw.1]; unfold sizeLine; omega, ?_⟩
    rw [enum_ints]
    refine compI_vals w.zipIdx (fun p => .tup [.int (p.2 : Nat), .int p.1]) (fun p => .int (if (afterF r (t ++ [(p.2 : Int)])).isSome = true then p.1 else 0)) trivial (fun p hp R hR => ?_) ?_
    · have hi := zip_idx hp
      have hlt := lt_of_some hi
      have hx := hw.2 _ (List.mem_of_getElem? hi)
      simp only [gT, gAll, gN, setV]
      refine ⟨rfl, ?_⟩
      simp only [wBin, wCB, wMeth, wCons, wNil, wFld, wVar, getV, some!, fldD, dAsk, true_and, askF, List.getElem?_cons_zero, List.getElem?_cons_succ, er, dRuleO]
      refine ⟨⟨rfl, rfl⟩, r, L, t, (p.2 : Int), rfl, hr, ht, by rw [hw.1] at hlt; omega, h1000, ?_⟩
      simp only [oInt, one, oMul, oI]
      by_cases z : (afterF r (t ++ [(p.2 : Int)])).isSome = true
      · rw [if_pos z] at hR ⊢
        rw [Int.mul_one]
        exact ⟨mulw ⟨hx.1, by omega⟩ (by decide), hR⟩
      · rw [if_neg z] at hR ⊢
        rw [Int.mul_zero]
        exact ⟨mulw ⟨hx.1, by omega⟩ (by decide), hR⟩
    · simp only [oTuple, one, seqA, seqL, seqM, some!]
      have e : w.zipIdx.map (fun p => D.int (if (afterF r (t ++ [(p.2 : Int)])).isSome = true then p.1 else 0)) = (letF (some r) w t).map D.int := by unfold letF; rw [List.map_map]; rfl
      rw [e]
      exact h
theorem len_Ask_choice (c : Cl) : ∀ ds S Q E, sp_Ask_choice c ds S Q E → ds.length = 3 := by
  rintro ds S Q E ⟨_, _, _, _, rfl, _⟩; rfl
theorem rd_Ask_choice (c : Cl) : ∀ ds S Q X1, sp_Ask_choice c ds S Q X1 → w_Ask_choice c (startD N_Ask_choice_ ds) S (endQ Q X1) := by
  rintro ds S Q X1 ⟨a, L, w, t, rfl, ha, hw, hL, ht, h1000, h⟩
  show w_Ask_choice c [some (dAsk c a), some (dT w), some (dT t), none] S (endQ Q X1)
  unfold w_Ask_choice
  refine seq_k fun q1 n1 r1 _ _ x1 => ?_
  simp only [wSet, wMeth, wCons, wNil, wVar, getV, setV, some!]
  refine ⟨isA, a, L, w, t, rfl, ha, hw, hL, ht, h1000, n1 _ _ ?_⟩
  have hl := let_ok (r := a.rule) (t := t) hw
  unfold choiceF at h
  dsimp only at h
  generalize letF a.rule w t = lt at hl h
  have h0 : ∀ x, x ∈ lt → 0 ≤ x := fun x hx => (hl.2 x hx).1
  refine seq_k fun q1 n1 r1 _ _ x1 => ?_
  simp only [wIf, wTest, wBin, wCB, wCons, wNil, wVar, wC, getV, some!, oSumA, one, dT, seqA, toInts_map, oEq, shD_int, eqD_int, true_and, decide_eq_true_eq]
  by_cases z : lt.sum = 0
  · rw [if_pos z] at h ⊢
    simp only [wRet, wC]
    rw [r1]
    exact h
  rw [if_neg z] at h ⊢
  refine n1 _ _ ?_
  have hpos : 0 < lt.sum := by have := sum_nn h0; omega
  have hne : lt ≠ [] := fun q => by rw [q] at z; exact z rfl
  refine seq_k fun q1 n1 r1 _ _ x1 => ?_
  simp only [wIf, wTest, wBin, wCB, wCons, wNil, wFld, wVar, wC, getV, some!, fldD, dAsk, true_and, askF, List.getElem?_cons_zero, List.getElem?_cons_succ, oLen, one, dT, seqA, seqL, seqM, List.length_map, oEq, shD_int, eqD_int, decide_eq_true_eq]
  by_cases y : a.tape = []
  · rw [if_pos y] at h
    rw [if_pos (by rw [y]; rfl)]
    simp only [wRet, wCall, wCons, wNil, wVar, getV, some!, r1]
    exact ⟨lt, rfl, hne, h0, h⟩
  · rw [if_neg y] at h
    have hlen := List.length_pos_iff.mpr y
    rw [if_neg (by omega)]
    refine n1 _ _ ?_
    obtain ⟨v, hv⟩ : ∃ v, a.tape[t.length % a.tape.length]? = some v := ⟨_, List.getElem?_eq_getElem (Nat.mod_lt _ hlen)⟩
    have a1 := fun Q => oIx_eq (S := S) (x := .tup (a.tape.map D.int)) (i := (t.length : Int) % (a.tape.length : Int)) rfl (show atI (a.tape.map D.int) ((t.length : Int) % (a.tape.length : Int)) = some (.int v) by
      rw [show (t.length : Int) % (a.tape.length : Int) = ((t.length % a.tape.length : Nat) : Int) by omega]
      exact at_k (by rw [List.getElem?_map, hv]; rfl)) Q
    simp only [wRet, wBin, wCall, wCB, wCons, wNil, wFld, wVar, getV, some!, fldD, dAsk, true_and, askF, List.getElem?_cons_zero, List.getElem?_cons_succ, oLen, one, dT, seqA, seqL, seqM, List.length_map, oMod, oI]
    refine ⟨by omega, ?_⟩
    rw [a1]
    refine ⟨lt, v, rfl, h0, hpos, ?_⟩
    rw [List.getD_eq_getElem?_getD, hv] at h
    exact h
theorem sh_none {S : Sto} : shD S .non = true := rfl
theorem eq_dO {S : Sto} {l : Int} {e : Option Int} : eqD S (.int l) (dO e) = decide (some l = e) := by
  cases e with
  | none => rfl
  | some i =>
    show eqD S (.int l) (.int i) = _
    rw [eqD_int]
    by_cases z : l = i
    · subst z; simp
    · rw [decide_eq_false z, decide_eq_false (fun q => z (Option.some.inj q))]
theorem sh_dO {S : Sto} {e : Option Int} : shD S (dO e) = true := by cases e <;> rfl
theorem len_next_text (c : Cl) : ∀ ds S Q E, sp_next_text c ds S Q E → ds.length = 4 := by
  rintro ds S Q E ⟨_, _, _, _, _, _, rfl, _⟩; rfl
theorem takeI {t : Vec} {n : Nat} (h : n ≤ t.length) : cutI t none (some ((t.length : Int) - (n : Int))) = t.take (t.length - n) := by
  rw [cutI_to (by omega)]
  congr 1; omega
theorem rd_next_text (c : Cl) : ∀ ds S Q X1, sp_next_text c ds S Q X1 → w_next_text c (startD N_next_text_ ds) S (endQ Q X1) := by
  rintro ds S Q X1 ⟨n, e, a, L, w, t, rfl, ha, hw, hL, ht, h900, h⟩
  show w_next_text c [some (dNet c n e), some (dAsk c a), some (dT t), some (dT w), none, none] S (endQ Q X1)
  unfold w_next_text
  refine seq_k fun q1 n1 r1 _ _ x1 => ?_
  simp only [wSet, wMeth, wCons, wNil, wVar, getV, setV, some!]
  refine ⟨isA, a, L, w, t, rfl, ha, hw, hL, ht, by omega, n1 _ _ ?_⟩
  unfold nextF at h
  refine seq_k fun q1 n1 r1 _ _ x1 => ?_
  cases hc : choiceF a w t with
  | none =>
    rw [hc] at h
    simp only [wIf, wTest, wBin, wVar, wC, getV, some!, oIsN, dO, isNon, if_true, wRet, wTup, wCons, wNil, r1]
    exact ⟨z2, h⟩
  | some l =>
    rw [hc] at h
    dsimp only at h
    simp only [wIf, wTest, wBin, wVar, wC, getV, some!, oIsN, dO, isNon, Bool.false_eq_true, if_false, wNext]
    refine n1 _ _ ?_
    refine seq_k fun q1 n1 r1 _ _ x1 => ?_
    simp only [wIf, wTest, wBin, wFld, wVar, wC, getV, some!, fldD, dNet, true_and, netF, List.getElem?_cons_zero, List.getElem?_cons_succ, oEq, shD_int, sh_dO, eq_dO, decide_eq_true_eq]
    by_cases z : some l = e
    · rw [if_pos z] at h ⊢
      simp only [wRet, wTup, wCons, wNil, wVar, wC, getV, some!, r1]
      exact ⟨z2, h⟩
    rw [if_neg z] at h ⊢
    refine n1 _ _ ?_
    refine seq_k fun q1 n1 r1 _ _ x1 => ?_
    simp only [wSet, wBin, wTup, wCons, wNil, wVar, getV, setV, some!, dT, oAdd, List.length_map]
    refine ⟨z1, by show _ + 1 ≤ _; unfold sizeLine; omega, n1 _ _ ?_⟩
    have ecat : t.map D.int ++ [D.int l] = (t ++ [l]).map D.int := by rw [List.map_append]; rfl
    rw [ecat]
    have hlen : (t ++ [l]).length = t.length + 1 := by rw [List.length_append]; rfl
    generalize t ++ [l] = t2 at h hlen
    refine seq_k fun q1 n1 r1 _ _ x1 => ?_
    simp only [wSet, wCall, wCons, wNil, wFld, wVar, getV, setV, some!, fldD, dAsk, true_and, askF, List.getElem?_cons_zero, List.getElem?_cons_succ]
    refine ⟨a.stops, t2, rfl, n1 _ _ ?_⟩
    have sl := stop_le a.stops t2
    generalize stopF a.stops t2 = m at h sl
    refine seq_k fun q1 n1 r1 _ _ x1 => ?_
    simp only [wIf, wTest, wBin, wVar, wC, getV, some!, oGt, oI0, decide_eq_true_eq]
    by_cases y : 0 < m
    · rw [if_pos y] at h
      rw [if_pos (by omega)]
      simp only [wRet, wTup, wCons, wNil, wSl, wNoP, wP, wBin, wCB, wVar, wC, getV, some!, oLen, one, seqA, seqL, seqM, List.length_map, oSub, oI0, asI, oSl, cutD_int]
      rw [takeI sl, r1]
      exact ⟨z2, h⟩
    · rw [if_neg y] at h
      rw [if_neg (by omega)]
      refine n1 _ _ ?_
      simp only [wRet, wTup, wCons, wNil, wIfE, wTest, wBin, wCB, wFld, wVar, wC, getV, some!, fldD, dAsk, true_and, askF, List.getElem?_cons_zero, List.getElem?_cons_succ, oLen, one, seqA, seqL, seqM, List.length_map, oEq, shD_int, eqD_int, decide_eq_true_eq]
      by_cases x : (t2.length : Int) = a.most
      · rw [if_pos x] at h ⊢
        exact ⟨z2, h⟩
      · rw [if_neg x] at h ⊢
        exact ⟨z2, h⟩
theorem seqM_at {S : Sto} {p : Addr} {xs : List D} (h : S p = some (.lst xs)) : seqM S (.ref p) = some xs := seqA_at h
theorem len_Ask_init (c : Cl) : ∀ ds S Q E, sp_Ask_init c ds S Q E → ds.length = 6 := by
  rintro ds S Q E ⟨_, _, _, _, rfl, _⟩; rfl
theorem oTuple_R {S : Sto} {i : Bool} {v : Vec} (Q : Qd) : oTuple S [dR i v] Q = Q (dT v) S := by cases i <;> rfl
theorem rd_Ask_init (c : Cl) : ∀ ds S Q X1, sp_Ask_init c ds S Q X1 → w_Ask_init c (startD N_Ask_init_ ds) S (endQ Q X1) := by
  rintro ds S Q X1 ⟨p, g, l, L, rfl, ha, h0, h⟩
  show w_Ask_init c [some (.ref p), some (dS l g.prompt), some (.int g.most), some (dS l (g.stops.map (dS l))), some (dR l g.tape), some (dRuleO c g.rule), none] S (endQ Q X1)
  unfold w_Ask_init
  refine seq_k fun q1 n1 r1 _ _ x1 => ?_
  simp only [wIf, wNot, wTest, wCall, wCons, wNil, wVar, wC, getV, some!]
  refine ⟨.int g.most, 1, 30, rfl, kn_int _, ?_⟩
  rw [show inR 1 30 (.int g.most) = true from decide_eq_true (show 1 ≤ g.most ∧ g.most ≤ 30 by have := ha.mo; omega)]
  simp only [Bool.not_true, Bool.false_eq_true, if_false, wNext]
  refine n1 _ _ ?_
  refine seq_k fun q1 n1 r1 _ _ x1 => ?_
  simp only [wSetF, wCB, wCons, wNil, wVar, getV, some!, oTuple_S]
  refine setD_at h0 (n1 _ _ ?_)
  refine seq_k fun q1 n1 r1 _ _ x1 => ?_
  simp only [wSetF, wVar, getV, some!]
  refine setD_at put_same (n1 _ _ ?_)
  rw [put_put]
  refine seq_k fun q1 n1 r1 _ _ x1 => ?_
  simp only [wSetF, wCB, wCons, wNil, wLc, wIt, wVar, getV, some!, seqA_dS, delVs, delV, List.length_map]
  refine ⟨by have := ha.st.1; unfold sizeLine; omega, compI_vals g.stops (dS l) D.tup trivial (fun s hs R hR => ?_) ?_⟩
  · simp only [gN, setV, wCB, wCons, wNil, wVar, getV, some!, oTuple_S]
    exact hR
  simp only [oTuple, one, seqA, seqL, seqM, some!]
  refine setD_at put_same (n1 _ _ ?_)
  rw [put_put]
  refine seq_k fun q1 n1 r1 _ _ x1 => ?_
  simp only [wSetF, wCB, wCons, wNil, wVar, getV, some!, oTuple_R]
  refine setD_at put_same (n1 _ _ ?_)
  rw [put_put]
  simp only [wSetF, wVar, getV, some!]
  refine setD_at put_same ?_
  rw [put_put]
  exact h
end K07
set_option Elab.async false
set_option linter.all false
set_option maxRecDepth 100000
set_option maxHeartbeats 1000000
namespace K07
open PySem PySem.Spec PyProof.Rows L2 DL
/-! ### plain letters are fine -/
theorem repr_int {S : Sto} {i : Int} (h : i.natAbs.log2 < 1920) : ReprOk S (.int i) := ⟨⟨rfl, by show (PyData.int i).depth ≤ 8; exact Nat.le_of_ble_eq_true rfl⟩, by show decide _ = true; exact decide_eq_true h, int_text_fits h⟩
theorem strOk_str (x : String) : PyData.strOk (Str.ofString x) = true := by
  rw [Str.ofString_eq_toList]
  unfold PyData.strOk
  simp only [List.all_toArray, List.all_eq_true, decide_eq_true_eq]
  intro n hn
  obtain ⟨ch, _, rfl⟩ := List.mem_map.mp hn
  have := ch.valid
  show ch.val.toNat < 0x110000
  rcases this with h | ⟨_, h⟩
  · have : ch.val.toNat < 0xd800 := h
    omega
  · exact h
theorem fine_int {i : Int} (h : i.natAbs.log2 < 1920) : Fine (.int i) := ⟨fun S => ⟨_, rfl⟩, fun S => repr_int h, fun S => strOk_str _⟩
theorem log_lt {i : Int} (h : i.natAbs < 2 ^ 1000) : i.natAbs.log2 < 1920 := by
  by_cases z : i.natAbs = 0
  · rw [z]; decide
  · have := (Nat.log2_lt (k := 1000) z).mpr h; omega
theorem fine_small {i : Int} (h : i.natAbs < 1000000) : Fine (.int i) := fine_int (log_lt (Nat.lt_of_lt_of_le h (by decide +kernel)))
theorem lets_fine {L : Nat} {v : Vec} (hL : L ≤ 12) (h : LetsOk L v) : ∀ d, d ∈ v.map D.int → Fine d := fun d hd => by
  obtain ⟨i, hi, rfl⟩ := List.mem_map.mp hd
  have := h i hi
  exact fine_small (by omega)
theorem gok_of {L : Nat} {a : AskV} (hL : L ≤ 12) (ha : AskOk L a) : GOk L (toG a) := by
  refine ⟨⟨lets_fine hL ha.pr.1, ?_⟩, ha.mo, ⟨?_, fun s hs => ?_⟩, ha.ta, ha.ru⟩
  · show 1 ≤ (a.prompt.map D.int).length ∧ (a.prompt.map D.int).length ≤ 20
    rw [List.length_map]; exact ha.pr.2
  · show (a.stops.map _).length ≤ 4
    rw [List.length_map]; exact ha.st.1
  · obtain ⟨v, hv, rfl⟩ := List.mem_map.mp hs
    have := ha.st.2 v hv
    exact ⟨lets_fine hL this.1, by rw [List.length_map]; exact this.2⟩
theorem bgok_of {L : Nat} {bg : Vec} (hL : L ≤ 12) (h : LetsOk L bg) (h40 : bg.length ≤ 40) : BgOk (bg.map D.int) := ⟨lets_fine hL h, by rw [List.length_map]; exact h40⟩
theorem dS_dR {i : Bool} {v : Vec} : dS i (v.map D.int) = dR i v := by cases i <;> rfl
theorem len_written (c : Cl) : ∀ ds S Q E, sp_written c ds S Q E → ds.length = 3 := by
  rintro ds S Q E (⟨_, _, _, _, _, _, _, _, rfl, _⟩ | ⟨_, _, _, _, _, _, _, _, rfl, _⟩) <;> rfl
theorem rd_written (c : Cl) : ∀ ds S Q X1, sp_written c ds S Q X1 → w_written c (startD N_written_ ds) S (endQ Q X1) := by
  rintro ds S Q X1 (⟨n, e, a, i, bg, w, L, r, rfl, hn, ha, hbg, hbl, hw, h⟩ | ⟨n, e, g, i, bg, w, L, d, rfl, hn, hg, hb, hbad, hx⟩)
  case inr =>
    show w_written c [some (dNet c n e), some (dG c g), some (dS i bg), none, none, none] S (endQ Q X1)
    unfold w_written
    refine seq_k fun q1 n1 r1 _ _ x1 => ?_
    simp only [wDrop, wCall, wCons, wNil, wVar, getV, some!]
    refine ⟨n, e, g, i, bg, w, L, rfl, hn, hg, hb, fun z => (by rw [hbad] at z; cases z), fun d' hd => ?_⟩
    rw [hbad] at hd
    obtain rfl := Option.some.inj hd
    simp only [xcQ, x1]
    exact hx
  show w_written c [some (dNet c n e), some (dAsk c a), some (dR i bg), none, none, none] S (endQ Q X1)
  have hp8 := ha.pr.2
  have hm30 := ha.mo
  unfold w_written
  refine seq_k fun q1 n1 r1 _ _ x1 => ?_
  simp only [wDrop, wCall, wCons, wNil, wVar, getV, some!]
  refine ⟨n, e, toG a, i, bg.map D.int, w, L, by rw [dG_toG, dS_dR], hn, gok_of hn.l1.2 ha, bgok_of hn.l1.2 hbg (by omega), fun _ => n1 _ _ ?_, fun d hd => (by rw [all_toG ha hbg] at hd; cases hd)⟩
  refine seq_k fun q1 n1 r1 _ _ x1 => ?_
  simp only [wSet, wCB, wCons, wNil, wVar, getV, setV, some!, oTuple_R]
  refine n1 _ _ ?_
  refine seq_k fun q1 n1 r1 _ _ x1 => ?_
  simp only [wSet, wCB, wCall, wBin, wCons, wNil, wFld, wVar, getV, setV, some!, fldD, dAsk, true_and, askF, List.getElem?_cons_zero, List.getElem?_cons_succ, dT, oAdd, List.length_map]
  refine ⟨by unfold sizeLine; omega, n, e, true, a.prompt ++ bg, w, L, by rw [← List.map_append]; rfl, hn, fun x hx => ?_, by rw [List.length_append]; omega, fun S1 E => ?_⟩
  · rcases List.mem_append.mp hx with z | z
    · exact ha.pr.1 x z
    · exact hbg x z
  simp only [oListM, one, seqA, some!]
  refine fun p hp => n1 _ _ ?_
  have E := ext_put (m := .lst ((rowsF n (a.prompt ++ bg)).map dRw)) E hp
  have hpn := ext_none (ext_refl _) hp
  have hat : put S1 p (.lst ((rowsF n (a.prompt ++ bg)).map dRw)) p = some (.lst ((rowsF n (a.prompt ++ bg)).map dRw)) := put_same
  have hSp : S p = none := by
    cases z : S p with
    | none => rfl
    | some m => rename_i E0; rw [E0 p m z] at hp; cases hp
  generalize put S1 p (.lst ((rowsF n (a.prompt ++ bg)).map dRw)) = S2 at E hat
  clear hp hpn
  -- a call of next_text
  have nx : ∀ (t : Vec) (S2 : Sto) (Q2 : Qd) (X2 : XQ) (d5 : Option D), LetsOk L t → t.length ≤ 61 → S2 p = some (.lst ((rowsF n (a.prompt ++ t)).map dRw)) → Q2 (.tup [dT (nextF e a t (wtsF n a t)).1, dOS (nextF e a t (wtsF n a t)).2]) S2 →
      (wCall (sp_next_text c) (wCons (wVar 0) (wCons (wVar 1) (wCons (wVar 3) (wCons (wBin oIx (wBin oIx (wVar 4) (wUn oNeg (wC (.int 1)))) (wC (.int 1))) wNil))))) [some (dNet c n e), some (dAsk c a), some (dR i bg), some (dT t), some (.ref p), d5] S2 Q2 X2 := fun t S2 Q2 X2 d5 ht h61 hat q => by
    have hpl : LetsOk L (a.prompt ++ t) := fun x hx => by
      rcases List.mem_append.mp hx with z | z
      · exact ha.pr.1 x z
      · exact ht x z
    have hne2 : a.prompt ++ t ≠ [] := fun z => by rw [(List.append_eq_nil_iff.mp z).1] at hp8; simp at hp8
    obtain ⟨rr, hrr⟩ := last_some (n := n) hne2
    have hwt := wts_ok hn hpl (by rw [List.length_append]; omega) hrr
    have e1 : wtsF n a t = rr.wts := by unfold wtsF; rw [hrr]
    rw [e1] at q
    have a1 := fun Q => oIx_eq (S := S2) (x := .ref p) (i := -1) (seqA_at hat) (at_last (by rw [List.getLast?_map, hrr]; rfl)) Q
    have a2 := fun Q => oIx_eq (S := S2) (x := dRw rr) (i := 1) (xs := [.tup (rr.pairs.map dP), dT rr.wts]) rfl rfl Q
    simp only [wCall, wCons, wNil, wBin, wUn, wVar, wC, getV, some!, oNeg, a1, a2]
    exact ⟨n, e, a, L, rr.wts, t, rfl, ha, hwt, by have := hn.l1; omega, ht, by omega, q⟩
  have hwo : ∀ t : Vec, LetsOk L t → t.length ≤ 61 → WtOk L (wtsF n a t) := fun t ht h61 => by
    have hpl : LetsOk L (a.prompt ++ t) := fun x hx => by
      rcases List.mem_append.mp hx with z | z
      · exact ha.pr.1 x z
      · exact ht x z
    have hne2 : a.prompt ++ t ≠ [] := fun z => by rw [(List.append_eq_nil_iff.mp z).1] at hp8; simp at hp8
    obtain ⟨rr, hrr⟩ := last_some (n := n) hne2
    unfold wtsF; rw [hrr]
    exact wts_ok hn hpl (by rw [List.length_append]; omega) hrr
  -- where the loop stands
  let P : Nat → DE → Sto → Prop := fun m e' S' => Ext S S' ∧ ∃ (t tp : Vec) (wd : Option Str), e' = [some (dNet c n e), some (dAsk c a), some (dR i bg), some (dT t), some (.ref p), some (dOS wd)] ∧ S' p = some (.lst ((rowsF n (a.prompt ++ tp)).map dRw)) ∧
    ((∃ x, wd = some x ∧ r = (t, x)) ∨ (wd = none ∧ ∃ l, t = tp ++ [l] ∧ LetsOk L t ∧ t.length + m ≤ 61 ∧ walkF n e a m t = some r))
  have next : ∀ (t : Vec) (m : Nat) (S' : Sto), LetsOk L t → t.length + (m + 1) ≤ 61 → Ext S S' → S' p = some (.lst ((rowsF n (a.prompt ++ t)).map dRw)) → walkF n e a (m + 1) t = some r →
      P m [some (dNet c n e), some (dAsk c a), some (dR i bg), some (dT (nextF e a t (wtsF n a t)).1), some (.ref p), some (dOS (nextF e a t (wtsF n a t)).2)] S' := fun t m S' ht h61 E hat hwk => by
    refine ⟨E, (nextF e a t (wtsF n a t)).1, t, (nextF e a t (wtsF n a t)).2, rfl, hat, ?_⟩
    unfold walkF at hwk
    cases hx : nextF e a t (wtsF n a t) with
    | mk t' wd =>
      rw [hx] at hwk
      cases wd with
      | some x =>
        have hwk : some (t', x) = some r := hwk
        exact .inl ⟨x, rfl, (Option.some.inj hwk).symm⟩
      | none =>
        have hwk : walkF n e a m t' = some r := hwk
        obtain ⟨l, hc, e1, _⟩ := next_none (e := e) (a := a) (t := t) (w := wtsF n a t) (by rw [hx])
        rw [hx] at e1
        have e1 : t' = t ++ [l] := e1
        have hl := choice_ok (hwo t ht (by omega)) hc
        refine .inr ⟨rfl, l, e1, ?_, ?_, hwk⟩
        · show LetsOk L t'
          rw [e1]; exact lets_snoc ht hl
        · show t'.length + m ≤ 61
          rw [e1, List.length_append]; show t.length + 1 + m ≤ 61; omega
  refine seq_k fun q1 n1 r1 _ _ x1 => ?_
  simp only [wAsgG]
  refine nx bg S2 _ _ none hbg (by omega) hat ?_
  simp only [gT, gAll, gN, setV]
  refine ⟨rfl, n1 _ _ ?_⟩
  have P0 := next bg 30 S2 hbg (by omega) E hat hw
  generalize nextF e a bg (wtsF n a bg) = f0 at P0
  refine seq_k fun q1 n1 r1 _ _ x1 => ?_
  refine ⟨P, ⟨30, P0⟩, ?_⟩
  rintro m e' S3 ⟨E, t, tp, wd, rfl, hat, hh⟩
  simp only [wTest, wBin, wVar, wC, getV, some!, oIsN]
  rcases hh with ⟨x, rfl, rfl⟩ | ⟨rfl, l, rfl, ht, h61, hwk⟩
  · simp only [dOS, isNon, Bool.false_eq_true, if_false]
    refine n1 _ _ ?_
    simp only [wRet, wTup, wCons, wNil, wVar, getV, some!]
    exact ⟨z2, h S3 E⟩
  · simp only [dOS, isNon, if_true]
    have hl : 0 ≤ l ∧ l < (L : Int) := ht l (List.mem_append_right _ (List.mem_singleton.mpr rfl))
    have htp : LetsOk L tp := fun x hx => ht x (List.mem_append_left _ hx)
    have hlen : (tp ++ [l]).length = tp.length + 1 := by rw [List.length_append]; rfl
    have hpl : LetsOk L (a.prompt ++ tp) := fun x hx => by
      rcases List.mem_append.mp hx with z | z
      · exact ha.pr.1 x z
      · exact htp x z
    have hro := rowsF_ok hn hpl (by rw [List.length_append]; omega) (a.prompt ++ tp).length
    rw [List.take_length] at hro
    have a1 := fun Q => oIx_eq (S := S3) (x := dT (tp ++ [l])) (i := -1) rfl (at_last (by rw [List.getLast?_map, List.getLast?_append]; rfl)) Q
    refine seq_k fun q2 n2 r2 _ _ x2 => ?_
    simp only [wDrop, wMt, wMeth, wCons, wNil, wBin, wUn, wVar, wC, getV, some!, mutL, hat, oNeg, a1]
    refine ⟨isN, n, e, .ref p, rowsF n (a.prompt ++ tp), l, w, L, rfl, seqA_at hat, hn, hro, hl, fun S4 E4 => ?_⟩
    have hat4 := E4 _ _ hat
    simp only [oAppend, mutL, hat4, one]
    refine ⟨by rw [List.length_map, rowsF_len, List.length_append]; unfold sizeLine; omega, n2 _ _ ?_⟩
    have E5 := ext_chg (m := .lst ((rowsF n (a.prompt ++ tp)).map dRw ++ [dRw (rowF n (rowsF n (a.prompt ++ tp)) l)])) (ext_trans E E4) hSp
    have hat5 : put S4 p (.lst ((rowsF n (a.prompt ++ tp)).map dRw ++ [dRw (rowF n (rowsF n (a.prompt ++ tp)) l)])) p = some (.lst ((rowsF n (a.prompt ++ (tp ++ [l]))).map dRw)) := by
      rw [put_same, ← List.append_assoc, rowsF_snoc, List.map_append]; rfl
    generalize put S4 p (.lst ((rowsF n (a.prompt ++ tp)).map dRw ++ [dRw (rowF n (rowsF n (a.prompt ++ tp)) l)])) = S5 at E5 hat5
    simp only [wAsgG]
    refine nx (tp ++ [l]) S5 _ _ _ ht (by omega) hat5 ?_
    simp only [gT, gAll, gN, setV]
    refine ⟨rfl, ?_⟩
    cases m with
    | zero => cases hwk
    | succ m =>
      exact ⟨m, Nat.lt_succ_self _, next (tp ++ [l]) m S5 ht (by omega) E5 hat5 hwk⟩
end K07
set_option Elab.async false
set_option linter.all false
set_option maxRecDepth 100000
set_option maxHeartbeats 1000000
namespace K07
open PySem PySem.Spec PyProof.Rows L2 DL
theorem abs_nn (x : Int) : 0 ≤ (if x < 0 then -x else x) := by split <;> omega
theorem e1018 : (10 : Int) ^ Int.toNat 18 = 1000000000000000000 := by decide +kernel
theorem len__law_numbers (c : Cl) : ∀ ds S Q E, sp__law_numbers c ds S Q E → ds.length = 3 := by
  rintro ds S Q E ⟨_, _, _, rfl, _⟩; rfl
theorem rd__law_numbers (c : Cl) : ∀ ds S Q X1, sp__law_numbers c ds S Q X1 → w__law_numbers c (startD N__law_numbers_ ds) S (endQ Q X1) := by
  rintro ds S Q X1 ⟨cell, at_, many, rfl, hat_, hm, h⟩
  show w__law_numbers c [some (.int cell), some (.int at_), some (.int (many : Nat)), none, none, none, none, none] S (endQ Q X1)
  unfold w__law_numbers
  refine seq_k fun q1 n1 r1 _ _ x1 => ?_
  simp only [wSet, wBin, wCB, wCons, wNil, wVar, wC, getV, setV, some!, oInt, oAbs, one, oPow, oI, oGe, oI0, e1018]
  refine ⟨by unfold CPow; decide, n1 _ _ ?_⟩
  refine seq_k fun q1 n1 r1 _ _ x1 => ?_
  simp only [wSet, wBin, wCB, wCons, wNil, wVar, wC, getV, setV, some!, oInt, oAbs, one, oMulS, oI, oLt, oI0, oAdd]
  have ha := abs_nn cell
  generalize (if cell < 0 then -cell else cell) = ab at ha
  refine ⟨.inl (by decide), n1 _ _ ?_⟩
  obtain ⟨rest, hrest, r0, r9⟩ : ∃ rest : Int, 2 * ab + (if decide (cell < 0) = true then 1 else 0) = rest ∧ 0 ≤ rest ∧ (decide (1000000000000000000 ≤ ab) = false → rest < 10000000000000000000) := ⟨_, rfl, by split <;> omega, fun hd => by
    have := of_decide_eq_false hd
    split <;> omega⟩
  rw [hrest]
  generalize decide (1000000000000000000 ≤ ab) = great at r9
  refine seq_k fun q1 n1 r1 _ _ x1 => ?_
  simp only [wSet, wLstM, wNil, setV]
  refine ⟨Nat.zero_le _, fun p hp => n1 _ _ ?_⟩
  have E := ext_put (m := .lst []) (ext_refl S) hp
  have hat : put S p (.lst []) p = some (.lst (([] : Vec).map D.int)) := put_same
  generalize put S p (.lst []) = S1 at E hat
  refine seq_k fun q1 n1 r1 _ _ x1 => ?_
  simp only [wFor, wRg1, wVar, getV, some!, asI]
  refine ⟨⟨by omega, by omega⟩, ?_⟩
  rw [Int.toNat_natCast]
  refine forI_invq (fun k e S' => ∃ (ns : Vec) (rest : Int) (x6 x7 : Option D), Ext S S' ∧ S' p = some (.lst (ns.map D.int)) ∧ NumsOk k ns ∧ 0 ≤ rest ∧ (great = false → rest < 10000000000000000000) ∧
    e = [some (.int cell), some (.int at_), some (.int (many : Nat)), some (.bl great), some (.int rest), some (.ref p), x6, x7]) ⟨[], rest, none, none, E, hat, ⟨rfl, fun x h => by cases h⟩, r0, r9, rfl⟩ (fun _ _ _ _ => trivial) ?_ ?_
  · rintro k d e S' hi ⟨ns, rest, x6, x7, E, hat, hns, r0, r9, rfl⟩ q hq _ _ _ _
    obtain ⟨hlt, rfl⟩ := rngD_get hi
    rw [Int.zero_add]
    have more : ∀ x : Int, 0 ≤ x ∧ x < 1000 → NumsOk (k + 1) (ns ++ [x]) := fun x hx => ⟨by rw [List.length_append, hns.1]; rfl, fun y hy => by
      rcases List.mem_append.mp hy with z | z
      · exact hns.2 y z
      · rw [List.mem_singleton] at z; subst z; exact hx⟩
    have m1000 : ∀ x : Int, 0 ≤ x % 1000 ∧ x % 1000 < 1000 := fun x => ⟨Int.emod_nonneg _ (by decide), Int.emod_lt_of_pos _ (by decide)⟩
    have hsz : ns.length < sizeLine := by have := hns.1; unfold sizeLine; omega
    simp only [gN, setV, wIf, wTest, wVar, getV, some!]
    cases great with
    | true =>
      simp only [if_true]
      refine seq_k fun q1 n1 r1 _ _ x1 => ?_
      simp only [wDrop, wMt, wCons, wNil, wBin, wCB, wVar, wC, getV, some!, mutL, hat, oInt, one, oMod, oI, oAppend, List.length_map]
      refine ⟨by decide, hsz, n1 _ _ ?_⟩
      simp only [wSet, wBin, wVar, wC, getV, setV, some!, oDiv, oI]
      refine ⟨divw (by decide), hq _ _ ⟨_, rest / 1000, _, _, ext_chg E (ext_none (ext_refl S) hp), by rw [put_same, List.map_append]; rfl, more _ (m1000 _), Int.ediv_nonneg r0 (by decide), fun z => (by cases z), rfl⟩⟩
    | false =>
      simp only [Bool.false_eq_true, if_false]
      have r9 := r9 rfl
      have hm1 : ∀ x : Int, 0 ≤ x % 2147483647 ∧ x % 2147483647 < 2147483647 := fun x => ⟨Int.emod_nonneg _ (by decide), Int.emod_lt_of_pos _ (by decide)⟩
      have hm2 : ∀ x : Int, 0 ≤ x % 2147483629 ∧ x % 2147483629 < 2147483629 := fun x => ⟨Int.emod_nonneg _ (by decide), Int.emod_lt_of_pos _ (by decide)⟩
      refine seq_k fun q1 n1 r1 _ _ x1 => ?_
      simp only [wSet, wBin, wCB, wCons, wNil, wVar, wC, getV, setV, some!, oMul, oMod, oI, oAdd, oInt, one]
      refine ⟨mulw ⟨r0, r9⟩ (by decide), mulw ⟨by omega, by omega⟩ (by decide), mulw ⟨by omega, by omega⟩ (by decide), by decide, n1 _ _ ?_⟩
      have y0 := hm1 (rest * 48271 + at_ * 69621 + (k : Int) * 16807 + 7)
      generalize (rest * 48271 + at_ * 69621 + (k : Int) * 16807 + 7) % 2147483647 = y at y0
      refine seq_k fun q1 n1 r1 _ _ x1 => ?_
      simp only [wSet, wBin, wCB, wCons, wNil, wVar, wC, getV, setV, some!, oMul, oMod, oI, oAdd, oInt, one]
      refine ⟨mulw ⟨y0.1, by omega⟩ ⟨y0.1, by omega⟩, mulw ⟨by omega, by omega⟩ (by decide), by decide, n1 _ _ ?_⟩
      have y1 := hm2 (y * y + (k : Int) * 40692 + 3)
      generalize (y * y + (k : Int) * 40692 + 3) % 2147483629 = y at y1
      refine seq_k fun q1 n1 r1 _ _ x1 => ?_
      simp only [wSet, wBin, wCB, wCons, wNil, wVar, wC, getV, setV, some!, oMul, oMod, oI, oAdd, oInt, one]
      refine ⟨mulw ⟨y1.1, by omega⟩ ⟨y1.1, by omega⟩, mulw ⟨by omega, by omega⟩ (by decide), by decide, n1 _ _ ?_⟩
      simp only [wDrop, wMt, wCons, wNil, wBin, wCB, wVar, wC, getV, some!, mutL, hat, oInt, one, oMod, oDiv, oI, oAppend, List.length_map]
      exact ⟨divw (by decide), by decide, hsz, hq _ _ ⟨_, rest, _, _, ext_chg E (ext_none (ext_refl S) hp), by rw [put_same, List.map_append]; rfl, more _ (m1000 _), r0, fun _ => r9, rfl⟩⟩
  · rintro e S' ⟨ns, rest, x6, x7, E, hat, hns, r0, r9, rfl⟩
    rw [rngD_length] at hns
    refine n1 _ _ ?_
    simp only [wRet, wFrz, wVar, getV, some!, frzD, hat]
    exact h ns hns _ (ext_del E (ext_none (ext_refl S) hp))
/-! ### sameness -/
theorem kb1 : kitB "tuple" "tuple" = some true := by decide +kernel
theorem kb3 : kitB "bool" "str" = some false := by decide +kernel
theorem kb4 : kitB "int" "str" = some false := by decide +kernel
theorem kb5 : kitB "str" "str" = some true := by decide +kernel
theorem kb6 : kitB "tuple" "str" = some false := by decide +kernel
theorem kb7 : kitB "tuple" "bool" = some false := by decide +kernel
theorem kb8 : kitB "tuple" "int" = some false := by decide +kernel
theorem eqD_refl {S : Sto} {d : D} (h : shD S d = true) : eqD S d d = true := SeqAt.eqv_refl _ (SeqAt.canLay_of_shaped h)
theorem sh_str {S : Sto} {x : Str} (h : PyData.strOk x = true) : shD S (.str x) = true := by
  show ((PyData.str x).canLay0 && decide ((PyData.str x).depth ≤ 64)) = true
  simp [PyData.canLay0, PyData.depth, h]
theorem len__law_same_n (c : Cl) (n : Nat) : ∀ ds S Q E, sp__law_same_n c n ds S Q E → ds.length = 2 := by
  intro ds S Q E h
  cases n with
  | zero => exact h.elim
  | succ n => obtain ⟨_, rfl, _⟩ := h; rfl
theorem rd__law_same (c : Cl) (n : Nat) : ∀ ds S Q X1, sp__law_same_n c (n + 1) ds S Q X1 → w__law_same c n (startD N__law_same_ ds) S (endQ Q X1) := by
  rintro ds S Q X1 ⟨d, rfl, hp, h⟩
  show w__law_same c n [some d, some d, none] S (endQ Q X1)
  unfold w__law_same
  refine seq_k fun q1 n1 r1 _ _ x1 => ?_
  have non_no : isNon d = false → (wIf (wTest (wBin oIsN (wVar 1) (wC .non))) (wRet (wBin oIsN (wVar 0) (wC .non))) wNext) [some d, some d, none] S q1 = q1.nx [some d, some d, none] S := fun hd => by
    simp only [wIf, wTest, wBin, wVar, wC, getV, some!, oIsN, hd, Bool.false_eq_true, if_false, wNext]
  cases d with
  | non =>
    simp only [wIf, wTest, wBin, wVar, wC, getV, some!, oIsN, isNon, if_true, wRet, r1]
    exact h
  | bl b =>
    rw [non_no rfl]
    refine n1 _ _ ?_
    refine seq_k fun q1 n1 r1 _ _ x1 => ?_
    simp only [wIf, wTest, wIsi, wVar, getV, some!, tyN, kb3, Bool.false_eq_true, if_false, wNext]
    refine n1 _ _ ?_
    refine seq_k fun q1 n1 r1 _ _ x1 => ?_
    simp only [wIf, wTest, wIsi, wVar, getV, some!, tyN, kt7, if_true, wRet, wAndV, wBin, oEq, shD_bl, eqD_bl, beq_self_eq_true, true_and, r1]
    exact h
  | int i =>
    rw [non_no rfl]
    refine n1 _ _ ?_
    refine seq_k fun q1 n1 r1 _ _ x1 => ?_
    simp only [wIf, wTest, wIsi, wVar, getV, some!, tyN, kb4, Bool.false_eq_true, if_false, wNext]
    refine n1 _ _ ?_
    refine seq_k fun q1 n1 r1 _ _ x1 => ?_
    simp only [wIf, wTest, wIsi, wVar, getV, some!, tyN, kt8, Bool.false_eq_true, if_false, wNext]
    refine n1 _ _ ?_
    refine seq_k fun q1 n1 r1 _ _ x1 => ?_
    simp only [wIf, wTest, wIsi, wVar, getV, some!, tyN, kt3, kt8, if_true, wRet, wAndV, wNotV, Bool.not_false, wBin, oEq, shD_int, eqD_int, decide_true, true_and, r1]
    exact h
  | str x =>
    rw [non_no rfl]
    refine n1 _ _ ?_
    refine seq_k fun q1 n1 r1 _ _ x1 => ?_
    have hs : shD S (.str x) = true := sh_str (by cases n <;> exact hp)
    simp only [wIf, wTest, wIsi, wVar, getV, some!, tyN, kb5, if_true, wRet, wAndV, wBin, oEq, hs, eqD_refl hs, true_and, r1]
    exact h
  | tup xs =>
    cases n with
    | zero => exact hp.elim
    | succ n =>
      obtain ⟨h1, h2⟩ := hp
      rw [non_no rfl]
      refine n1 _ _ ?_
      refine seq_k fun q1 n1 r1 _ _ x1 => ?_
      simp only [wIf, wTest, wIsi, wVar, getV, some!, tyN, kb6, Bool.false_eq_true, if_false, wNext]
      refine n1 _ _ ?_
      refine seq_k fun q1 n1 r1 _ _ x1 => ?_
      simp only [wIf, wTest, wIsi, wVar, getV, some!, tyN, kb7, Bool.false_eq_true, if_false, wNext]
      refine n1 _ _ ?_
      refine seq_k fun q1 n1 r1 _ _ x1 => ?_
      simp only [wIf, wTest, wIsi, wVar, getV, some!, tyN, kb8, Bool.false_eq_true, if_false, wNext]
      refine n1 _ _ ?_
      refine seq_k fun q1 n1 r1 _ _ x1 => ?_
      simp only [wIf, wOr, wNot, wTest, wIsi, wBin, wCB, wCons, wNil, wVar, getV, some!, tyN, kb1, Bool.not_true, Bool.false_eq_true, if_false, oLen, one, seqA, seqL, seqM, oNe, shD_int, eqD_int, decide_true, true_and, wNext]
      refine n1 _ _ ?_
      refine seq_k fun q1 n1 r1 _ _ x1 => ?_
      simp only [wFor, wRg1, wCB, wCons, wNil, wVar, getV, some!, oLen, one, seqA, seqL, seqM, asI]
      refine ⟨⟨by omega, by omega⟩, ?_⟩
      rw [Int.toNat_natCast]
      refine forI_invq (fun k e S' => S' = S ∧ ∃ x2, e = [some (.tup xs), some (.tup xs), x2]) ⟨rfl, _, rfl⟩ (fun _ _ _ _ => trivial) ?_ ?_
      · rintro k d e S' hi ⟨rfl, x2, rfl⟩ q hq _ _ _ _
        obtain ⟨hlt, rfl⟩ := rngD_get hi
        rw [Int.zero_add]
        obtain ⟨y, hy⟩ : ∃ y, xs[k]? = some y := ⟨_, List.getElem?_eq_getElem hlt⟩
        have a1 := fun Q => oIx_eq (S := S') (x := .tup xs) (i := (k : Int)) rfl (at_k hy) Q
        simp only [gN, setV, wIf, wNot, wTest, wCall, wBin, wCons, wNil, wVar, getV, some!, a1]
        refine ⟨y, rfl, h2 y (List.mem_of_getElem? hy), ?_⟩
        simp only [Bool.not_true, Bool.false_eq_true, if_false, wNext]
        exact hq _ _ ⟨rfl, _, rfl⟩
      · rintro e S' ⟨rfl, x2, rfl⟩
        refine n1 _ _ ?_
        simp only [wRet, wC]
        exact h
  | _ => exact absurd hp (by cases n <;> exact id)
theorem imp__law_same (c : Cl) : ∀ ds S Q X1, sp__law_same c ds S Q X1 → sp__law_same_n c 8 ds S Q X1 := fun ds S Q X1 h => h
/-! ### products -/
theorem len__law_dot (c : Cl) : ∀ ds S Q E, sp__law_dot c ds S Q E → ds.length = 3 := by
  rintro ds S Q E ⟨_, _, _, _, _, rfl, _⟩; rfl
theorem rd__law_dot (c : Cl) : ∀ ds S Q X1, sp__law_dot c ds S Q X1 → w__law_dot c (startD N__law_dot_ ds) S (endQ Q X1) := by
  rintro ds S Q X1 ⟨i, j, a, b, p, rfl, hab, hl, ha, hb, hp, h⟩
  show w__law_dot c [some (dR i a), some (dR j b), some (.int p), none, none] S (endQ Q X1)
  unfold w__law_dot
  refine seq_k fun q1 n1 r1 _ _ x1 => ?_
  simp only [wSet, wC, setV]
  refine n1 _ _ ?_
  refine seq_k fun q1 n1 r1 _ _ x1 => ?_
  have ol := fun (Q : Qd) => oLen_of (S := S) (d := dR i a) (Q := Q) seqA_dR
  simp only [wFor, wRg1, wCB, wCons, wNil, wVar, getV, some!]
  refine ol _ ?_
  simp only [asI, List.length_map]
  refine ⟨⟨by omega, by omega⟩, ?_⟩
  rw [Int.toNat_natCast]
  refine forI_invq (fun k e S' => S' = S ∧ ∃ x4, e = [some (dR i a), some (dR j b), some (.int p), some (.int (((a.zip b).take k).map fun p => p.1 * p.2).sum), x4]) ⟨rfl, _, rfl⟩ (fun _ _ _ _ => trivial) ?_ ?_
  · rintro k d e S' hi ⟨rfl, x4, rfl⟩ q hq _ _ _ _
    obtain ⟨hlt, rfl⟩ := rngD_get hi
    rw [Int.zero_add]
    obtain ⟨x, hx⟩ : ∃ x, a[k]? = some x := ⟨_, List.getElem?_eq_getElem hlt⟩
    obtain ⟨y, hy⟩ : ∃ y, b[k]? = some y := ⟨_, List.getElem?_eq_getElem (by omega)⟩
    have a1 := fun Q => oIx_eq (S := S') (x := dR i a) (i := (k : Int)) seqA_dR (at_k (by rw [List.getElem?_map, hx]; rfl)) Q
    have a2 := fun Q => oIx_eq (S := S') (x := dR j b) (i := (k : Int)) seqA_dR (at_k (by rw [List.getElem?_map, hy]; rfl)) Q
    have h1 := ha x (List.mem_of_getElem? hx)
    have h2 := hb y (List.mem_of_getElem? hy)
    simp only [gN, setV, wSet, wBin, wVar, getV, some!, a1, a2, oMul, oI, oAdd]
    refine ⟨mulw ⟨h1.1, by omega⟩ ⟨h2.1, by omega⟩, hq _ _ ⟨rfl, some (.int (k : Int)), ?_⟩⟩
    have hz : (a.zip b)[k]? = some (x, y) := List.getElem?_zip_eq_some.mpr ⟨hx, hy⟩
    rw [List.take_add_one, hz]
    simp
  · rintro e S' ⟨rfl, x4, rfl⟩
    refine n1 _ _ ?_
    rw [rngD_length, List.take_of_length_le (by rw [List.length_zip]; omega), ← psum_zip]
    simp only [wRet, wBin, wCB, wCons, wNil, wVar, getV, some!, oInt, one, oMod, oI]
    exact ⟨hp, h⟩
theorem len__law_times (c : Cl) : ∀ ds S Q E, sp__law_times c ds S Q E → ds.length = 3 := by
  rintro ds S Q E ⟨_, _, _, _, rfl, _⟩; rfl
theorem rd__law_times (c : Cl) : ∀ ds S Q X1, sp__law_times c ds S Q X1 → w__law_times c (startD N__law_times_ ds) S (endQ Q X1) := by
  rintro ds S Q X1 ⟨m, j, v, p, rfl, hm, hr, hl, hv, hp, h⟩
  show w__law_times c [some (dM m), some (dR j v), some (.int p), none] S (endQ Q X1)
  unfold w__law_times
  simp only [wRet, wLc, wIt, wVar, getV, some!, dM, seqA, delVs, delV, List.length_map]
  refine ⟨by unfold sizeLine; omega, compI_vals m dT (fun r => .int (psum r v % p)) trivial (fun r hr2 R hR => ?_) ?_⟩
  · simp only [gN, setV, wCall, wCons, wNil, wVar, getV, some!]
    have := hr r hr2
    exact ⟨true, j, r, v, p, rfl, this.1, by omega, this.2, hv, hp, hR⟩
  · have e : m.map (fun r => D.int (psum r v % p)) = (timesF p m v).map D.int := by unfold timesF; rw [List.map_map]; rfl
    rw [e]
    exact h
end K07
set_option Elab.async false
set_option linter.all false
set_option maxRecDepth 100000
set_option maxHeartbeats 1000000
namespace K07
open PySem PySem.Spec PyProof.Rows L2 DL
theorem len__law_vector (c : Cl) : ∀ ds S Q E, sp__law_vector c ds S Q E → ds.length = 4 := by
  rintro ds S Q E ⟨_, _, _, _, _, _, rfl, _⟩; rfl
theorem rd__law_vector (c : Cl) : ∀ ds S Q X1, sp__law_vector c ds S Q X1 → w__law_vector c (startD N__law_vector_ ds) S (endQ Q X1) := by
  rintro ds S Q X1 ⟨i, ns, m, k, w, p, rfl, hns, m0, m1000, hk, hw, hp, h⟩
  show w__law_vector c [some (dR i ns), some (.int k), some (.int (w : Nat)), some (.int p), none, none] S (endQ Q X1)
  unfold w__law_vector
  refine seq_k fun q1 n1 r1 _ _ x1 => ?_
  simp only [wSet, wLstM, wNil, setV]
  refine ⟨Nat.zero_le _, fun pt hpt => n1 _ _ ?_⟩
  have E := ext_put (m := .lst []) (ext_refl S) hpt
  have hat : put S pt (.lst []) pt = some (.lst (([] : Vec).map D.int)) := put_same
  generalize put S pt (.lst []) = S1 at E hat
  refine seq_k fun q1 n1 r1 _ _ x1 => ?_
  simp only [wFor, wRg2, wBin, wVar, getV, some!, asI, oAdd]
  refine ⟨⟨by omega, by omega, by omega, by omega⟩, ?_⟩
  rw [show (k + (w : Int) - k).toNat = w by omega]
  refine forI_invq (fun t e S' => ∃ (v : Vec) (x5 : Option D), Ext S S' ∧ S' pt = some (.lst (v.map D.int)) ∧ v.length = t ∧ Sm97 v ∧ e = [some (dR i ns), some (.int k), some (.int (w : Nat)), some (.int p), some (.ref pt), x5]) ⟨[], none, E, hat, rfl, fun x h => (by cases h), rfl⟩ (fun _ _ _ _ => trivial) ?_ ?_
  · rintro t d e S' hi ⟨v, x5, E, hat, hl, hv, rfl⟩ q hq _ _ _ _
    obtain ⟨hlt, rfl⟩ := rngD_get hi
    have ol := fun (Q : Qd) => oLen_of (S := S') (d := dR i ns) (Q := Q) seqA_dR
    obtain ⟨j, hj⟩ : ∃ j : Nat, k + (t : Int) = (j : Int) := ⟨(k + (t : Int)).toNat, by omega⟩
    rw [hj]
    obtain ⟨y, hy⟩ : ∃ y, ns[j % m]? = some y := ⟨_, List.getElem?_eq_getElem (by rw [hns.1]; exact Nat.mod_lt _ m0)⟩
    have hy2 := hns.2 y (List.mem_of_getElem? hy)
    have a1 := fun Q => oIx_eq (S := S') (x := dR i ns) (i := (j : Int) % (m : Int)) seqA_dR (show atI (ns.map D.int) ((j : Int) % (m : Int)) = some (.int y) by
      rw [show (j : Int) % (m : Int) = ((j % m : Nat) : Int) by omega]
      exact at_k (by rw [List.getElem?_map, hy]; rfl)) Q
    obtain ⟨jd, hjm, hjd⟩ : ∃ jd : Nat, (j : Int) / (m : Int) = (jd : Int) ∧ jd ≤ j := ⟨j / m, by omega, Nat.div_le_self j m⟩
    simp only [gN, setV, wDrop, wMt, wCons, wNil, wBin, wCB, wVar, wC, getV, some!, mutL, hat, oInt, one]
    refine ol _ ?_
    simp only [oMod, oI, List.length_map, hns.1]
    refine ⟨by omega, ?_⟩
    rw [a1]
    refine ol _ ?_
    simp only [oDiv, oMul, oI, oAdd, oMod, List.length_map, hns.1, hjm]
    refine ⟨divw ⟨by omega, by omega⟩, mulw (by decide) ⟨by omega, by omega⟩, by omega, ?_⟩
    simp only [oAppend, mutL, hat, one, List.length_map]
    refine ⟨by unfold sizeLine; omega, hq _ _ ⟨v ++ [(y + 7 * (jd : Int)) % p], _, ext_chg E (ext_none (ext_refl S) hpt), by rw [put_same, List.map_append]; rfl, by rw [List.length_append, hl]; rfl, fun x hx => ?_, rfl⟩⟩
    rcases List.mem_append.mp hx with z | z
    · exact hv x z
    · rw [List.mem_singleton] at z; subst z; exact sm_mod hp
  · rintro e S' ⟨v, x5, E, hat, hl, hv, rfl⟩
    rw [rngD_length] at hl
    refine n1 _ _ ?_
    have e3 := seqA_at hat
    simp only [wRet, wCB, wCons, wNil, wVar, getV, some!, oTuple, one, e3]
    exact h v ⟨hl, hv.sm⟩ S' E
theorem prime_bd {p : Int} (h : p ∈ thePrimes) : 0 < p ∧ p ≤ 97 := by
  simp only [thePrimes, List.mem_cons, List.not_mem_nil, or_false] at h
  omega
theorem mat_sub {w : Nat} {rows : Mat} {i j : Nat} (h : MatOk w rows) : MatOk w ((rows.drop i).take j) := fun v hv => h v (List.mem_of_mem_drop (List.mem_of_mem_take hv))
theorem cutD_rows {rows : Mat} {lo hi : Option Int} : DL.cutD (rows.map dT) lo hi = (((rows.drop (HT.sIx rows.length 0 lo)).take (HT.sIx rows.length rows.length hi - HT.sIx rows.length 0 lo))).map dT := by
  unfold DL.cutD
  rw [List.length_map, List.map_take, List.map_drop]
theorem sIx_k {n : Nat} {k d : Nat} (h : k ≤ n) : HT.sIx n d (some (k : Int)) = k := by
  unfold HT.sIx
  simp
  split <;> omega
theorem sIx_none {n d : Nat} : HT.sIx n d none = d := rfl
theorem cut_rows {rows : Mat} {a b : Nat} (h : a ≤ b) (hb : b ≤ rows.length) : DL.cutD (rows.map dT) (some (a : Int)) (some (b : Int)) = ((rows.drop a).take (b - a)).map dT := by
  rw [cutD_rows, sIx_k (k := a) (by omega), sIx_k (k := b) hb]
theorem cut_rows0 {rows : Mat} {b : Nat} (hb : b ≤ rows.length) : DL.cutD (rows.map dT) none (some (b : Int)) = (rows.take b).map dT := by
  rw [cutD_rows, sIx_k hb, sIx_none, List.drop_zero, Nat.sub_zero]
theorem sl {S : Sto} {xs : List D} : seqA S (.lst xs) = some xs := rfl
theorem len__law_net (c : Cl) : ∀ ds S Q E, sp__law_net c ds S Q E → ds.length = 5 := by
  rintro ds S Q E ⟨_, _, _, _, _, _, rfl, _⟩; rfl
theorem mat5 {w : Nat} {ms : List Mat} (h : ms.length = 5) (hm : ∀ m, m ∈ ms → m.length = w ∧ MatOk w m) : ∃ l, LayOk w l ∧ D.tup (ms.map dM) = dLay l := by
  match ms, h, hm with
  | [a, b, d, e, f], _, hm =>
    exact ⟨⟨a, b, d, e, f⟩, ⟨hm a (by simp), hm b (by simp), hm d (by simp), hm e (by simp), hm f (by simp)⟩, rfl⟩
theorem rd__law_net (c : Cl) : ∀ ds S Q X1, sp__law_net c ds S Q X1 → w__law_net c (startD N__law_net_ ds) S (endQ Q X1) := by
  rintro ds S Q X1 ⟨ns, k, L, w, m, p, rfl, hns, k0, k1000, hL, hw, hm, hp, h⟩
  have hpb := prime_bd hp
  show w__law_net c [some (dL ns), some (.int (L : Nat)), some (.int (w : Nat)), some (.int (m : Nat)), some (.int p), none, none, none, none, none, none] S (endQ Q X1)
  unfold w__law_net
  refine seq_k fun q1 n1 r1 _ _ x1 => ?_
  simp only [wSet, wLstM, wNil, setV]
  refine ⟨Nat.zero_le _, fun pt hpt => n1 _ _ ?_⟩
  have E := ext_put (m := .lst []) (ext_refl S) hpt
  have hat : put S pt (.lst []) pt = some (.lst (([] : Mat).map dT)) := put_same
  generalize put S pt (.lst []) = S1 at E hat
  obtain ⟨N, hN⟩ : ∃ N : Nat, N = 2 * L + 1 + 5 * w * m := ⟨_, rfl⟩
  have hwm : w * m ≤ 4 * 3 := Nat.mul_le_mul hw.2 hm
  have h5 : 5 * w * m = 5 * (w * m) := Nat.mul_assoc ..
  have hNi : 2 * (L : Int) + 1 + 5 * (w : Int) * (m : Int) = (N : Int) := by
    rw [hN]; push_cast; rfl
  refine seq_k fun q1 n1 r1 _ _ x1 => ?_
  simp only [wFor, wRg1, wBin, wVar, wC, getV, some!, asI, oMul, oI, oAdd]
  refine ⟨mulw (by decide) ⟨by omega, by omega⟩, mulw (by decide) ⟨by omega, by omega⟩, mulw ⟨by omega, by omega⟩ ⟨by omega, by omega⟩, ?_⟩
  rw [hNi]
  refine ⟨⟨by omega, by omega⟩, ?_⟩
  rw [Int.toNat_natCast]
  refine forI_invq (fun t e S' => ∃ (rows : Mat) (x6 : Option D), Ext S S' ∧ S' pt = some (.lst (rows.map dT)) ∧ rows.length = t ∧ MatOk w rows ∧ e = [some (dL ns), some (.int (L : Nat)), some (.int (w : Nat)), some (.int (m : Nat)), some (.int p), some (.ref pt), x6, none, none, none, none]) ⟨[], none, E, hat, rfl, fun x h => (by cases h), rfl⟩ (fun _ _ _ _ => trivial) ?_ ?_
  · rintro t d e S' hi ⟨rows, x6, E, hat, hl, hr, rfl⟩ q hq _ _ _ _
    obtain ⟨hlt, rfl⟩ := rngD_get hi
    rw [Int.zero_add]
    simp only [gN, setV, wDrop, wMt, wCall, wCons, wNil, wBin, wVar, getV, some!, mutL, hat, oMul, oI]
    have htw : (t : Int) * (w : Int) ≤ 100 * 4 := Int.mul_le_mul (by omega) (by omega) (by omega) (by omega)
    have htw0 : 0 ≤ (t : Int) * (w : Int) := Int.mul_nonneg (by omega) (by omega)
    refine ⟨mulw ⟨by omega, by omega⟩ ⟨by omega, by omega⟩, false, ns, k, _, w, p, rfl, hns, k0, k1000, ⟨htw0, by omega⟩, hw.2, hpb, fun v hv S2 E2 => ?_⟩
    have hat2 := E2 _ _ hat
    simp only [oAppend, mutL, hat2, one, List.length_map]
    refine ⟨by unfold sizeLine; omega, hq _ _ ⟨rows ++ [v], _, ext_chg (ext_trans E E2) (ext_none (ext_refl S) hpt), by rw [put_same, List.map_append]; rfl, by rw [List.length_append, hl]; rfl, fun x hx => ?_, rfl⟩⟩
    rcases List.mem_append.mp hx with z | z
    · exact hr x z
    · rw [List.mem_singleton] at z; subst z; exact hv
  rintro e S1 ⟨rows, x6, E, hat, hl, hr, rfl⟩
  rw [rngD_length] at hl
  refine n1 _ _ ?_
  refine seq_k fun q1 n1 r1 _ _ x1 => ?_
  simp only [wSet, wLstM, wNil, setV]
  refine ⟨Nat.zero_le _, fun pl hpl => n1 _ _ ?_⟩
  have hpln := ext_none E hpl
  have hpne : pt ≠ pl := fun z => by rw [z, hpl] at hat; cases hat
  have E := ext_put (m := .lst []) E hpl
  have hatl : put S1 pl (.lst []) pl = some (.lst (([] : List Lay).map dLay)) := put_same
  have hat : put S1 pl (.lst []) pt = some (.lst (rows.map dT)) := by rw [put_ne hpne]; exact hat
  generalize put S1 pl (.lst []) = S1 at E hat hatl
  refine seq_k fun q1 n1 r1 _ _ x1 => ?_
  simp only [wFor, wRg1, wVar, getV, some!, asI]
  refine ⟨⟨by omega, by omega⟩, ?_⟩
  rw [Int.toNat_natCast]
  refine forI_invq (fun t e S' => ∃ (ls : List Lay) (x6 x8 x9 x10 : Option D), Ext S S' ∧ S' pt = some (.lst (rows.map dT)) ∧ S' pl = some (.lst (ls.map dLay)) ∧ ls.length = t ∧ (∀ l, l ∈ ls → LayOk w l) ∧ e = [some (dL ns), some (.int (L : Nat)), some (.int (w : Nat)), some (.int (m : Nat)), some (.int p), some (.ref pt), x6, some (.ref pl), x8, x9, x10]) ⟨[], _, none, none, none, E, hat, hatl, rfl, fun x h => (by cases h), rfl⟩ (fun _ _ _ _ => trivial) ?_ ?_
  · rintro t d e S2 hi ⟨ls, x6, x8, x9, x10, E, hat, hatl, hls, hlo, rfl⟩ q hq _ _ _ _
    obtain ⟨hlt, rfl⟩ := rngD_get hi
    rw [Int.zero_add]
    simp only [gN, setV]
    refine seq_k fun q1 n1 r1 _ _ x1 => ?_
    simp only [wSet, wLstM, wNil, setV]
    refine ⟨Nat.zero_le _, fun pm hpm => n1 _ _ ?_⟩
    have hpmn := ext_none E hpm
    have ne1 : pt ≠ pm := fun z => by rw [z, hpm] at hat; cases hat
    have ne2 : pl ≠ pm := fun z => by rw [z, hpm] at hatl; cases hatl
    have E := ext_put (m := .lst []) E hpm
    have hatm : put S2 pm (.lst []) pm = some (.lst (([] : List Mat).map dM)) := put_same
    have hat : put S2 pm (.lst []) pt = some (.lst (rows.map dT)) := by rw [put_ne ne1]; exact hat
    have hatl : put S2 pm (.lst []) pl = some (.lst (ls.map dLay)) := by rw [put_ne ne2]; exact hatl
    generalize put S2 pm (.lst []) = S2 at E hat hatl hatm
    refine seq_k fun q1 n1 r1 _ _ x1 => ?_
    simp only [wFor, wRg1, wC, asI]
    refine ⟨⟨by decide, by decide⟩, ?_⟩
    refine forI_invq (fun u e S' => ∃ (ms : List Mat) (x6 x10 : Option D), Ext S S' ∧ S' pt = some (.lst (rows.map dT)) ∧ S' pl = some (.lst (ls.map dLay)) ∧ S' pm = some (.lst (ms.map dM)) ∧ ms.length = u ∧ (∀ y, y ∈ ms → y.length = w ∧ MatOk w y) ∧ e = [some (dL ns), some (.int (L : Nat)), some (.int (w : Nat)), some (.int (m : Nat)), some (.int p), some (.ref pt), x6, some (.ref pl), some (.int (t : Int)), some (.ref pm), x10]) ⟨[], _, _, E, hat, hatl, hatm, rfl, fun x h => (by cases h), rfl⟩ (fun _ _ _ _ => trivial) ?_ ?_
    · rintro u d e S3 hi ⟨ms, x6, x10, E, hat, hatl, hatm, hms, hmo, rfl⟩ q2 hq2 _ _ _ _
      obtain ⟨hlt2, rfl⟩ := rngD_get hi
      have hlt2 : u < 5 := hlt2
      rw [Int.zero_add]
      simp only [gN, setV]
      obtain ⟨F, hF⟩ : ∃ F : Nat, F = 2 * L + 1 + w * (5 * t + u) := ⟨_, rfl⟩
      have hFi : 2 * (L : Int) + 1 + (w : Int) * (5 * (t : Int) + (u : Int)) = (F : Int) := by rw [hF]; push_cast; rfl
      have hFb : F + w ≤ rows.length := by
        have h1 : w * (5 * t + u) + w = w * (5 * t + u + 1) := (Nat.mul_succ w (5 * t + u)).symm
        have h2 : w * (5 * t + u + 1) ≤ w * (5 * m) := Nat.mul_le_mul_left _ (by omega)
        have h3 : w * (5 * m) = 5 * w * m := by rw [← Nat.mul_assoc, Nat.mul_comm w 5]
        omega
      refine seq_k fun q1 n1 r1 _ _ x1 => ?_
      simp only [wSet, wBin, wVar, wC, getV, setV, some!, oMul, oI, oAdd]
      refine ⟨mulw (by decide) ⟨by omega, by omega⟩, mulw (by decide) ⟨by omega, by omega⟩, mulw ⟨by omega, by omega⟩ ⟨by omega, by omega⟩, n1 _ _ ?_⟩
      rw [hFi]
      have e3 := seqL_at hat
      simp only [wDrop, wMt, wCons, wNil, wBin, wCB, wSl, wP, wVar, getV, some!, mutL, hatm, asI, oAdd, oSl, e3]
      rw [show ((F : Int) + (w : Int)) = ((F + w : Nat) : Int) by push_cast; rfl, cut_rows (Nat.le_add_right _ _) hFb, show F + w - F = w by omega]
      simp only [oTuple, one, seqA, seqL, seqM, some!, oAppend, mutL, hatm, List.length_map]
      refine ⟨by unfold sizeLine; omega, hq2 _ _ ⟨ms ++ [(rows.drop F).take w], _, _, ext_chg E hpmn, by rw [put_ne ne1]; exact hat, by rw [put_ne ne2]; exact hatl, by rw [put_same, List.map_append]; rfl, by rw [List.length_append, hms]; rfl, fun y hy => ?_, rfl⟩⟩
      rcases List.mem_append.mp hy with z | z
      · exact hmo y z
      · rw [List.mem_singleton] at z; subst z
        exact ⟨by rw [List.length_take, List.length_drop]; omega, mat_sub hr⟩
    · rintro e S3 ⟨ms, x6, x10, E, hat, hatl, hatm, hms, hmo, rfl⟩
      refine n1 _ _ ?_
      obtain ⟨l, hlok, el⟩ := mat5 hms hmo
      have e3 := seqA_at hatm
      simp only [wDrop, wMt, wCons, wNil, wCB, wVar, getV, some!, mutL, hatl, oTuple, one, e3, el, oAppend, List.length_map]
      refine ⟨by unfold sizeLine; omega, hq _ _ ⟨ls ++ [l], _, _, _, _, ext_chg E hpln, by rw [put_ne hpne]; exact hat, by rw [put_same, List.map_append]; rfl, by rw [List.length_append, hls]; rfl, fun y hy => ?_, rfl⟩⟩
      rcases List.mem_append.mp hy with z | z
      · exact hlo y z
      · rw [List.mem_singleton] at z; subst z; exact hlok
  · rintro e S2 ⟨ls, x6, x8, x9, x10, E, hat, hatl, hls, hlo, rfl⟩
    rw [rngD_length] at hls
    refine n1 _ _ ?_
    have e3 := seqL_at hat
    have e4 := seqA_at hatl
    have hLi : (2 : Int) * (L : Int) = ((2 * L : Nat) : Int) := by push_cast; rfl
    obtain ⟨sh, hsh⟩ : ∃ sh, rows[2 * L]? = some sh := ⟨_, List.getElem?_eq_getElem (by omega)⟩
    have a1 := fun Q => oIx_eq (S := S2) (x := .ref pt) (i := ((2 * L : Nat) : Int)) (seqA_at hat) (at_k (by rw [List.getElem?_map, hsh]; rfl)) Q
    simp only [wRet, wTup, wCons, wNil, wCB, wSl, wNoP, wP, wBin, wVar, wC, getV, some!, asI, oSl, e3, oMul, oI]
    rw [cut_rows0 (by omega : L ≤ rows.length)]
    simp only [oTuple, one, sl, e4, some!]
    refine ⟨mulw (by decide) ⟨by omega, by omega⟩, ?_⟩
    rw [hLi, a1]
    simp only [e3, e4]
    refine ⟨mulw (by decide) ⟨by omega, by omega⟩, ?_⟩
    rw [cut_rows (by omega) (by omega), show 2 * L - L = L by omega]
    refine ⟨by show 5 ≤ sizeLine; decide, h ⟨p, rows.take L, sh, ls, (rows.drop L).take L⟩ ⟨hw, hL, hp, ⟨by show (rows.take L).length = L; rw [List.length_take]; omega, fun v hv => hr v (List.mem_of_mem_take hv)⟩, hr sh (List.mem_of_getElem? hsh), ⟨by show ls.length ≤ 3; omega, hlo⟩, ⟨by show ((rows.drop L).take L).length = L; rw [List.length_take, List.length_drop]; omega, mat_sub hr⟩⟩ rfl S2 E⟩
end K07
set_option Elab.async false
set_option linter.all false
set_option maxRecDepth 100000
set_option maxHeartbeats 1000000
namespace K07
open PySem PySem.Spec PyProof.Rows L2 DL
/-! ### the law's own row -/
def Smp (p : Int) (v : Vec) : Prop := ∀ x, x ∈ v → 0 ≤ x ∧ x < p
theorem smp_plus {p : Int} {a b : Vec} (h : 0 < p) : Smp p (plusF p a b) := fun x hx => by
  rw [plusF_zip] at hx
  obtain ⟨q, _, rfl⟩ := List.mem_map.mp hx
  exact ⟨Int.emod_nonneg _ (by omega), Int.emod_lt_of_pos _ h⟩
theorem rz {f : Int → Int → Int} {a b : Vec} {w : Nat} (ha : a.length = w) (hb : b.length = w) : (List.range w).map (fun k => f (a.getD k 0) (b.getD k 0)) = List.zipWith f a b := by
  refine List.ext_getElem? fun i => ?_
  rw [List.getElem?_map, List.getElem?_zipWith]
  by_cases h : i < w
  · rw [List.getElem?_range h, List.getElem?_eq_getElem (by omega : i < a.length), List.getElem?_eq_getElem (by omega : i < b.length)]
    simp [List.getD_eq_getElem?_getD, List.getElem?_eq_getElem (by omega : i < a.length), List.getElem?_eq_getElem (by omega : i < b.length)]
  · rw [List.getElem?_eq_none (by rw [List.length_range]; omega), List.getElem?_eq_none (by omega : a.length ≤ i)]
    rfl
theorem mod_step (x l d v p : Int) : ((x + l) % p + d % p * v) % p = (x + (l + d * v) % p) % p := by
  rw [Int.add_emod ((x + l) % p), Int.emod_emod_of_dvd _ (Int.dvd_refl p), Int.mul_emod (d % p), Int.emod_emod_of_dvd _ (Int.dvd_refl p), ← Int.mul_emod, ← Int.add_emod, Int.add_emod x ((l + d * v) % p), Int.emod_emod_of_dvd _ (Int.dvd_refl p), ← Int.add_emod, Int.add_assoc]
theorem plus_step (p d : Int) : ∀ (x l v : Vec), plusF p (plusF p x l) (v.map (d % p * ·)) = plusF p x (plusF p l (v.map (d * ·)))
  | [], _, _ => rfl
  | _ :: _, [], _ => rfl
  | _ :: _, _ :: _, [] => rfl
  | x :: xs, l :: ls, v :: vs => by
    show ((x + l) % p + d % p * v) % p :: plusF p (plusF p xs ls) (vs.map (d % p * ·)) = (x + (l + d * v) % p) % p :: plusF p xs (plusF p ls (vs.map (d * ·)))
    rw [mod_step, plus_step p d xs ls vs]
theorem plus_zero {p : Int} : ∀ {x q : Vec}, Smp p x → x.length = q.length → plusF p x (q.map fun _ => 0) = x
  | [], [], _, _ => rfl
  | x :: xs, q :: qs, h, hl => by
    have hx := h x List.mem_cons_self
    show (x + 0) % p :: plusF p xs (qs.map fun _ => 0) = _
    rw [Int.add_zero, Int.emod_eq_of_lt hx.1 hx.2, plus_zero (fun y hy => h y (List.mem_cons_of_mem _ hy)) (Nat.succ.inj hl)]
section
variable {S : Sto} {n : NetV} {l : Lay} {p : Vec × Vec} {r : Rw} {Q : Qd}
theorem nt0 : oIx S (dNetT n) (.int 0) Q = Q (.int n.prime) S := oIx_eq (xs := [.int n.prime, dM n.embed, dT n.shift, .tup (n.layers.map dLay), dM n.out]) rfl rfl Q
theorem nt1 : oIx S (dNetT n) (.int 1) Q = Q (dM n.embed) S := oIx_eq (xs := [.int n.prime, dM n.embed, dT n.shift, .tup (n.layers.map dLay), dM n.out]) rfl rfl Q
theorem nt2 : oIx S (dNetT n) (.int 2) Q = Q (dT n.shift) S := oIx_eq (xs := [.int n.prime, dM n.embed, dT n.shift, .tup (n.layers.map dLay), dM n.out]) rfl rfl Q
theorem nt3 : oIx S (dNetT n) (.int 3) Q = Q (.tup (n.layers.map dLay)) S := oIx_eq (xs := [.int n.prime, dM n.embed, dT n.shift, .tup (n.layers.map dLay), dM n.out]) rfl rfl Q
theorem nt4 : oIx S (dNetT n) (.int 4) Q = Q (dM n.out) S := oIx_eq (xs := [.int n.prime, dM n.embed, dT n.shift, .tup (n.layers.map dLay), dM n.out]) rfl rfl Q
theorem ly0 : oIx S (dLay l) (.int 0) Q = Q (dM l.q) S := oIx_eq (xs := [dM l.q, dM l.k, dM l.v, dM l.f, dM l.s]) rfl rfl Q
theorem ly1 : oIx S (dLay l) (.int 1) Q = Q (dM l.k) S := oIx_eq (xs := [dM l.q, dM l.k, dM l.v, dM l.f, dM l.s]) rfl rfl Q
theorem ly2 : oIx S (dLay l) (.int 2) Q = Q (dM l.v) S := oIx_eq (xs := [dM l.q, dM l.k, dM l.v, dM l.f, dM l.s]) rfl rfl Q
theorem ly3 : oIx S (dLay l) (.int 3) Q = Q (dM l.f) S := oIx_eq (xs := [dM l.q, dM l.k, dM l.v, dM l.f, dM l.s]) rfl rfl Q
theorem ly4 : oIx S (dLay l) (.int 4) Q = Q (dM l.s) S := oIx_eq (xs := [dM l.q, dM l.k, dM l.v, dM l.f, dM l.s]) rfl rfl Q
theorem pr0 : oIx S (dP p) (.int 0) Q = Q (dT p.1) S := oIx_eq (xs := [dT p.1, dT p.2]) rfl rfl Q
theorem pr1 : oIx S (dP p) (.int 1) Q = Q (dT p.2) S := oIx_eq (xs := [dT p.1, dT p.2]) rfl rfl Q
theorem rw0 : oIx S (dRw r) (.int 0) Q = Q (.tup (r.pairs.map dP)) S := oIx_eq (xs := [.tup (r.pairs.map dP), dT r.wts]) rfl rfl Q
end
/-- an item of a row of ints -/
theorem ixI {S : Sto} {i : Bool} {v : Vec} {k : Nat} {Q : Qd} (h : k < v.length) : oIx S (dR i v) (.int (k : Int)) Q = Q (.int (v.getD k 0)) S := by
  rw [oIx_eq (S := S) (x := dR i v) (i := (k : Int)) (xs := v.map D.int) seqA_dR (at_k (by rw [List.getElem?_map, List.getElem?_eq_getElem h]; rfl)) Q, List.getD_eq_getElem?_getD, List.getElem?_eq_getElem h]
  rfl
theorem getD_mem {v : Vec} {k : Nat} (h : k < v.length) : v.getD k 0 ∈ v := by
  rw [List.getD_eq_getElem?_getD, List.getElem?_eq_getElem h]
  exact List.getElem_mem h
theorem ints_rng {w : Nat} {f : Nat → Int} : (List.range w).map (fun k => D.int (f k)) = ((List.range w).map f).map D.int := by rw [List.map_map]; rfl
theorem len__law_row (c : Cl) : ∀ ds S Q E, sp__law_row c ds S Q E → ds.length = 3 := by
  rintro ds S Q E ⟨_, _, _, _, _, _, rfl, _⟩; rfl
theorem rd__law_row (c : Cl) : ∀ ds S Q X1, sp__law_row c ds S Q X1 → w__law_row c (startD N__law_row_ ds) S (endQ Q X1) := by
  rintro ds S Q X1 ⟨n, d, rows, l, w, L, rfl, hd, hn, hr, hl, h⟩
  have hp := prime_pos hn
  have hp' : 0 < n.prime ∧ n.prime ≤ 97 := ⟨hp.1, hp.2.2⟩
  have wle := hn.w1
  show w__law_row c [some (dNetT n), some d, some (.int l), none, none, none, none, none, none, none, none, none, none, none, none, none, none] S (endQ Q X1)
  unfold w__law_row
  refine seq_k fun q1 n1 r1 _ _ x1 => ?_
  simp only [wSet, wBin, wVar, wC, getV, setV, some!, nt0]
  refine n1 _ _ ?_
  refine seq_k fun q1 n1 r1 _ _ x1 => ?_
  have hlt : l.toNat < n.embed.length := by have := hn.em.1; omega
  obtain ⟨ev, hev⟩ : ∃ ev, n.embed[l.toNat]? = some ev := ⟨_, List.getElem?_eq_getElem hlt⟩
  have hevw := hn.em.2 ev (List.mem_of_getElem? hev)
  have a1 := fun Q => oIx_eq (S := S) (x := dM n.embed) (i := l) rfl (at_z hl.1 (by rw [List.getElem?_map, hev]; rfl) : atI (n.embed.map dT) l = some (dT ev)) Q
  have ol := fun (Q : Qd) => oLen_of (S := S) (d := d) (Q := Q) hd
  have olt := fun (v : Vec) (Q : Qd) => oLen_of (S := S) (d := dT v) (xs := v.map D.int) (Q := Q) rfl
  simp only [wSet, wLc, wRg1, wBin, wCB, wCons, wNil, wVar, wC, getV, setV, some!, nt2]
  refine olt _ _ ?_
  simp only [asI, List.length_map, delVs, delV, hn.sh.1]
  refine ⟨⟨by omega, by omega⟩, by rw [rngD_length]; unfold sizeLine; omega, ?_⟩
  rw [Int.toNat_natCast, rng_eq]
  refine compI_vals (List.range w) (fun i => .int (i : Int)) (fun k => .int ((ev.getD k 0 + (rows.length : Int) * n.shift.getD k 0) % n.prime)) trivial (fun k hk R hR => ?_) ?_
  · have hk := List.mem_range.mp hk
    have i1 : ∀ Q, oIx S (dT ev) (.int (k : Int)) Q = Q (.int (ev.getD k 0)) S := fun Q => ixI (i := true) (by rw [hevw.1]; exact hk)
    have i2 : ∀ Q, oIx S (dT n.shift) (.int (k : Int)) Q = Q (.int (n.shift.getD k 0)) S := fun Q => ixI (i := true) (by rw [hn.sh.1]; exact hk)
    have b1 := hn.sh.2 _ (getD_mem (by rw [hn.sh.1]; exact hk))
    simp only [gN, setV, wBin, wCB, wCons, wNil, wVar, wC, getV, some!, nt1, a1, i1]
    refine ol _ ?_
    simp only [nt2, i2, List.length_map, oMul, oI, oAdd, oInt, one, oMod]
    exact ⟨mulw ⟨by omega, by have := hr.1; omega⟩ ⟨b1.1, by omega⟩, hp.1, hR⟩
  rw [ints_rng (f := fun k => (ev.getD k 0 + (rows.length : Int) * n.shift.getD k 0) % n.prime), rz (f := fun x y => (x + (rows.length : Int) * y) % n.prime) hevw.1 hn.sh.1]
  refine n1 _ _ ?_
  have ex0 : List.zipWith (fun x y => (x + (rows.length : Int) * y) % n.prime) ev n.shift = x0F n rows l := by
    unfold x0F plusF; rw [List.getD_eq_getElem?_getD, hev, List.zipWith_map_right]; rfl
  rw [ex0]
  have ok0 := x0_ok (rows := rows) hn hl
  have sp0 : Smp n.prime (x0F n rows l) := smp_plus hp.1
  generalize hx0 : x0F n rows l = x0 at ok0 sp0
  refine seq_k fun q1 n1 r1 _ _ x1 => ?_
  simp only [wSet, wLstM, wNil, setV]
  refine ⟨Nat.zero_le _, fun po hpo => n1 _ _ ?_⟩
  have E := ext_put (m := .lst []) (ext_refl S) hpo
  have hat : put S po (.lst []) po = some (.lst (([] : List (Vec × Vec)).map dP)) := put_same
  generalize put S po (.lst []) = S1 at E hat
  refine seq_k fun q1 n1 r1 _ _ x1 => ?_
  simp only [wFor, wRg1, wCB, wCons, wNil, wBin, wVar, wC, getV, some!, nt3, oLen, one, seqA, seqL, seqM, List.length_map, asI]
  refine ⟨⟨by omega, by have := hn.la.1; omega⟩, ?_⟩
  rw [Int.toNat_natCast]
  refine forI_invq (fun i e' S' => ∃ st x6 x7 x8 x9 x10 x11 x12 x13, st = (n.layers.take i).foldl (stepL n.prime rows) ([], x0) ∧ StOk w st ∧ Smp n.prime st.2 ∧ Ext S S' ∧ S' po = some (.lst (st.1.map dP)) ∧
    e' = [some (dNetT n), some d, some (.int l), some (.int n.prime), some (dL st.2), some (.ref po), x6, x7, x8, x9, x10, x11, x12, x13, none, none, none]) ⟨([], x0), _, _, _, _, _, _, _, _, rfl, ⟨ok0, fun p h => by cases h⟩, sp0, E, hat, rfl⟩ (fun _ _ _ _ => trivial) ?_ ?_
  · rintro i d' e' S' hi ⟨st, x6, x7, x8, x9, x10, x11, x12, x13, est, ok, spx, E, hat, rfl⟩ q hq _ _ _ _
    obtain ⟨hlt2, rfl⟩ := rngD_get hi
    rw [Int.zero_add]
    obtain ⟨la, hla⟩ : ∃ la, n.layers[i]? = some la := ⟨_, List.getElem?_eq_getElem hlt2⟩
    have hlen : st.1.length = i := by rw [est, fold_len, List.length_take]; simp; omega
    obtain ⟨k1, k2, k3, k4, k5⟩ := hn.la.2 la (List.mem_of_getElem? hla)
    have hd' := seqA_ext E hd
    obtain ⟨ox, opa⟩ := id ok
    have sv : Sm st.2 := ox.2.sm
    have ok2 := step_ok hp' hr (by rw [hlen]; exact hlt2) (hn.la.2 la (List.mem_of_getElem? hla)) ok
    have sp2 : Smp n.prime (stepL n.prime rows st la).2 := smp_plus hp.1
    have est2 : (n.layers.take (i + 1)).foldl (stepL n.prime rows) ([], x0) = stepL n.prime rows st la := by rw [fold_snoc hla, ← est]
    have mk : ∀ {m : Mat} {v : Vec}, m.length = w ∧ MatOk w m → v.length = w → m.length ≤ 1000 ∧ ∀ r, r ∈ m → r.length = v.length ∧ Sm r := fun hm hv => ⟨by have := hm.1; omega, fun r hr => ⟨by rw [(hm.2 r hr).1, hv], (hm.2 r hr).2⟩⟩
    have al := fun Q => oIx_eq (S := S') (x := .tup (n.layers.map dLay)) (i := (i : Int)) rfl (at_k (by rw [List.getElem?_map, hla]; rfl)) Q
    simp only [gN, setV]
    refine seq_k fun q1 n1 r1 _ _ x1 => ?_
    simp only [wSet, wBin, wVar, wC, getV, setV, some!, nt3, al]
    refine n1 _ _ ?_
    refine seq_k fun q1 n1 r1 _ _ x1 => ?_
    simp only [wSet, wCall, wCons, wNil, wBin, wVar, wC, getV, setV, some!, ly0]
    refine ⟨la.q, false, st.2, n.prime, rfl, (mk k1 ox.1).1, (mk k1 ox.1).2, by have := ox.1; omega, sv, hp.1, n1 _ _ ?_⟩
    have hq97 := w97_times (v := st.2) hp' k1.1
    refine seq_k fun q1 n1 r1 _ _ x1 => ?_
    simp only [wSet, wTup, wCB, wCall, wCons, wNil, wBin, wVar, wC, getV, setV, some!, ly1, ly2]
    refine ⟨la.k, false, st.2, n.prime, rfl, (mk k2 ox.1).1, (mk k2 ox.1).2, by have := ox.1; omega, sv, hp.1, ?_⟩
    simp only [oTuple, one, dL, sl, some!]
    refine ⟨la.v, false, st.2, n.prime, rfl, (mk k3 ox.1).1, (mk k3 ox.1).2, by have := ox.1; omega, sv, hp.1, ?_⟩
    simp only [dL, sl]
    refine ⟨z2, n1 _ _ ?_⟩
    have hpair : D.tup [.tup ((timesF n.prime la.k st.2).map D.int), .tup ((timesF n.prime la.v st.2).map D.int)] = dP (pairF n.prime la st.2) := rfl
    rw [hpair]
    have hpk : W97 w (pairF n.prime la st.2).1 := w97_times hp' k2.1
    have hpv : W97 w (pairF n.prime la st.2).2 := w97_times hp' k3.1
    have hbo : ∀ p, p ∈ beforeF rows st.1.length ++ [pairF n.prime la st.2] → Wd w p.1 ∧ Wd w p.2 := fun p hp2 => by
      rcases List.mem_append.mp hp2 with z | z
      · exact before_ok hr (by rw [hlen]; exact hlt2) p z
      · rw [List.mem_singleton] at z; subst z
        exact ⟨hpk.wd, hpv.wd⟩
    refine seq_k fun q1 n1 r1 _ _ x1 => ?_
    simp only [wFor, wIt, wBin, wLc, wLst, wCons, wNil, wVar, getV, some!, hd', delVs, delV, List.length_map]
    refine ⟨by have := hr.1; unfold sizeLine; omega, compI_vals rows dRw (fun r => dP (r.pairs.getD i ([], []))) hd' (fun r hr2 R hR => ?_) ?_⟩
    · have hri := hr.2 r hr2
      have hli : i < r.pairs.length := by have := hri.pa.1; omega
      have a2 := fun Q => oIx_eq (S := S') (x := .tup (r.pairs.map dP)) (i := (i : Int)) rfl (at_k (by rw [List.getElem?_map, List.getElem?_eq_getElem hli]; rfl)) Q
      simp only [gN, setV, wBin, wVar, wC, getV, some!, rw0, a2]
      rw [List.getD_eq_getElem?_getD, List.getElem?_eq_getElem hli] at hR
      exact hR
    have hbef : rows.map (fun r => dP (r.pairs.getD i ([], []))) = (beforeF rows st.1.length).map dP := by
      unfold beforeF; rw [hlen, List.map_map]; rfl
    rw [hbef]
    simp only [oAdd, oCatL, seqM, some!]
    refine ⟨z1, by rw [List.length_map]; show (rows.map _).length + 1 ≤ _; rw [List.length_map]; have := hr.1; unfold sizeLine; omega, ?_⟩
    have hcat : (beforeF rows st.1.length).map dP ++ [dP (pairF n.prime la st.2)] = (beforeF rows st.1.length ++ [pairF n.prime la st.2]).map dP := by rw [List.map_append]; rfl
    rw [hcat, sl]
    simp only []
    -- the inner loop
    have hx1d : nextX n.prime (beforeF rows st.1.length) la st.2 = plusF n.prime (plusF n.prime st.2 (lookF n.prime (timesF n.prime la.q st.2) (beforeF rows st.1.length ++ [pairF n.prime la st.2]))) (timesF n.prime la.s ((timesF n.prime la.f (plusF n.prime st.2 (lookF n.prime (timesF n.prime la.q st.2) (beforeF rows st.1.length ++ [pairF n.prime la st.2])))).map fun n => n * n)) := rfl
    have esl : stepL n.prime rows st la = (st.1 ++ [pairF n.prime la st.2], nextX n.prime (beforeF rows st.1.length) la st.2) := rfl
    rw [esl, hx1d] at ok2 sp2 est2
    clear hx1d esl
    generalize hps : beforeF rows st.1.length ++ [pairF n.prime la st.2] = ps at hbo ok2 sp2 est2
    generalize hqq : timesF n.prime la.q st.2 = qv at hq97 ok2 sp2 est2
    refine forI_invq (fun k e' S'' => S'' = S' ∧ ∃ x10 x11, e' = [some (dNetT n), some d, some (.int l), some (.int n.prime), some (dL (plusF n.prime st.2 (lookF n.prime qv (ps.take k)))), some (.ref po), some (.int (i : Int)), some (dLay la), some (.lst (qv.map D.int)), some (dP (pairF n.prime la st.2)), x10, x11, x12, x13, none, none, none])
      ⟨rfl, _, _, by rw [show lookF n.prime qv (ps.take 0) = qv.map fun _ => 0 from rfl, plus_zero spx (by rw [ox.1, hq97.1])]; rfl⟩ (fun _ _ _ _ => rfl) ?_ ?_
    · rintro k d2 e2 S2 hi2 ⟨rfl, x10, x11, rfl⟩ q2 hq2 _ _ _ _
      rw [List.getElem?_map] at hi2
      obtain ⟨pk, hpk2, rfl⟩ := Option.map_eq_some_iff.mp hi2
      have hpo2 := hbo pk (List.mem_of_getElem? hpk2)
      have hlk : (plusF n.prime st.2 (lookF n.prime qv (ps.take k))).length = w := by
        rw [len_plus, ox.1, len_look hq97.1 (fun x hx => (hbo x (List.mem_of_mem_take hx)).2.1), Nat.min_self]
      have hlk97 : Sm97 (plusF n.prime st.2 (lookF n.prime qv (ps.take k))) := sm_plus hp'
      simp only [gN, setV]
      refine seq_k fun q1 n1 r1 _ _ x1 => ?_
      simp only [wSet, wCall, wCons, wNil, wBin, wVar, wC, getV, setV, some!, pr0]
      refine ⟨false, true, qv, pk.1, n.prime, rfl, by rw [hq97.1, hpo2.1.1], by have := hq97.1; omega, hq97.2.sm, hpo2.1.2, hp.1, n1 _ _ ?_⟩
      have hnear := sm_mod (x := psum qv pk.1) hp'
      have olx := fun (v : Vec) (Q : Qd) => oLen_of (S := S2) (d := dL v) (xs := v.map D.int) (Q := Q) rfl
      have estep : plusF n.prime st.2 (lookF n.prime qv (ps.take (k + 1))) = plusF n.prime (plusF n.prime st.2 (lookF n.prime qv (ps.take k))) (pk.2.map (psum qv pk.1 % n.prime * ·)) := by
        rw [look_snoc hpk2, plus_step]
      generalize plusF n.prime st.2 (lookF n.prime qv (ps.take k)) = y at hlk hlk97 estep
      simp only [wSet, wLc, wRg1, wCB, wCons, wNil, wVar, getV, setV, some!]
      refine olx _ _ ?_
      simp only [asI, List.length_map, delVs, delV, hlk]
      refine ⟨⟨by omega, by omega⟩, by rw [rngD_length]; unfold sizeLine; omega, ?_⟩
      rw [Int.toNat_natCast, rng_eq]
      refine compI_vals (List.range w) (fun i => .int (i : Int)) (fun k => .int ((y.getD k 0 + psum qv pk.1 % n.prime * pk.2.getD k 0) % n.prime)) trivial (fun k hk R hR => ?_) ?_
      · have hk := List.mem_range.mp hk
        have i1 : ∀ Q, oIx S2 (dL y) (.int (k : Int)) Q = Q (.int (y.getD k 0)) S2 := fun Q => ixI (i := false) (by rw [hlk]; exact hk)
        have i2 : ∀ Q, oIx S2 (dT pk.2) (.int (k : Int)) Q = Q (.int (pk.2.getD k 0)) S2 := fun Q => ixI (i := true) (by rw [hpo2.2.1]; exact hk)
        have b1 := hpo2.2.2 _ (getD_mem (by rw [hpo2.2.1]; exact hk))
        simp only [gN, setV, wBin, wCB, wCons, wNil, wVar, wC, getV, some!, i1, pr1, i2, oMul, oI, oAdd, oInt, one, oMod]
        exact ⟨mulw ⟨hnear.1, by omega⟩ ⟨b1.1, by omega⟩, hp.1, hR⟩
      rw [ints_rng (f := fun k => (y.getD k 0 + psum qv pk.1 % n.prime * pk.2.getD k 0) % n.prime), rz (f := fun a b => (a + psum qv pk.1 % n.prime * b) % n.prime) hlk hpo2.2.1]
      refine hq2 _ _ ⟨rfl, some (dP pk), some (.int (psum qv pk.1 % n.prime)), ?_⟩
      rw [estep]
      unfold plusF
      rw [List.zipWith_map_right]
      rfl
    · rintro e2 S2 ⟨rfl, x10, x11, rfl⟩
      rw [List.length_map, List.take_length]
      refine n1 _ _ ?_
      have hx1 := w97_plus (a := st.2) (b := lookF n.prime qv ps) hp' ox.1 (len_look hq97.1 fun x hx => (hbo x hx).2.1)
      generalize plusF n.prime st.2 (lookF n.prime qv ps) = y at hx1 ok2 sp2 est2
      have hf97 := w97_times (v := y) hp' k4.1
      refine seq_k fun q1 n1 r1 _ _ x1 => ?_
      simp only [wSet, wLc, wIt, wCall, wCons, wNil, wBin, wVar, wC, getV, setV, some!, ly3]
      refine ⟨la.f, false, y, n.prime, rfl, (mk k4 hx1.1).1, (mk k4 hx1.1).2, by have := hx1.1; omega, hx1.2.sm, hp.1, ?_⟩
      simp only [dL, sl, delVs, delV, List.length_map]
      refine ⟨by have := hf97.1; unfold sizeLine; omega, compI_vals (timesF n.prime la.f y) D.int (fun y => .int (y * y)) trivial (fun z hz R hR => ?_) ?_⟩
      · have h2 := hf97.2 z hz
        simp only [gN, setV, wBin, wVar, getV, some!, oMul, oI]
        exact ⟨mulw ⟨h2.1, by omega⟩ ⟨h2.1, by omega⟩, hR⟩
      rw [ints_map (f := fun y => y * y)]
      refine n1 _ _ ?_
      refine seq_k fun q1 n1 r1 _ _ x1 => ?_
      simp only [wSet, wCall, wCons, wNil, wBin, wVar, wC, getV, setV, some!, ly4]
      have hsq : ((timesF n.prime la.f y).map fun y => y * y).length = w := by rw [List.length_map]; exact hf97.1
      refine ⟨la.s, false, (timesF n.prime la.f y).map fun y => y * y, n.prime, rfl, (mk k5 hsq).1, (mk k5 hsq).2, by omega, sm_sq hf97.2, hp.1, n1 _ _ ?_⟩
      have hs97 := w97_times (v := (timesF n.prime la.f y).map fun y => y * y) hp' k5.1
      generalize timesF n.prime la.s ((timesF n.prime la.f y).map fun y => y * y) = mo at hs97 ok2 sp2 est2
      refine seq_k fun q1 n1 r1 _ _ x1 => ?_
      have olx := fun (v : Vec) (Q : Qd) => oLen_of (S := S2) (d := dL v) (xs := v.map D.int) (Q := Q) rfl
      simp only [wSet, wLc, wRg1, wCB, wCons, wNil, wVar, getV, setV, some!]
      refine olx y _ ?_
      simp only [asI, List.length_map, delVs, delV, hx1.1]
      refine ⟨⟨by omega, by omega⟩, by rw [rngD_length]; unfold sizeLine; omega, ?_⟩
      rw [Int.toNat_natCast, rng_eq]
      refine compI_vals (List.range w) (fun i => .int (i : Int)) (fun k => .int ((y.getD k 0 + mo.getD k 0) % n.prime)) trivial (fun k hk R hR => ?_) ?_
      · have hk := List.mem_range.mp hk
        have i1 : ∀ Q, oIx S2 (dL y) (.int (k : Int)) Q = Q (.int (y.getD k 0)) S2 := fun Q => ixI (i := false) (by rw [hx1.1]; exact hk)
        have i2 : ∀ Q, oIx S2 (dL mo) (.int (k : Int)) Q = Q (.int (mo.getD k 0)) S2 := fun Q => ixI (i := false) (by rw [hs97.1]; exact hk)
        have i1' : ∀ Q, oIx S2 (.lst (y.map D.int)) (.int (k : Int)) Q = Q (.int (y.getD k 0)) S2 := i1
        simp only [gN, setV, wBin, wCB, wCons, wNil, wVar, wC, getV, some!, i1', i2, oAdd, oInt, one, oMod, oI]
        exact ⟨hp.1, hR⟩
      rw [ints_rng (f := fun k => (y.getD k 0 + mo.getD k 0) % n.prime), rz (f := fun a b => (a + b) % n.prime) hx1.1 hs97.1]
      refine n1 _ _ ?_
      simp only [wDrop, wMt, wCons, wNil, wVar, getV, some!, mutL, hat, oAppend, one, List.length_map]
      refine ⟨by have := hn.la.1; unfold sizeLine; omega, hq _ _ ⟨_, _, _, _, _, _, _, _, _, est2.symm, ok2, sp2, ext_chg E (ext_none (ext_refl S) hpo), by rw [put_same, List.map_append]; rfl, rfl⟩⟩
  · rintro e' S' ⟨st, x6, x7, x8, x9, x10, x11, x12, x13, est, ok, spx, E, hat, rfl⟩
    rw [rngD_length, List.take_length] at est
    refine n1 _ _ ?_
    have e3 := seqA_at hat
    simp only [wRet, wTup, wCB, wCons, wNil, wLc, wIt, wBin, wVar, wC, getV, some!, oTuple, one, e3, nt4]
    simp only [dM, seqA, delVs, delV, List.length_map]
    refine ⟨by have := hn.ou.1; have := hn.l1; unfold sizeLine; omega, compI_vals n.out dT (fun v => .int (1 + psum v st.2 % n.prime)) trivial (fun v hv R hR => ?_) ?_⟩
    · have hv2 := hn.ou.2 v hv
      simp only [gN, setV, wBin, wCall, wCons, wNil, wVar, wC, getV, some!]
      refine ⟨true, false, v, st.2, n.prime, rfl, by rw [hv2.1, ok.x.1], by have := hv2.1; omega, hv2.2, ok.x.2.sm, hp.1, ?_⟩
      simp only [oAdd]
      rw [Int.add_comm]
      exact hR
    simp only [seqL, seqM]
    refine ⟨z2, ?_⟩
    have eo : n.out.map (fun v => D.int (1 + psum v st.2 % n.prime)) = (n.out.map fun v => 1 + psum v st.2 % n.prime).map D.int := by rw [List.map_map]; rfl
    rw [eo, est]
    have := h S' E
    unfold rowF at this
    rw [hx0] at this
    exact this
theorem len__law_rows (c : Cl) : ∀ ds S Q E, sp__law_rows c ds S Q E → ds.length = 2 := by
  rintro ds S Q E ⟨_, _, _, _, _, rfl, _⟩; rfl
theorem rd__law_rows (c : Cl) : ∀ ds S Q X1, sp__law_rows c ds S Q X1 → w__law_rows c (startD N__law_rows_ ds) S (endQ Q X1) := by
  rintro ds S Q X1 ⟨n, i, ls, w, L, rfl, hn, hl, h50, h⟩
  show w__law_rows c [some (dNetT n), some (dR i ls), none, none] S (endQ Q X1)
  unfold w__law_rows
  refine seq_k fun q1 n1 r1 _ _ x1 => ?_
  simp only [wSet, wLstM, wNil, setV]
  refine ⟨Nat.zero_le _, fun p hp => n1 _ _ ?_⟩
  have E := ext_put (m := .lst []) (ext_refl S) hp
  have hat : put S p (.lst []) p = some (.lst ((rowsF n (ls.take 0)).map dRw)) := put_same
  generalize put S p (.lst []) = S1 at E hat
  refine seq_k fun q1 n1 r1 _ _ x1 => ?_
  simp only [wFor, wIt, wVar, getV, some!, seqA_dR]
  refine forI_invq (fun k e' S' => ∃ x3, Ext S S' ∧ S' p = some (.lst ((rowsF n (ls.take k)).map dRw)) ∧ e' = [some (dNetT n), some (dR i ls), some (.ref p), x3]) ⟨_, E, hat, rfl⟩ (fun _ _ _ _ => trivial) ?_ ?_
  · rintro k d e' S' hi ⟨x3, E, hat, rfl⟩ q hq _ _ _ _
    rw [List.getElem?_map] at hi
    obtain ⟨l, hlk, rfl⟩ := Option.map_eq_some_iff.mp hi
    simp only [gN, setV, wDrop, wMt, wCall, wCons, wNil, wVar, getV, some!, mutL, hat]
    refine ⟨n, .ref p, rowsF n (ls.take k), l, w, L, rfl, seqA_at hat, hn, rowsF_ok hn hl (by omega) k, hl l (List.mem_of_getElem? hlk), fun S2 E2 => ?_⟩
    have hat2 := E2 _ _ hat
    simp only [oAppend, mutL, hat2, one]
    refine ⟨by rw [List.length_map, rowsF_len, List.length_take]; unfold sizeLine; omega, hq _ _ ⟨_, ext_chg (ext_trans E E2) (ext_none (ext_refl S) hp), ?_, rfl⟩⟩
    rw [put_same, rowsF_take hlk, List.map_append]; rfl
  · rintro e' S' ⟨x3, E, hat, rfl⟩
    rw [List.length_map, List.take_length] at hat
    refine n1 _ _ ?_
    simp only [wRet, wVar, getV, some!]
    exact h p S' E hp hat
end K07
set_option Elab.async false
set_option linter.all false
set_option maxRecDepth 100000
set_option maxHeartbeats 1000000
namespace K07
open PySem PySem.Spec PyProof.Rows L2 DL
section
variable {S : Sto} {r : RuleV} {a : AskV} {Q : Qd}
theorem ru0 : oIx S (dRuleT (some r)) (.int 0) Q = Q (.int r.start) S := oIx_eq (xs := [.int r.start, dSteps r.steps]) rfl rfl Q
theorem ru1 : oIx S (dRuleT (some r)) (.int 1) Q = Q (dSteps r.steps) S := oIx_eq (xs := [.int r.start, dSteps r.steps]) rfl rfl Q
end
theorem len__law_after (c : Cl) : ∀ ds S Q E, sp__law_after c ds S Q E → ds.length = 2 := by
  rintro ds S Q E ⟨_, _, _, _, rfl, _⟩; rfl
theorem after_in (c : Cl) {r : RuleV} {L : Nat} {t : Vec} (hr : RuleOk L r) (ht : LetsOk L t) : ∀ j, afterF r t = some j → 0 ≤ j ∧ j < (r.steps.length : Int) := by
  unfold afterF
  have key : ∀ (t : Vec) (o : Option Int), LetsOk L t → (∀ j, o = some j → 0 ≤ j ∧ j < (r.steps.length : Int)) → ∀ j, t.foldl (stepR r) o = some j → 0 ≤ j ∧ j < (r.steps.length : Int) := by
    intro t
    induction t with
    | nil => exact fun o _ h => h
    | cons l t ih =>
      intro o ht ho
      refine ih _ (fun x hx => ht x (List.mem_cons_of_mem _ hx)) ?_
      cases o with
      | none => intro j hj; cases hj
      | some i =>
        obtain ⟨_, o2, _, _, g3, g4⟩ := step_at (c := c) (S := fun _ => none) hr (ho i rfl) (ht l List.mem_cons_self)
        intro j hj
        rw [g3] at hj
        exact g4 j hj
  exact key t (some r.start) ht fun j hj => by cases hj; exact hr.s0
theorem rd__law_after (c : Cl) : ∀ ds S Q X1, sp__law_after c ds S Q X1 → w__law_after c (startD N__law_after_ ds) S (endQ Q X1) := by
  rintro ds S Q X1 ⟨r, L, d, t, rfl, hd, hr, ht, h⟩
  show w__law_after c [some (dRuleT (some r)), some d, none, none] S (endQ Q X1)
  unfold w__law_after
  refine seq_k fun q1 n1 r1 _ _ x1 => ?_
  simp only [wSet, wBin, wVar, wC, getV, setV, some!, ru0]
  refine n1 _ _ ?_
  refine seq_k fun q1 n1 r1 _ _ x1 => ?_
  simp only [wFor, wIt, wVar, getV, some!, hd]
  refine forI_invq (fun k e S' => S' = S ∧ ∃ (o : Option Int) (x3 : Option D), o = (t.take k).foldl (stepR r) (some r.start) ∧ (∀ j, o = some j → 0 ≤ j ∧ j < (r.steps.length : Int)) ∧ e = [some (dRuleT (some r)), some d, some (dO o), x3]) ⟨rfl, some r.start, none, rfl, fun j hj => by cases hj; exact hr.s0, rfl⟩ (fun _ _ S' h => by rw [h.1]; exact hd) ?_ ?_
  · rintro k d' e S' hi ⟨rfl, o, x3, eo, hb, rfl⟩ q hq hrt _ _ _
    rw [List.getElem?_map] at hi
    obtain ⟨l, hl, rfl⟩ := Option.map_eq_some_iff.mp hi
    simp only [gN, setV]
    cases o with
    | none =>
      simp only [wIf, wTest, wBin, wVar, wC, getV, some!, oNotN, isNon, dO, Bool.not_true, Bool.false_eq_true, if_false, wNext]
      refine hq _ _ ⟨rfl, none, _, ?_, hb, rfl⟩
      rw [fold_snoc hl, ← eo]; rfl
    | some i =>
      obtain ⟨row, o2, g1, g2, g3, g4⟩ := step_at (c := c) (S := S') hr (hb i rfl) (ht l (List.mem_of_getElem? hl))
      have a1 := fun Q => oIx_eq (S := S') (x := dSteps r.steps) (i := i) rfl g1 Q
      have a2 := fun Q => oIx_eq (S := S') (x := .tup (row.map dO)) (i := l) rfl g2 Q
      simp only [wIf, wTest, wBin, wVar, wC, getV, some!, oNotN, isNon, dO, Bool.not_false, if_true, wSet, setV, ru1, a1, a2]
      refine hq _ _ ⟨rfl, o2, _, ?_, g4, rfl⟩
      rw [fold_snoc hl, ← eo, g3]
  · rintro e S' ⟨rfl, o, x3, eo, hb, rfl⟩
    rw [List.length_map, List.take_length] at eo
    refine n1 _ _ ?_
    simp only [wRet, wVar, getV, some!]
    rw [eo]
    exact h
theorem len__law_counted (c : Cl) : ∀ ds S Q E, sp__law_counted c ds S Q E → ds.length = 3 := by
  rintro ds S Q E ⟨_, _, _, _, _, rfl, _⟩; rfl
theorem after_snoc {r : RuleV} {t : Vec} {l : Int} : afterF r (t ++ [l]) = stepR r (afterF r t) l := by
  unfold afterF; rw [List.foldl_append]; rfl
theorem rd__law_counted (c : Cl) : ∀ ds S Q X1, sp__law_counted c ds S Q X1 → w__law_counted c (startD N__law_counted_ ds) S (endQ Q X1) := by
  rintro ds S Q X1 ⟨r, L, w, d, t, rfl, hd, hr, hw, hL, ht, h⟩
  show w__law_counted c [some (dT w), some (dRuleT r), some d, none, none, none] S (endQ Q X1)
  unfold w__law_counted
  refine seq_k fun q1 n1 r1 _ _ x1 => ?_
  simp only [wSet, wCB, wCons, wNil, wVar, getV, setV, some!, oListM, one, dT, seqA]
  refine fun p hp => n1 _ _ ?_
  have E := ext_put (m := .lst (w.map D.int)) (ext_refl S) hp
  have hpn : S p = none := hp
  have hat : put S p (.lst (w.map D.int)) p = some (.lst (w.map D.int)) := put_same
  generalize put S p (.lst (w.map D.int)) = S1 at E hat
  refine seq_k fun q1 n1 r1 _ _ x1 => ?_
  cases r with
  | none =>
    simp only [wIf, wTest, wBin, wVar, wC, getV, some!, oNotN, dRuleT, isNon, Bool.not_true, Bool.false_eq_true, if_false, wNext]
    refine n1 _ _ ?_
    simp only [wRet, wVar, getV, some!]
    exact h p S1 E hat
  | some r =>
    have hr := hr r rfl
    have hd1 := seqA_ext E hd
    have hnn : (!isNon (dRuleT (some r))) = true := rfl
    simp only [wIf, wTest, wBin, wVar, wC, getV, some!, oNotN, hnn, if_true]
    refine seq_k fun q2 n2 r2 _ _ x2 => ?_
    simp only [wSet, wCall, wCons, wNil, wVar, getV, setV, some!]
    refine ⟨r, L, d, t, rfl, hd1, hr, ht, n2 _ _ ?_⟩
    simp only [wFor, wRg1, wCB, wCons, wNil, wVar, getV, some!, oLen, one, seqA, seqL, seqM, List.length_map, asI]
    refine ⟨⟨by omega, by have := hw.1; omega⟩, ?_⟩
    rw [Int.toNat_natCast]
    have hin := after_in c hr ht
    refine forI_invq (fun k e S' => ∃ (cs : Vec) (x5 : Option D), Ext S S' ∧ S' p = some (.lst (cs.map D.int)) ∧ cs.length = w.length ∧ (∀ (j : Nat) x, w[j]? = some x → cs[j]? = some (if j < k then (if (afterF r (t ++ [(j : Int)])).isSome = true then x else 0) else x)) ∧
      e = [some (.tup (w.map D.int)), some (dRuleT (some r)), some d, some (.ref p), some (dO (afterF r t)), x5]) ⟨w, none, E, hat, rfl, fun j x hx => by rw [if_neg (Nat.not_lt_zero _)]; exact hx, rfl⟩ (fun _ _ _ _ => trivial) ?_ ?_
    · rintro k d' e S2 hi ⟨cs, x5, E, hat, hcl, hcs, rfl⟩ q hq _ _ _ _
      obtain ⟨hlt, rfl⟩ := rngD_get hi
      rw [Int.zero_add]
      obtain ⟨x, hx⟩ : ∃ x, w[k]? = some x := ⟨_, List.getElem?_eq_getElem hlt⟩
      have hck := hcs k x hx
      rw [if_neg (Nat.lt_irrefl _)] at hck
      have keep : (afterF r (t ++ [(k : Int)])).isSome = true → ∀ (j : Nat) y, w[j]? = some y → cs[j]? = some (if j < k + 1 then (if (afterF r (t ++ [(j : Int)])).isSome = true then y else 0) else y) := fun hs j y hy => by
        rw [hcs j y hy]
        by_cases e : j = k
        · subst e; rw [if_neg (Nat.lt_irrefl _), if_pos (Nat.lt_succ_self _), if_pos hs]
        · by_cases g : j < k
          · rw [if_pos g, if_pos (show j < k + 1 by omega)]
          · rw [if_neg g, if_neg (show ¬ j < k + 1 by omega)]
      have zero : (afterF r (t ++ [(k : Int)])).isSome = false → (wSetI (wVar 3) (wVar 5) (wC (.int 0))) [some (.tup (w.map D.int)), some (dRuleT (some r)), some d, some (.ref p), some (dO (afterF r t)), some (.int (k : Int))] S2 q := fun hs => by
        have hix : ixN (cs.map D.int).length (k : Int) = some k := by
          unfold ixN
          rw [if_pos (by omega), if_pos (by rw [List.length_map]; omega), Int.toNat_natCast]
        simp only [wSetI, wVar, wC, getV, some!, setIx, hat, hix]
        refine hq _ _ ⟨cs.set k 0, _, ext_chg E hpn, by rw [put_same, List.map_set], by rw [List.length_set]; exact hcl, fun j y hy => ?_, rfl⟩
        rw [List.getElem?_set]
        by_cases e : k = j
        · subst e
          rw [if_pos rfl, if_pos (lt_of_some hck), if_pos (Nat.lt_succ_self _), if_neg (by rw [hs]; exact Bool.false_ne_true)]
        · rw [if_neg e, hcs j y hy]
          by_cases g : j < k
          · rw [if_pos g, if_pos (show j < k + 1 by omega)]
          · rw [if_neg g, if_neg (show ¬ j < k + 1 by omega)]
      have es : afterF r (t ++ [(k : Int)]) = stepR r (afterF r t) (k : Int) := after_snoc
      simp only [gN, setV, wIf, wOr, wTest, wBin, wVar, wC, getV, some!, oIsN]
      cases ha : afterF r t with
      | none =>
        simp only [dO, isNon, if_true]
        rw [ha] at es zero
        exact zero (by rw [es]; rfl)
      | some i =>
        rw [ha] at es
        obtain ⟨row, o2, g1, g2, g3, g4⟩ := step_at (c := c) (S := S2) (l := (k : Int)) hr (hin i ha) ⟨by omega, by rw [hw.1] at hlt; omega⟩
        have a1 := fun Q => oIx_eq (S := S2) (x := dSteps r.steps) (i := i) rfl g1 Q
        have a2 := fun Q => oIx_eq (S := S2) (x := .tup (row.map dO)) (i := (k : Int)) rfl g2 Q
        simp only [dO, isNon, Bool.false_eq_true, if_false, ru1, a1, a2]
        rw [g3] at es
        cases o2 with
        | none =>
          simp only [isNon, if_true]
          rw [ha] at zero
          exact zero (by rw [es]; rfl)
        | some j =>
          simp only [isNon, Bool.false_eq_true, if_false, wNext]
          refine hq _ _ ⟨cs, _, E, hat, hcl, keep (by rw [es]; rfl), by rw [ha]; rfl⟩
    · rintro e S2 ⟨cs, x5, E, hat, hcl, hcs, rfl⟩
      refine n1 _ _ ?_
      have ecs : cs = letF (some r) w t := by
        refine List.ext_getElem? fun j => ?_
        cases hj : w[j]? with
        | none =>
          have := List.getElem?_eq_none_iff.mp hj
          rw [List.getElem?_eq_none (by rw [hcl]; exact this), List.getElem?_eq_none (by rw [let_len]; exact this)]
        | some x =>
          rw [hcs j x hj, let_get hj, rngD_length, if_pos (lt_of_some hj)]
      rw [ecs] at hat
      simp only [wRet, wVar, getV, some!]
      exact h p S2 E hat
theorem toPs_ints : ∀ w : Vec, toPs (w.map D.int) = w.map PyData.int
  | [] => rfl
  | x :: r => by show _ :: toPs (r.map D.int) = _; rw [toPs_ints r]; rfl
theorem lay_ints : ∀ w : Vec, PyData.canLayAll0 (w.map PyData.int) = true
  | [] => rfl
  | x :: r => by
    show ((PyData.int x).canLay0 && PyData.canLayAll0 (r.map PyData.int)) = true
    rw [lay_ints r]; rfl
theorem len__law_choice (c : Cl) : ∀ ds S Q E, sp__law_choice c ds S Q E → ds.length = 4 := by
  rintro ds S Q E ⟨_, _, _, _, _, rfl, _⟩; rfl
theorem rd__law_choice (c : Cl) : ∀ ds S Q X1, sp__law_choice c ds S Q X1 → w__law_choice c (startD N__law_choice_ ds) S (endQ Q X1) := by
  rintro ds S Q X1 ⟨a, L, w, d, t, rfl, hd, ha, hw, hL, ht, h1000, h⟩
  show w__law_choice c [some (dT w), some (dRuleT a.rule), some (dT a.tape), some d, none, none, none, none] S (endQ Q X1)
  unfold w__law_choice
  refine seq_k fun q1 n1 r1 _ _ x1 => ?_
  simp only [wSet, wCall, wCons, wNil, wVar, getV, setV, some!]
  refine ⟨a.rule, L, w, d, t, rfl, hd, ha.ru, hw, hL, ht, fun p S1 E hat => n1 _ _ ?_⟩
  have hq := h S1 E
  have hd1 := seqA_ext E hd
  have hl := let_ok (r := a.rule) (t := t) hw
  unfold choiceF at hq
  dsimp only at hq
  generalize letF a.rule w t = lt at hl hq hat
  clear h
  have h0 : ∀ x, x ∈ lt → 0 ≤ x := fun x hx => (hl.2 x hx).1
  have eL := seqL_at hat
  refine seq_k fun q1 n1 r1 _ _ x1 => ?_
  simp only [wIf, wTest, wBin, wCB, wCons, wNil, wVar, wC, getV, some!, oSum, one, eL, toInts_map, oEq, shD_int, eqD_int, true_and, decide_eq_true_eq]
  by_cases z : lt.sum = 0
  · rw [if_pos z] at hq ⊢
    simp only [wRet, wC]
    rw [r1]
    exact hq
  rw [if_neg z] at hq ⊢
  refine n1 _ _ ?_
  have hpos : 0 < lt.sum := by have := sum_nn h0; omega
  have hne : lt ≠ [] := fun q => by rw [q] at z; exact z rfl
  have hlen12 : lt.length ≤ 12 := by have := hl.1; omega
  refine seq_k fun q1 n1 r1 _ _ x1 => ?_
  simp only [wIf, wTest, wBin, wCB, wCons, wNil, wVar, wC, getV, some!, oLen, one, dT, seqA, seqL, seqM, List.length_map, oEq, shD_int, eqD_int, true_and, decide_eq_true_eq]
  by_cases y : a.tape = []
  · rw [if_pos y] at hq
    rw [if_pos (by rw [y]; rfl)]
    obtain ⟨b, m, h1, h2⟩ := top_at h0 hne
    have hm := List.mem_of_getElem? h1
    simp only [wRet, wMt, wCB, wCons, wNil, wVar, getV, some!, mutL, hat, oMaxL, one, eL, toInts_map]
    refine ⟨List.length_pos_iff.mpr hne, fun m' m1 m2 => ?_⟩
    have em : m' = m := by
      have := m2 m hm
      obtain ⟨j, hj⟩ := List.mem_iff_getElem?.mp m1
      have := (h2 j m' hj).1
      omega
    subst em
    simp only [oIndex, mutL, hat, one]
    rw [toPs_ints]
    refine ⟨⟨rfl, by show (PyData.int _).depth ≤ 8; exact Nat.zero_le _⟩, lay_ints lt, by rw [List.length_map]; unfold sizeLine; omega, b, .int m', by rw [List.getElem?_map, h1]; rfl, by show (m' == m') = true; exact beq_self_eq_true m', fun j zz hj hz => ?_, ?_⟩
    · rw [List.getElem?_map] at hz
      obtain ⟨x, hx, rfl⟩ := Option.map_eq_some_iff.mp hz
      have := (h2 j x hx).2 hj
      show (x == m') = false
      simp; omega
    · rw [r1]
      rw [top_is h0 h1 h2] at hq
      exact hq
  · rw [if_neg y] at hq
    have hlen := List.length_pos_iff.mpr y
    rw [if_neg (by omega)]
    refine n1 _ _ ?_
    refine seq_k fun q1 n1 r1 _ _ x1 => ?_
    obtain ⟨v, hv⟩ : ∃ v, a.tape[t.length % a.tape.length]? = some v := ⟨_, List.getElem?_eq_getElem (Nat.mod_lt _ hlen)⟩
    have a1 := fun Q => oIx_eq (S := S1) (x := .tup (a.tape.map D.int)) (i := (t.length : Int) % (a.tape.length : Int)) rfl (show atI (a.tape.map D.int) ((t.length : Int) % (a.tape.length : Int)) = some (.int v) by
      rw [show (t.length : Int) % (a.tape.length : Int) = ((t.length % a.tape.length : Nat) : Int) by omega]
      exact at_k (by rw [List.getElem?_map, hv]; rfl)) Q
    have ol := fun (Q : Qd) => oLen_of (S := S1) (d := d) (Q := Q) hd1
    have olt := fun (Q : Qd) => oLen_of (S := S1) (d := .tup (a.tape.map D.int)) (Q := Q) rfl
    simp only [wSet, wBin, wCB, wCons, wNil, wVar, getV, setV, some!]
    refine ol _ ?_
    simp only [oInt, one, List.length_map]
    refine olt _ ?_
    simp only [oMod, oI, List.length_map]
    refine ⟨by omega, ?_⟩
    rw [a1]
    simp only [oSum, one, eL, toInts_map, some!]
    refine ⟨hpos, n1 _ _ ?_⟩
    have hq2 : Q (dO (some (byF lt v))) S1 := by
      rw [List.getD_eq_getElem?_getD, hv] at hq; exact hq
    unfold byF at hq2
    have hr0 := Int.emod_nonneg v (show lt.sum ≠ 0 by omega)
    have hr1 := Int.emod_lt_of_pos v hpos
    generalize v % lt.sum = r at hq2 hr0 hr1
    have hgl := goB_lt h0 hr1 hr0
    refine seq_k fun q1 n1 r1 _ _ x1 => ?_
    simp only [wSet, wC, setV]
    refine n1 _ _ ?_
    refine seq_k fun q1 n1 r1 _ _ x1 => ?_
    have oll := fun (Q : Qd) => oLen_of (S := S1) (d := .ref p) (Q := Q) (seqA_at hat)
    simp only [wFor, wRg1, wCB, wCons, wNil, wVar, getV, some!]
    refine oll _ ?_
    simp only [asI, List.length_map]
    refine ⟨⟨by omega, by omega⟩, ?_⟩
    rw [Int.toNat_natCast]
    refine forI_invq (fun k e S' => S' = S1 ∧ ∃ x7, e = [some (.tup (w.map D.int)), some (dRuleT a.rule), some (.tup (a.tape.map D.int)), some d, some (.ref p), some (.int r), some (.int (min k (goB lt r) : Nat)), x7]) ⟨rfl, none, by rw [Nat.zero_min]; rfl⟩ (fun _ _ _ _ => trivial) ?_ ?_
    · rintro k d' e S' hi ⟨rfl, x7, rfl⟩ q hq _ _ _ _
      obtain ⟨hlt, rfl⟩ := rngD_get hi
      rw [Int.zero_add]
      have hle := goB_le (w := lt) (r := r) (j := k + 1) h0 hr0 (by omega)
      simp only [gN, setV, wIf, wTest, wBin, wCB, wCons, wNil, wSl, wNoP, wP, wVar, wC, getV, some!, oAdd, asI, oSl, eL]
      simp only [cutD_int, oSum, one, seqL, seqM, some!, toInts_map, oGe, oI0, decide_eq_true_eq]
      rw [cutI_to (by omega), show ((k : Int) + 1).toNat = k + 1 by omega]
      by_cases g : (lt.take (k + 1)).sum ≤ r
      · rw [if_pos g]
        have := hle.mp g
        simp only [wSet, wBin, wVar, wC, getV, setV, some!, oAdd]
        refine hq _ _ ⟨rfl, some (.int (k : Int)), ?_⟩
        rw [Nat.min_eq_left this]
        rfl
      · rw [if_neg g]
        have : ¬ (k + 1 ≤ goB lt r) := fun q => g (hle.mpr q)
        refine hq _ _ ⟨rfl, some (.int (k : Int)), ?_⟩
        rw [Nat.min_eq_right (by omega), Nat.min_eq_right (by omega)]
    · rintro e S' ⟨rfl, x7, rfl⟩
      refine n1 _ _ ?_
      rw [rngD_length, Nat.min_eq_right (by omega)]
      simp only [wRet, wVar, getV, some!]
      exact hq2
end K07
set_option Elab.async false
set_option linter.all false
set_option maxRecDepth 100000
set_option maxHeartbeats 1000000
namespace K07
open PySem PySem.Spec PyProof.Rows L2 DL
/-- a drawn number -/
theorem numI {S : Sto} {ns : Vec} {m k : Nat} (hns : NumsOk m ns) (h : k < m) : ∃ v, (0 ≤ v ∧ v < 1000) ∧ ∀ Q, oIx S (dL ns) (.int (k : Int)) Q = Q (.int v) S := by
  obtain ⟨v, hv⟩ : ∃ v, ns[k]? = some v := ⟨_, List.getElem?_eq_getElem (by rw [hns.1]; exact h)⟩
  exact ⟨v, hns.2 v (List.mem_of_getElem? hv), fun Q => oIx_eq (xs := ns.map D.int) rfl (at_k (by rw [List.getElem?_map, hv]; rfl)) Q⟩
theorem modN {v : Int} {m : Int} (h : 0 < m) : 0 ≤ v % m ∧ v % m < m := ⟨Int.emod_nonneg _ (by omega), Int.emod_lt_of_pos _ h⟩
theorem len__law_rule (c : Cl) : ∀ ds S Q E, sp__law_rule c ds S Q E → ds.length = 3 := by
  rintro ds S Q E ⟨_, _, _, _, rfl, _⟩; rfl
theorem four {S : Sto} {a : Int} {q : Int} {Q : Qd} (h : 0 ≤ q ∧ q < 4) : oIx S (.lst [.int a, .int a, .int a, .non]) (.int q) Q = Q (dO (if q < 3 then some a else none)) S := by
  have e : q = 0 ∨ q = 1 ∨ q = 2 ∨ q = 3 := by omega
  rcases e with rfl | rfl | rfl | rfl
  · exact oIx_eq (xs := [.int a, .int a, .int a, .non]) rfl rfl Q
  · exact oIx_eq (xs := [.int a, .int a, .int a, .non]) rfl rfl Q
  · exact oIx_eq (xs := [.int a, .int a, .int a, .non]) rfl rfl Q
  · exact oIx_eq (xs := [.int a, .int a, .int a, .non]) rfl rfl Q
theorem rd__law_rule (c : Cl) : ∀ ds S Q X1, sp__law_rule c ds S Q X1 → w__law_rule c (startD N__law_rule_ ds) S (endQ Q X1) := by
  rintro ds S Q X1 ⟨ns, m, k, L, rfl, hns, hk, hm, hL, h⟩
  show w__law_rule c [some (dL ns), some (.int (k : Nat)), some (.int (L : Nat)), none, none, none, none, none, none] S (endQ Q X1)
  unfold w__law_rule
  obtain ⟨v0, b0, i0⟩ := numI (S := S) hns (k := k) (by omega)
  obtain ⟨v1, b1, i1⟩ := numI (S := S) hns (k := k + 1) (by omega)
  refine seq_k fun q1 n1 r1 _ _ x1 => ?_
  simp only [wIf, wTest, wBin, wCB, wCons, wNil, wVar, wC, getV, some!, i0, oInt, one, oMod, oI, oGt, oI0, decide_eq_true_eq]
  refine ⟨by decide, ?_⟩
  by_cases z : 0 < v0 % 3
  · rw [if_pos z]
    simp only [wRet, wC]
    rw [r1]
    exact h none (fun x hx => by cases hx) S (ext_refl S)
  rw [if_neg z]
  refine n1 _ _ ?_
  refine seq_k fun q1 n1 r1 _ _ x1 => ?_
  simp only [wSet, wBin, wCB, wCons, wNil, wVar, wC, getV, setV, some!, oAdd]
  rw [show ((k : Int) + 1) = ((k + 1 : Nat) : Int) by push_cast; rfl, i1]
  simp only [oInt, one, oMod, oI]
  refine ⟨by decide, n1 _ _ ?_⟩
  obtain ⟨sn, hsn, s1, s6⟩ : ∃ sn : Nat, 1 + v1 % 6 = (sn : Int) ∧ 1 ≤ sn ∧ sn ≤ 6 := ⟨(1 + v1 % 6).toNat, by omega, by omega, by omega⟩
  rw [hsn]
  refine seq_k fun q1 n1 r1 _ _ x1 => ?_
  simp only [wSet, wLstM, wNil, setV]
  refine ⟨Nat.zero_le _, fun p hp => n1 _ _ ?_⟩
  have E := ext_put (m := .lst []) (ext_refl S) hp
  have hpn : S p = none := hp
  have hat : put S p (.lst []) p = some (.lst (([] : List (List (Option Int))).map fun r => D.tup (r.map dO))) := put_same
  generalize put S p (.lst []) = S1 at E hat
  refine seq_k fun q1 n1 r1 _ _ x1 => ?_
  simp only [wFor, wRg1, wVar, getV, some!, asI]
  refine ⟨⟨by omega, by omega⟩, ?_⟩
  rw [Int.toNat_natCast]
  refine forI_invq (fun t e S' => ∃ (st : List (List (Option Int))) (x5 x6 x7 x8 : Option D), Ext S S' ∧ S' p = some (.lst (st.map fun r => D.tup (r.map dO))) ∧ st.length = t ∧ (∀ row, row ∈ st → row.length = L ∧ ∀ i, some i ∈ row → 0 ≤ i ∧ i < (sn : Int)) ∧
    e = [some (dL ns), some (.int (k : Nat)), some (.int (L : Nat)), some (.int (sn : Nat)), some (.ref p), x5, x6, x7, x8]) ⟨[], none, none, none, none, E, hat, rfl, fun x h => (by cases h), rfl⟩ (fun _ _ _ _ => trivial) ?_ ?_
  · rintro t d e S' hi ⟨st, x5, x6, x7, x8, E, hat, hl, hst, rfl⟩ q hq _ _ _ _
    obtain ⟨hlt, rfl⟩ := rngD_get hi
    rw [Int.zero_add]
    simp only [gN, setV]
    refine seq_k fun q1 n1 r1 _ _ x1 => ?_
    simp only [wSet, wLstM, wNil, setV]
    refine ⟨Nat.zero_le _, fun p2 hp2 => n1 _ _ ?_⟩
    have hp2n := ext_none E hp2
    have ne1 : p ≠ p2 := fun z => by rw [z, hp2] at hat; cases hat
    have E := ext_put (m := .lst []) E hp2
    have hat2 : put S' p2 (.lst []) p2 = some (.lst (([] : List (Option Int)).map dO)) := put_same
    have hat : put S' p2 (.lst []) p = some (.lst (st.map fun r => D.tup (r.map dO))) := by rw [put_ne ne1]; exact hat
    generalize put S' p2 (.lst []) = S' at E hat hat2
    refine seq_k fun q1 n1 r1 _ _ x1 => ?_
    simp only [wFor, wRg1, wVar, getV, some!, asI]
    refine ⟨⟨by omega, by omega⟩, ?_⟩
    rw [Int.toNat_natCast]
    refine forI_invq (fun u e S' => ∃ (row : List (Option Int)) (x7 x8 : Option D), Ext S S' ∧ S' p = some (.lst (st.map fun r => D.tup (r.map dO))) ∧ S' p2 = some (.lst (row.map dO)) ∧ row.length = u ∧ (∀ i, some i ∈ row → 0 ≤ i ∧ i < (sn : Int)) ∧
      e = [some (dL ns), some (.int (k : Nat)), some (.int (L : Nat)), some (.int (sn : Nat)), some (.ref p), some (.int (t : Int)), some (.ref p2), x7, x8]) ⟨[], _, _, E, hat, hat2, rfl, fun x h => (by cases h), rfl⟩ (fun _ _ _ _ => trivial) ?_ ?_
    · rintro u d e S3 hi ⟨row, x7, x8, E, hat, hat2, hrl, hro, rfl⟩ q2 hq2 _ _ _ _
      obtain ⟨hlt2, rfl⟩ := rngD_get hi
      rw [Int.zero_add]
      simp only [gN, setV]
      have htL : t * L + L ≤ 72 := by
        have h1 : t * L + L = (t + 1) * L := (Nat.succ_mul t L).symm
        have h2 : (t + 1) * L ≤ 6 * 12 := Nat.mul_le_mul (by omega) (by omega)
        omega
      obtain ⟨v2, b2, i2⟩ := numI (S := S3) hns (k := k + 3 + t * L + u) (by omega)
      refine seq_k fun q1 n1 r1 _ _ x1 => ?_
      simp only [wSet, wBin, wVar, wC, getV, setV, some!, oAdd, oMul, oI]
      refine ⟨mulw ⟨by omega, by omega⟩ ⟨by omega, by omega⟩, ?_⟩
      rw [show ((k : Int) + 3 + (t : Int) * (L : Int) + (u : Int)) = ((k + 3 + t * L + u : Nat) : Int) by push_cast; rfl, i2]
      refine n1 _ _ ?_
      have hm := modN (v := v2) (show 0 < (sn : Int) by omega)
      have h4 := modN (v := v2 / 8) (show (0 : Int) < 4 by decide)
      simp only [wDrop, wMt, wCons, wNil, wBin, wCB, wLst, wVar, wC, getV, some!, mutL, hat2, oInt, one, oMod, oDiv, oI]
      refine ⟨by omega, by omega, by omega, by show 4 ≤ sizeLine; decide, divw (by decide), by decide, ?_⟩
      rw [four h4]
      simp only [oAppend, mutL, hat2, one, List.length_map]
      refine ⟨by unfold sizeLine; omega, hq2 _ _ ⟨row ++ [if v2 / 8 % 4 < 3 then some (v2 % (sn : Int)) else none], _, _, ext_chg E hp2n, by rw [put_ne ne1]; exact hat, by rw [put_same, List.map_append]; rfl, by rw [List.length_append, hrl]; rfl, fun i hi => ?_, rfl⟩⟩
      rcases List.mem_append.mp hi with z | z
      · exact hro i z
      · rw [List.mem_singleton] at z
        split at z
        · cases z; exact hm
        · cases z
    · rintro e S3 ⟨row, x7, x8, E, hat, hat2, hrl, hro, rfl⟩
      rw [rngD_length] at hrl
      refine n1 _ _ ?_
      have e3 := seqA_at hat2
      simp only [wDrop, wMt, wCons, wNil, wCB, wVar, getV, some!, mutL, hat, oTuple, one, e3, oAppend, List.length_map]
      refine ⟨by unfold sizeLine; omega, hq _ _ ⟨st ++ [row], _, _, _, _, ext_chg E hpn, by rw [put_same, List.map_append]; rfl, by rw [List.length_append, hl]; rfl, fun y hy => ?_, rfl⟩⟩
      rcases List.mem_append.mp hy with z | z
      · exact hst y z
      · rw [List.mem_singleton] at z; subst z; exact ⟨hrl, hro⟩
  · rintro e S' ⟨st, x5, x6, x7, x8, E, hat, hl, hst, rfl⟩
    rw [rngD_length] at hl
    refine n1 _ _ ?_
    obtain ⟨v2, b2, i2⟩ := numI (S := S') hns (k := k + 2) (by omega)
    have hm := modN (v := v2) (show 0 < (sn : Int) by omega)
    have e3 := seqA_at hat
    simp only [wRet, wTup, wCons, wNil, wBin, wCB, wVar, wC, getV, some!, oAdd]
    rw [show ((k : Int) + 2) = ((k + 2 : Nat) : Int) by push_cast; rfl, i2]
    simp only [oInt, one, oMod, oI, oTuple, e3, some!]
    refine ⟨by omega, z2, ?_⟩
    exact h (some ⟨v2 % (sn : Int), st⟩) (fun x hx => by
      cases hx
      exact ⟨⟨by show 1 ≤ st.length; omega, by show st.length ≤ 100; omega⟩, ⟨hm.1, by show _ < (st.length : Int); rw [hl]; exact hm.2⟩, fun row hr => ⟨(hst row hr).1, fun i hi => by
        have := (hst row hr).2 i hi
        show 0 ≤ i ∧ i < (st.length : Int)
        rw [hl]; exact this⟩⟩) S' E
theorem len__law_stops (c : Cl) : ∀ ds S Q E, sp__law_stops c ds S Q E → ds.length = 3 := by
  rintro ds S Q E ⟨_, _, _, _, rfl, _⟩; rfl
theorem six {S : Sto} {q : Int} {Q : Qd} (h : 0 ≤ q ∧ q < 6) : ∃ j : Nat, j ≤ 4 ∧ oIx S (.lst [.int 0, .int 0, .int 1, .int 2, .int 3, .int 4]) (.int q) Q = Q (.int (j : Nat)) S := by
  have e : q = 0 ∨ q = 1 ∨ q = 2 ∨ q = 3 ∨ q = 4 ∨ q = 5 := by omega
  rcases e with rfl | rfl | rfl | rfl | rfl | rfl
  · exact ⟨0, by decide, oIx_eq (xs := [.int 0, .int 0, .int 1, .int 2, .int 3, .int 4]) rfl rfl Q⟩
  · exact ⟨0, by decide, oIx_eq (xs := [.int 0, .int 0, .int 1, .int 2, .int 3, .int 4]) rfl rfl Q⟩
  · exact ⟨1, by decide, oIx_eq (xs := [.int 0, .int 0, .int 1, .int 2, .int 3, .int 4]) rfl rfl Q⟩
  · exact ⟨2, by decide, oIx_eq (xs := [.int 0, .int 0, .int 1, .int 2, .int 3, .int 4]) rfl rfl Q⟩
  · exact ⟨3, by decide, oIx_eq (xs := [.int 0, .int 0, .int 1, .int 2, .int 3, .int 4]) rfl rfl Q⟩
  · exact ⟨4, by decide, oIx_eq (xs := [.int 0, .int 0, .int 1, .int 2, .int 3, .int 4]) rfl rfl Q⟩
theorem rd__law_stops (c : Cl) : ∀ ds S Q X1, sp__law_stops c ds S Q X1 → w__law_stops c (startD N__law_stops_ ds) S (endQ Q X1) := by
  rintro ds S Q X1 ⟨ns, m, k, L, rfl, hns, hk, hm, hL, h⟩
  show w__law_stops c [some (dL ns), some (.int (k : Nat)), some (.int (L : Nat)), none, none, none, none] S (endQ Q X1)
  unfold w__law_stops
  refine seq_k fun q1 n1 r1 _ _ x1 => ?_
  simp only [wSet, wLstM, wNil, setV]
  refine ⟨Nat.zero_le _, fun p hp => n1 _ _ ?_⟩
  have E := ext_put (m := .lst []) (ext_refl S) hp
  have hpn : S p = none := hp
  have hat : put S p (.lst []) p = some (.lst (([] : List Vec).map dT)) := put_same
  generalize put S p (.lst []) = S1 at E hat
  obtain ⟨v0, b0, i0⟩ := numI (S := S1) hns (k := k) (by omega)
  have h6 := modN (v := v0) (show (0 : Int) < 6 by decide)
  refine seq_k fun q1 n1 r1 _ _ x1 => ?_
  simp only [wFor, wRg1, wBin, wLst, wCB, wCons, wNil, wVar, wC, getV, some!, i0, oInt, one, oMod, oI]
  refine ⟨by show 6 ≤ sizeLine; decide, by decide, ?_⟩
  obtain ⟨J, hJ, eJ⟩ := six (S := S1) (Q := fun a S1 => asI a fun j => (-(2 ^ 62) ≤ j ∧ j < 2 ^ 62) ∧ forI (gN 4) (wSeq (wSet 5 (wLstM wNil))
  (wSeq (wFor (wRg1 (wBin oAdd (wC (.int 1)) (wBin oMod (wCB oInt (wCons (wBin oIx (wVar 0) (wBin oAdd (wBin oAdd (wVar 1) (wC (.int 1))) (wBin oMul (wC (.int 5)) (wVar 4)))) wNil)) (wC (.int 4))))) (gN 6) (wDrop (wMt oAppend (wVar 5) (wCons (wBin oMod (wCB oInt (wCons (wBin oIx (wVar 0) (wBin oAdd (wBin oAdd (wBin oAdd (wVar 1) (wC (.int 2))) (wBin oMul (wC (.int 5)) (wVar 4))) (wVar 6))) wNil)) (wVar 2)) wNil))))
  (wDrop (wMt oAppend (wVar 3) (wCons (wCB oTuple (wCons (wVar 5) wNil)) wNil))))) (fun _ => True) (rngD 0 j.toNat) [some (dL ns), some (.int (k : Nat)), some (.int (L : Nat)), some (.ref p), none, none, none] S1 q1) h6
  refine (show _ from ?_ : oIx S1 (.lst [.int 0, .int 0, .int 1, .int 2, .int 3, .int 4]) (.int (v0 % 6)) _)
  rw [eJ]
  simp only [asI]
  refine ⟨⟨by omega, by omega⟩, ?_⟩
  rw [Int.toNat_natCast]
  refine forI_invq (fun t e S' => ∃ (st : List Vec) (x4 x5 x6 : Option D), Ext S S' ∧ S' p = some (.lst (st.map dT)) ∧ st.length = t ∧ (∀ s, s ∈ st → LetsOk L s ∧ 1 ≤ s.length ∧ s.length ≤ 4) ∧
    e = [some (dL ns), some (.int (k : Nat)), some (.int (L : Nat)), some (.ref p), x4, x5, x6]) ⟨[], none, none, none, E, hat, rfl, fun x h => (by cases h), rfl⟩ (fun _ _ _ _ => trivial) ?_ ?_
  · rintro t d e S' hi ⟨st, x4, x5, x6, E, hat, hl, hst, rfl⟩ q hq _ _ _ _
    obtain ⟨hlt, rfl⟩ := rngD_get hi
    rw [Int.zero_add]
    simp only [gN, setV]
    refine seq_k fun q1 n1 r1 _ _ x1 => ?_
    simp only [wSet, wLstM, wNil, setV]
    refine ⟨Nat.zero_le _, fun p2 hp2 => n1 _ _ ?_⟩
    have hp2n := ext_none E hp2
    have ne1 : p ≠ p2 := fun z => by rw [z, hp2] at hat; cases hat
    have E := ext_put (m := .lst []) E hp2
    have hat2 : put S' p2 (.lst []) p2 = some (.lst (([] : Vec).map D.int)) := put_same
    have hat : put S' p2 (.lst []) p = some (.lst (st.map dT)) := by rw [put_ne ne1]; exact hat
    generalize put S' p2 (.lst []) = S' at E hat hat2
    obtain ⟨v1, b1, i1⟩ := numI (S := S') hns (k := k + 1 + 5 * t) (by omega)
    refine seq_k fun q1 n1 r1 _ _ x1 => ?_
    simp only [wFor, wRg1, wBin, wCB, wCons, wNil, wVar, wC, getV, some!, oAdd, oMul, oI]
    refine ⟨mulw (by decide) ⟨by omega, by omega⟩, ?_⟩
    rw [show ((k : Int) + 1 + 5 * (t : Int)) = ((k + 1 + 5 * t : Nat) : Int) by push_cast; rfl, i1]
    simp only [oInt, one, oMod, oI, asI]
    obtain ⟨W, hW, hW4⟩ : ∃ W : Nat, 1 + v1 % 4 = (W : Int) ∧ 1 ≤ W ∧ W ≤ 4 := ⟨(1 + v1 % 4).toNat, by omega, by omega, by omega⟩
    rw [hW]
    refine ⟨by decide, ⟨by omega, by omega⟩, ?_⟩
    rw [Int.toNat_natCast]
    refine forI_invq (fun u e S' => ∃ (s : Vec) (x6 : Option D), Ext S S' ∧ S' p = some (.lst (st.map dT)) ∧ S' p2 = some (.lst (s.map D.int)) ∧ s.length = u ∧ LetsOk L s ∧
      e = [some (dL ns), some (.int (k : Nat)), some (.int (L : Nat)), some (.ref p), some (.int (t : Int)), some (.ref p2), x6]) ⟨[], _, E, hat, hat2, rfl, fun x h => (by cases h), rfl⟩ (fun _ _ _ _ => trivial) ?_ ?_
    · rintro u d e S3 hi ⟨s, x6, E, hat, hat2, hsl, hso, rfl⟩ q2 hq2 _ _ _ _
      obtain ⟨hlt2, rfl⟩ := rngD_get hi
      rw [Int.zero_add]
      obtain ⟨v2, b2, i2⟩ := numI (S := S3) hns (k := k + 2 + 5 * t + u) (by omega)
      have hm := modN (v := v2) (show 0 < (L : Int) by omega)
      simp only [gN, setV, wDrop, wMt, wCons, wNil, wBin, wCB, wVar, wC, getV, some!, mutL, hat2, oAdd, oMul, oI]
      refine ⟨mulw (by decide) ⟨by omega, by omega⟩, ?_⟩
      rw [show ((k : Int) + 2 + 5 * (t : Int) + (u : Int)) = ((k + 2 + 5 * t + u : Nat) : Int) by push_cast; rfl, i2]
      simp only [oInt, one, oMod, oI, oAppend, mutL, hat2, List.length_map]
      refine ⟨by omega, by unfold sizeLine; omega, hq2 _ _ ⟨s ++ [v2 % (L : Int)], _, ext_chg E hp2n, by rw [put_ne ne1]; exact hat, by rw [put_same, List.map_append]; rfl, by rw [List.length_append, hsl]; rfl, lets_snoc hso hm, rfl⟩⟩
    · rintro e S3 ⟨s, x6, E, hat, hat2, hsl, hso, rfl⟩
      rw [rngD_length] at hsl
      refine n1 _ _ ?_
      have e3 := seqA_at hat2
      simp only [wDrop, wMt, wCons, wNil, wCB, wVar, getV, some!, mutL, hat, oTuple, one, e3, oAppend, List.length_map]
      refine ⟨by unfold sizeLine; omega, hq _ _ ⟨st ++ [s], _, _, _, ext_chg E hpn, by rw [put_same, List.map_append]; rfl, by rw [List.length_append, hl]; rfl, fun y hy => ?_, rfl⟩⟩
      rcases List.mem_append.mp hy with z | z
      · exact hst y z
      · rw [List.mem_singleton] at z; subst z; exact ⟨hso, by omega, by omega⟩
  · rintro e S' ⟨st, x4, x5, x6, E, hat, hl, hst, rfl⟩
    rw [rngD_length] at hl
    refine n1 _ _ ?_
    have e3 := seqA_at hat
    simp only [wRet, wCB, wCons, wNil, wVar, getV, some!, oTuple, one, e3]
    exact h st ⟨by omega, hst⟩ S' E
theorem len__law_tape (c : Cl) : ∀ ds S Q E, sp__law_tape c ds S Q E → ds.length = 2 := by
  rintro ds S Q E ⟨_, _, _, rfl, _⟩; rfl
theorem five {S : Sto} {q x : Int} (h : 0 ≤ q ∧ q < 5) (hx : 0 ≤ x ∧ x < 13) : ∃ j : Nat, j ≤ 12 ∧ atI [D.int 0, .int 0, .int 1, .int 2, .int x] q = some (.int (j : Nat)) := by
  have e : q = 0 ∨ q = 1 ∨ q = 2 ∨ q = 3 ∨ q = 4 := by omega
  rcases e with rfl | rfl | rfl | rfl | rfl
  · exact ⟨0, by decide, rfl⟩
  · exact ⟨0, by decide, rfl⟩
  · exact ⟨1, by decide, rfl⟩
  · exact ⟨2, by decide, rfl⟩
  · exact ⟨x.toNat, by omega, by rw [Int.toNat_of_nonneg hx.1]; rfl⟩
theorem rd__law_tape (c : Cl) : ∀ ds S Q X1, sp__law_tape c ds S Q X1 → w__law_tape c (startD N__law_tape_ ds) S (endQ Q X1) := by
  rintro ds S Q X1 ⟨ns, m, k, rfl, hns, hk, hm, h⟩
  show w__law_tape c [some (dL ns), some (.int (k : Nat)), none, none] S (endQ Q X1)
  unfold w__law_tape
  refine seq_k fun q1 n1 r1 _ _ x1 => ?_
  simp only [wSet, wLstM, wNil, setV]
  refine ⟨Nat.zero_le _, fun p hp => n1 _ _ ?_⟩
  have E := ext_put (m := .lst []) (ext_refl S) hp
  have hpn : S p = none := hp
  have hat : put S p (.lst []) p = some (.lst (([] : Vec).map D.int)) := put_same
  generalize put S p (.lst []) = S1 at E hat
  obtain ⟨v0, b0, i0⟩ := numI (S := S1) hns (k := k) (by omega)
  have h13 := modN (v := v0) (show (0 : Int) < 13 by decide)
  have h5 := modN (v := v0 / 13) (show (0 : Int) < 5 by decide)
  obtain ⟨J, hJ, eJ⟩ := five (S := S1) h5 h13
  have aJ := fun Q => oIx_eq (S := S1) (x := .lst [.int 0, .int 0, .int 1, .int 2, .int (v0 % 13)]) rfl eJ Q
  refine seq_k fun q1 n1 r1 _ _ x1 => ?_
  simp only [wFor, wRg1, wBin, wLst, wCB, wCons, wNil, wVar, wC, getV, some!, i0, oInt, one, oMod, oDiv, oI, aJ, asI]
  refine ⟨by decide, by show 5 ≤ sizeLine; decide, divw (by decide), by decide, ⟨by omega, by omega⟩, ?_⟩
  rw [Int.toNat_natCast]
  refine forI_invq (fun t e S' => ∃ (ta : Vec) (x3 : Option D), Ext S S' ∧ S' p = some (.lst (ta.map D.int)) ∧ ta.length = t ∧
    e = [some (dL ns), some (.int (k : Nat)), some (.ref p), x3]) ⟨[], none, E, hat, rfl, rfl⟩ (fun _ _ _ _ => trivial) ?_ ?_
  · rintro t d e S' hi ⟨ta, x3, E, hat, hl, rfl⟩ q hq _ _ _ _
    obtain ⟨hlt, rfl⟩ := rngD_get hi
    rw [Int.zero_add]
    obtain ⟨v1, b1, i1⟩ := numI (S := S') hns (k := k + 1 + 2 * t) (by omega)
    obtain ⟨v2, b2, i2⟩ := numI (S := S') hns (k := k + 2 + 2 * t) (by omega)
    simp only [gN, setV, wDrop, wMt, wCons, wNil, wBin, wVar, wC, getV, some!, mutL, hat, oAdd, oMul, oI]
    refine ⟨mulw (by decide) ⟨by omega, by omega⟩, ?_⟩
    rw [show ((k : Int) + 1 + 2 * (t : Int)) = ((k + 1 + 2 * t : Nat) : Int) by push_cast; rfl, i1]
    refine ⟨mulw ⟨b1.1, by omega⟩ (by decide), mulw (by decide) ⟨by omega, by omega⟩, ?_⟩
    rw [show ((k : Int) + 2 + 2 * (t : Int)) = ((k + 2 + 2 * t : Nat) : Int) by push_cast; rfl, i2]
    simp only [oAppend, mutL, hat, one, List.length_map]
    refine ⟨by unfold sizeLine; omega, hq _ _ ⟨ta ++ [v1 * 1000 + v2], _, ext_chg E hpn, by rw [put_same, List.map_append]; rfl, by rw [List.length_append, hl]; rfl, rfl⟩⟩
  · rintro e S' ⟨ta, x3, E, hat, hl, rfl⟩
    rw [rngD_length] at hl
    refine n1 _ _ ?_
    have e3 := seqA_at hat
    simp only [wRet, wCB, wCons, wNil, wVar, getV, some!, oTuple, one, e3]
    exact h ta (by omega) S' E
theorem seqM_A {S : Sto} {d : D} {xs : List D} (h : seqM S d = some xs) : seqA S d = some xs := by
  cases d with
  | tup ys => cases h
  | fro ys => cases h
  | _ => exact h
end K07
set_option Elab.async false
set_option linter.all false
set_option maxRecDepth 100000
set_option maxHeartbeats 1000000
namespace K07
open PySem PySem.Spec PyProof.Rows L2 DL
theorem oLen_eq {S : Sto} {p : Addr} {xs : List D} (h : S p = some (.lst xs)) (Q : Qd) : oLen S [.ref p] Q = Q (.int (xs.length : Nat)) S := by
  have e := seqA_at h
  have e2 : seqL S (.ref p) = some xs := e
  simp only [oLen, one, h, e, some!]
theorem oSl_eq {S : Sto} {p : Addr} {xs : List D} (h : S p = some (.lst xs)) (lo hi : Option Int) (Q : Qd) : oSl S (.ref p) lo hi Q = Q (.lst (cutD xs lo hi)) S := by
  have e := seqL_at h
  simp only [oSl, e, some!]
theorem oTuple_eq {S : Sto} {p : Addr} {xs : List D} (h : S p = some (.lst xs)) (Q : Qd) : oTuple S [.ref p] Q = Q (.tup xs) S := by
  have e := seqA_at h
  simp only [oTuple, one, e, some!]
theorem len__law_ends (c : Cl) : ∀ ds S Q E, sp__law_ends c ds S Q E → ds.length = 2 := by
  rintro ds S Q E ⟨_, _, _, rfl, _⟩; rfl
theorem rd__law_ends (c : Cl) : ∀ ds S Q X1, sp__law_ends c ds S Q X1 → w__law_ends c (startD N__law_ends_ ds) S (endQ Q X1) := by
  rintro ds S Q X1 ⟨p, t, s, rfl, hat, h⟩
  show w__law_ends c [some (.ref p), some (dT s)] S (endQ Q X1)
  unfold w__law_ends
  unfold endsF at h
  have o1 := fun Q => oLen_eq hat Q
  have o2 := fun lo hi Q => oSl_eq hat lo hi Q
  have o3 : ∀ Q, oLen S [dT s] Q = Q (.int ((s.map D.int).length : Nat)) S := fun Q => rfl
  simp only [wRet, wAndV, wBin, wCB, wCons, wNil, wSl, wP, wNoP, wVar, getV, some!, o1, o3, List.length_map, oLe, oI0, oSub, decide_eq_true_eq, asI, o2]
  by_cases z : s.length ≤ t.length
  · rw [if_pos (by omega)]
    rw [decide_eq_true z, Bool.true_and] at h
    simp only [cutD_int, oTuple, one, dT, seqA, seqL, seqM, some!, oEq, shD_tup, eqD_tup, true_and]
    rw [dropI z]
    exact h
  · rw [if_neg (by omega)]
    rw [decide_eq_false z, Bool.false_and] at h
    exact h
theorem len__law_stopped (c : Cl) : ∀ ds S Q E, sp__law_stopped c ds S Q E → ds.length = 2 := by
  rintro ds S Q E ⟨_, _, _, rfl, _⟩; rfl
theorem rd__law_stopped (c : Cl) : ∀ ds S Q X1, sp__law_stopped c ds S Q X1 → w__law_stopped c (startD N__law_stopped_ ds) S (endQ Q X1) := by
  rintro ds S Q X1 ⟨p, t, stops, rfl, hat, h⟩
  show w__law_stopped c [some (.ref p), some (.tup (stops.map dT)), none, none] S (endQ Q X1)
  unfold w__law_stopped
  refine seq_k fun q1 n1 r1 _ _ x1 => ?_
  simp only [wSet, wC, setV]
  refine n1 _ _ ?_
  refine seq_k fun q1 n1 r1 _ _ x1 => ?_
  simp only [wFor, wIt, wVar, getV, some!, seqA]
  refine forI_invq (fun k e S' => S' = S ∧ ∃ x3, e = [some (.ref p), some (.tup (stops.map dT)), some (.int ((stops.take k).foldl (fun m s => if endsF t s = true then max m s.length else m) 0 : Nat)), x3]) ⟨rfl, _, rfl⟩ (fun _ _ _ _ => trivial) ?_ ?_
  · rintro k d e S' hi ⟨rfl, x3, rfl⟩ q hq _ _ _ _
    rw [List.getElem?_map] at hi
    obtain ⟨s, hs, rfl⟩ := Option.map_eq_some_iff.mp hi
    have es : (stops.take (k + 1)).foldl (fun m s => if endsF t s = true then max m s.length else m) 0 = if endsF t s = true then max ((stops.take k).foldl (fun m s => if endsF t s = true then max m s.length else m) 0) s.length else (stops.take k).foldl (fun m s => if endsF t s = true then max m s.length else m) 0 := fold_snoc hs
    have key : ∀ (m' : Int), m' = ((stops.take (k + 1)).foldl (fun m s => if endsF t s = true then max m s.length else m) 0 : Nat) → q.nx [some (.ref p), some (.tup (stops.map dT)), some (.int m'), some (dT s)] S' := fun m' e => hq _ _ ⟨rfl, some (dT s), by rw [e]⟩
    rw [es] at key
    generalize (stops.take k).foldl (fun m s => if endsF t s = true then max m s.length else m) 0 = m at key
    simp only [gN, setV, wIf, wTest, wCall, wCons, wNil, wVar, getV, some!]
    refine ⟨p, t, s, rfl, hat, ?_⟩
    cases z : endsF t s with
    | true =>
      rw [z, if_pos rfl] at key
      simp only [if_true, wSet, wCB, wCons, wNil, wVar, getV, setV, some!, oLen, oMax2, one, two, dT, seqA, seqL, seqM, List.length_map, asI]
      exact key _ (by omega)
    | false =>
      rw [z, if_neg Bool.false_ne_true] at key
      simp only [Bool.false_eq_true, if_false, wNext]
      exact key _ rfl
  · rintro e S' ⟨rfl, x3, rfl⟩
    refine n1 _ _ ?_
    rw [List.length_map, List.take_length]
    simp only [wRet, wVar, getV, some!]
    exact h
end K07
set_option Elab.async false
set_option linter.all false
set_option maxRecDepth 100000
set_option maxHeartbeats 1000000
namespace K07
open PySem PySem.Spec PyProof.Rows L2 DL
theorem frz_at {S : Sto} {x C : Addr} {N : List Str} {ys : List D} {xs : DE} {Q : Qd} (h : S x = some (.ins C N xs)) (e : allV xs = some ys) (q : Q (.obj C N ys) (del S x)) : frzD S (.ref x) Q := by
  show (match S x with | some (.lst xs) => _ | some (.ins C N xs) => _ | _ => False)
  rw [h]
  show some! (allV xs) _
  rw [e]
  exact q
theorem ext_made {S S' : Sto} {x : Addr} {m1 m2 : MO} (E : Ext S S') (h : S' x = none) : Ext S (del (put (put S' x m1) x m2) x) := by
  rw [put_put]
  exact ext_del (ext_put E h) (ext_none E h)
theorem pick6 {x p m s t r : D} : pickK 3 3 [0, 1, 2, 3, 4, 5] [x, p, m] [s, t, r] = [x, p, m, s, t, r] := rfl
/-! ### plain values -/
theorem plain_dT {v : Vec} {k : Nat} (h : v.length ≤ 1000) : plain (k + 1) (dT v) := ⟨by rw [List.length_map]; exact h, fun x hx => by
  obtain ⟨i, _, rfl⟩ := List.mem_map.mp hx
  cases k <;> exact trivial⟩
theorem plain_rw {w L m k : Nat} {r : Rw} (h : RwOk w L m r) (hw : w ≤ 4) (hL : L ≤ 12) (hm : m ≤ 3) : plain (k + 4) (dRw r) := by
  refine ⟨by show 2 ≤ 1000; decide, fun x hx => ?_⟩
  simp only [List.mem_cons, List.not_mem_nil, or_false] at hx
  rcases hx with rfl | rfl
  · refine ⟨by rw [List.length_map, h.pa.1]; omega, fun y hy => ?_⟩
    obtain ⟨p, hp, rfl⟩ := List.mem_map.mp hy
    have := h.pa.2 p hp
    refine ⟨by show 2 ≤ 1000; decide, fun z hz => ?_⟩
    simp only [List.mem_cons, List.not_mem_nil, or_false] at hz
    rcases hz with rfl | rfl
    · exact plain_dT (by rw [this.1.1]; omega)
    · exact plain_dT (by rw [this.2.1]; omega)
  · exact plain_dT (by rw [h.wt.1]; omega)
theorem plain_rows {w L m k : Nat} {rows : List Rw} (h : RowsOk w L m rows) (hw : w ≤ 4) (hL : L ≤ 12) (hm : m ≤ 3) : plain (k + 5) (.tup (rows.map dRw)) :=
  ⟨by rw [List.length_map]; have := h.1; omega, fun x hx => by
    obtain ⟨r, hr, rfl⟩ := List.mem_map.mp hx
    exact plain_rw (h.2 r hr) hw hL hm⟩
theorem plain_dO {o : Option Int} {k : Nat} : plain k (dO o) := by cases o <;> cases k <;> exact trivial
theorem same_go {c : Cl} {d : D} {S : Sto} {Q : Qd} {E : XQ} (h : plain 7 d) (q : Q (.bl true) S) : sp__law_same c [d, d] S Q E := ⟨d, rfl, h, q⟩
theorem rowsF_prefix (n : NetV) (ls : Vec) : ∀ k, k ≤ ls.length → (rowsF n ls).take k = rowsF n (ls.take k) := by
  have key : ∀ j, j ≤ ls.length → ∀ k, k ≤ j → (rowsF n (ls.take j)).take k = rowsF n (ls.take k) := by
    intro j
    induction j with
    | zero => intro _ k hk; have : k = 0 := by omega
              subst this; rfl
    | succ j ih =>
      intro hj k hk
      obtain ⟨l, hl⟩ : ∃ l, ls[j]? = some l := ⟨_, List.getElem?_eq_getElem (by omega)⟩
      rw [rowsF_take hl]
      have hlen : (rowsF n (ls.take j)).length = j := by rw [rowsF_len, List.length_take]; omega
      by_cases e : k = j + 1
      · subst e
        rw [List.take_of_length_le (by rw [List.length_append, hlen]; exact Nat.le_refl _), rowsF_take hl]
      · rw [List.take_append_of_le_length (by omega)]
        exact ih (by omega) k (by omega)
  intro k hk
  have := key ls.length (Nat.le_refl _) k hk
  rwa [List.take_length] at this
section
variable {S : Sto} {a : AskV} {Q : Qd}
theorem ak0 : oIx S (dAskT a) (.int 0) Q = Q (dT a.prompt) S := oIx_eq (xs := [dT a.prompt, .int a.most, .tup (a.stops.map dT), dT a.tape, dRuleT a.rule]) rfl rfl Q
theorem ak1 : oIx S (dAskT a) (.int 1) Q = Q (.int a.most) S := oIx_eq (xs := [dT a.prompt, .int a.most, .tup (a.stops.map dT), dT a.tape, dRuleT a.rule]) rfl rfl Q
theorem ak2 : oIx S (dAskT a) (.int 2) Q = Q (.tup (a.stops.map dT)) S := oIx_eq (xs := [dT a.prompt, .int a.most, .tup (a.stops.map dT), dT a.tape, dRuleT a.rule]) rfl rfl Q
theorem ak3 : oIx S (dAskT a) (.int 3) Q = Q (dT a.tape) S := oIx_eq (xs := [dT a.prompt, .int a.most, .tup (a.stops.map dT), dT a.tape, dRuleT a.rule]) rfl rfl Q
theorem ak4 : oIx S (dAskT a) (.int 4) Q = Q (dRuleT a.rule) S := oIx_eq (xs := [dT a.prompt, .int a.most, .tup (a.stops.map dT), dT a.tape, dRuleT a.rule]) rfl rfl Q
end
/-- one of two -/
theorem two_of {S : Sto} {a b : D} {q : Int} (h : 0 ≤ q ∧ q < 2) : ∀ Q, oIx S (.lst [a, b]) (.int q) Q = Q (if q = 0 then a else b) S := fun Q => by
  have e : q = 0 ∨ q = 1 := by omega
  rcases e with rfl | rfl
  · exact oIx_eq (xs := [a, b]) rfl rfl Q
  · exact oIx_eq (xs := [a, b]) rfl rfl Q
theorem two_R {q : Int} {ls : Vec} : (if q = 0 then D.lst (ls.map D.int) else D.tup (ls.map D.int)) = dR (decide (q ≠ 0)) ls := by
  by_cases z : q = 0
  · rw [if_pos z, decide_eq_false (fun h => h z)]; rfl
  · rw [if_neg z, decide_eq_true z]; rfl
theorem two_L {q : Int} {ls : Vec} : (if q = 0 then D.tup (ls.map D.int) else D.lst (ls.map D.int)) = dR (decide (q = 0)) ls := by
  by_cases z : q = 0
  · rw [if_pos z, decide_eq_true z]; rfl
  · rw [if_neg z, decide_eq_false z]; rfl
theorem stt {S : Sto} {xs : List D} : seqA S (.tup xs) = some xs := rfl
/-- one of four numbers -/
theorem four_at {a b d x q : Int} (h : 0 ≤ q ∧ q < 4) : ∃ y : Int, (y = a ∨ y = b ∨ y = d ∨ y = x) ∧ atI [D.int a, .int b, .int d, .int x] q = some (.int y) := by
  have e : q = 0 ∨ q = 1 ∨ q = 2 ∨ q = 3 := by omega
  rcases e with rfl | rfl | rfl | rfl
  · exact ⟨a, .inl rfl, rfl⟩
  · exact ⟨b, .inr (.inl rfl), rfl⟩
  · exact ⟨d, .inr (.inr (.inl rfl)), rfl⟩
  · exact ⟨x, .inr (.inr (.inr rfl)), rfl⟩
theorem len__law_ask (c : Cl) : ∀ ds S Q E, sp__law_ask c ds S Q E → ds.length = 2 := by
  rintro ds S Q E ⟨_, _, rfl, _⟩; rfl
theorem rd__law_ask (c : Cl) : ∀ ds S Q X1, sp__law_ask c ds S Q X1 → w__law_ask c (startD N__law_ask_ ds) S (endQ Q X1) := by
  rintro ds S Q X1 ⟨ns, L, rfl, hns, hL, h⟩
  show w__law_ask c [some (dL ns), some (.int (L : Nat)), none, none, none, none] S (endQ Q X1)
  unfold w__law_ask
  refine seq_k fun q1 n1 r1 _ _ x1 => ?_
  simp only [wSet, wLstM, wNil, setV]
  refine ⟨Nat.zero_le _, fun p hp => n1 _ _ ?_⟩
  have E := ext_put (m := .lst []) (ext_refl S) hp
  have hpn : S p = none := hp
  have hat : put S p (.lst []) p = some (.lst (([] : Vec).map D.int)) := put_same
  generalize put S p (.lst []) = S1 at E hat
  obtain ⟨v0, b0, i0⟩ := numI (S := S1) hns (k := 100) (by decide)
  obtain ⟨v1, b1, i1⟩ := numI (S := S1) hns (k := 101) (by decide)
  have i0' : ∀ Q, oIx S1 (dL ns) (.int 100) Q = Q (.int v0) S1 := i0
  have i1' : ∀ Q, oIx S1 (dL ns) (.int 101) Q = Q (.int v1) S1 := i1
  have m0 := modN (v := v0) (show (0 : Int) < 20 by decide)
  obtain ⟨y, hy, ay⟩ := four_at (a := 1) (b := 2) (d := 3) (x := 1 + v0 % 20) (modN (v := v1) (show (0 : Int) < 4 by decide))
  have ay' := fun Q => oIx_eq (S := S1) (x := .lst [.int 1, .int 2, .int 3, .int (1 + v0 % 20)]) rfl ay Q
  obtain ⟨J, rfl, J1, J20⟩ : ∃ J : Nat, y = (J : Int) ∧ 1 ≤ J ∧ J ≤ 20 := ⟨y.toNat, by omega, by omega, by omega⟩
  refine seq_k fun q1 n1 r1 _ _ x1 => ?_
  simp only [wFor, wRg1, wBin, wLst, wCB, wCons, wNil, wVar, wC, getV, some!, i0', i1', oInt, one, oMod, oAdd, oI, ay', asI]
  refine ⟨by decide, by show 4 ≤ sizeLine; decide, by decide, ⟨by omega, by omega⟩, ?_⟩
  rw [Int.toNat_natCast]
  refine forI_invq (fun t e S' => ∃ (pr : Vec) (x3 : Option D), Ext S S' ∧ S' p = some (.lst (pr.map D.int)) ∧ pr.length = t ∧ LetsOk L pr ∧
    e = [some (dL ns), some (.int (L : Nat)), some (.ref p), x3, none, none]) ⟨[], none, E, hat, rfl, fun x h => (by cases h), rfl⟩ (fun _ _ _ _ => trivial) ?_ ?_
  · rintro t d e S' hi ⟨pr, x3, E, hat, hl, hpo, rfl⟩ q hq _ _ _ _
    obtain ⟨hlt, rfl⟩ := rngD_get hi
    rw [Int.zero_add]
    obtain ⟨v2, b2, i2⟩ := numI (S := S') hns (k := 102 + t) (by omega)
    have hm := modN (v := v2) (show 0 < (L : Int) by omega)
    have i2' : ∀ Q, oIx S' (dL ns) (.int (102 + (t : Int))) Q = Q (.int v2) S' := fun Q => by
      rw [show (102 + (t : Int)) = ((102 + t : Nat) : Int) by push_cast; rfl]; exact i2 Q
    simp only [gN, setV, wDrop, wMt, wCons, wNil, wBin, wCB, wVar, wC, getV, some!, mutL, hat, oAdd, i2', oInt, one, oMod, oI, oAppend, List.length_map]
    exact ⟨by omega, by unfold sizeLine; omega, hq _ _ ⟨pr ++ [v2 % (L : Int)], _, ext_chg E hpn, by rw [put_same, List.map_append]; rfl, by rw [List.length_append, hl]; rfl, lets_snoc hpo hm, rfl⟩⟩
  rintro e S2 ⟨pr, x3, E, hat, hl, hpo, rfl⟩
  rw [rngD_length] at hl
  refine n1 _ _ ?_
  obtain ⟨v3, b3, i3⟩ := numI (S := S2) hns (k := 122) (by decide)
  obtain ⟨v4, b4, i4⟩ := numI (S := S2) hns (k := 123) (by decide)
  have i3' : ∀ Q, oIx S2 (dL ns) (.int 122) Q = Q (.int v3) S2 := i3
  have i4' : ∀ Q, oIx S2 (dL ns) (.int 123) Q = Q (.int v4) S2 := i4
  have m3 := modN (v := v3) (show (0 : Int) < 30 by decide)
  obtain ⟨mo, hmo, am⟩ := four_at (a := 1) (b := 2) (d := 5) (x := 1 + v3 % 30) (modN (v := v4) (show (0 : Int) < 4 by decide))
  have am' := fun Q => oIx_eq (S := S2) (x := .lst [.int 1, .int 2, .int 5, .int (1 + v3 % 30)]) rfl am Q
  refine seq_k fun q1 n1 r1 _ _ x1 => ?_
  simp only [wSet, wBin, wLst, wCB, wCons, wNil, wVar, wC, getV, setV, some!, i3', i4', oInt, one, oMod, oAdd, oI, am']
  refine ⟨by decide, by show 4 ≤ sizeLine; decide, by decide, n1 _ _ ?_⟩
  refine seq_k fun q1 n1 r1 _ _ x1 => ?_
  simp only [wSet, wCall, wCons, wNil, wVar, wC, getV, setV, some!]
  refine ⟨ns, 490, 200, L, rfl, hns, by decide, by decide, hL.1, fun st hst S3 E3 => n1 _ _ ?_⟩
  have E := ext_trans E E3
  have o1 := fun Q => oTuple_eq (E3 _ _ hat) Q
  simp only [wRet, wTup, wCall, wCB, wCons, wNil, wVar, wC, getV, some!, o1]
  refine ⟨ns, 490, 222, rfl, hns, by decide, by decide, fun ta hta S4 E4 => ⟨ns, 490, 248, L, rfl, hns, by decide, by decide, hL, fun r hr S5 E5 => ⟨by show 5 ≤ sizeLine; decide, ?_⟩⟩⟩
  exact h ⟨pr, mo, st, ta, r⟩ ⟨⟨hpo, by show 1 ≤ pr.length; omega, by show pr.length ≤ 20; omega⟩, by show 1 ≤ mo ∧ mo ≤ 30; omega, hst, hta, hr⟩ S5 (ext_trans E (ext_trans E4 E5))
end K07
set_option Elab.async false
set_option linter.all false
set_option maxRecDepth 100000
set_option maxHeartbeats 1000000
namespace K07
open PySem PySem.Spec PyProof.Rows L2 DL
theorem len__law_written (c : Cl) : ∀ ds S Q E, sp__law_written c ds S Q E → ds.length = 4 := by
  rintro ds S Q E ⟨_, _, _, _, _, _, _, rfl, _⟩; rfl
theorem rd__law_written (c : Cl) : ∀ ds S Q X1, sp__law_written c ds S Q X1 → w__law_written c (startD N__law_written_ ds) S (endQ Q X1) := by
  rintro ds S Q X1 ⟨n, e, a, bg, w, L, r, rfl, hn, ha, hbg, hbl, hwk, h⟩
  have hp8 := ha.pr.2
  have hm30 := ha.mo
  have l12 := hn.l1
  show w__law_written c [some (dNetT n), some (dO e), some (dAskT a), some (dT bg), none, none, none, none, none] S (endQ Q X1)
  unfold w__law_written
  have cat : ∀ {t : Vec}, LetsOk L t → LetsOk L (a.prompt ++ t) := fun ht x hx => by
    rcases List.mem_append.mp hx with z | z
    · exact ha.pr.1 x z
    · exact ht x z
  have ol1 : ∀ (S : Sto) (v : Vec) (Q : Qd), oList S [dT v] Q = Q (.lst (v.map D.int)) S := fun S v Q => rfl
  refine seq_k fun q1 n1 r1 _ _ x1 => ?_
  simp only [wSet, wCall, wBin, wCB, wCons, wNil, wVar, wC, getV, setV, some!, ak0, ol1, oAdd, oCatL, seqM, List.length_map]
  refine ⟨by unfold sizeLine; omega, n, false, a.prompt ++ bg, w, L, by rw [← List.map_append]; rfl, hn, cat hbg, by rw [List.length_append]; omega, fun p S1 E hSp hat => n1 _ _ ?_⟩
  refine seq_k fun q1 n1 r1 _ _ x1 => ?_
  simp only [wSet, wCB, wCons, wNil, wVar, getV, setV, some!, oListM, one, dT, seqA]
  refine fun p2 hp2 => n1 _ _ ?_
  have ne : p ≠ p2 := fun z => by rw [z, hp2] at hat; cases hat
  have hSp2 := ext_none E hp2
  have E := ext_put (m := .lst (bg.map D.int)) E hp2
  have hat : put S1 p2 (.lst (bg.map D.int)) p = some (.lst ((rowsF n (a.prompt ++ bg)).map dRw)) := by rw [put_ne ne]; exact hat
  have hat2 : put S1 p2 (.lst (bg.map D.int)) p2 = some (.lst (bg.map D.int)) := put_same
  generalize put S1 p2 (.lst (bg.map D.int)) = S2 at E hat hat2
  refine seq_k fun q1 nO rO _ _ xO => ?_
  simp only [wFor, wRg1, wC, asI]
  refine ⟨by decide, ?_⟩
  refine forI_invq (fun k e' S' => ∃ (t : Vec) (x6 x7 x8 : Option D), Ext S S' ∧ S' p = some (.lst ((rowsF n (a.prompt ++ t)).map dRw)) ∧ S' p2 = some (.lst (t.map D.int)) ∧ LetsOk L t ∧ (t.length : Int) < a.most ∧ k ≤ 31 ∧ walkF n e a (31 - k) t = some r ∧
    e' = [some (dNetT n), some (dO e), some (dAskT a), some (.tup (bg.map D.int)), some (.ref p), some (.ref p2), x6, x7, x8]) ⟨bg, none, none, none, E, hat, hat2, hbg, hbl, by decide, hwk, rfl⟩ (fun _ _ _ _ => trivial) ?_ ?_
  · rintro k d e' S' hi ⟨t, x6, x7, x8, E, hat, hat2, ht, htl, hk, hwk, rfl⟩ q hq hrt _ _ _
    obtain ⟨hlt, rfl⟩ := rngD_get hi
    have hk2 : k < 31 := hlt
    obtain ⟨m, hm, hm2⟩ : ∃ m, 31 - k = m + 1 ∧ 31 - (k + 1) = m := ⟨30 - k, by omega, by omega⟩
    rw [hm] at hwk
    have hne2 : a.prompt ++ t ≠ [] := fun z => by rw [(List.append_eq_nil_iff.mp z).1] at hp8; simp at hp8
    obtain ⟨rr, hrr⟩ := last_some (n := n) hne2
    have hwt := wts_ok hn (cat ht) (by rw [List.length_append]; omega) hrr
    have e1 : wtsF n a t = rr.wts := by unfold wtsF; rw [hrr]
    unfold walkF at hwk
    rw [e1] at hwk
    have a1 := fun Q => oIx_eq (S := S') (x := .ref p) (i := -1) (seqA_at hat) (at_last (by rw [List.getLast?_map, hrr]; rfl)) Q
    have a2 := fun Q => oIx_eq (S := S') (x := dRw rr) (i := 1) (xs := [.tup (rr.pairs.map dP), dT rr.wts]) rfl rfl Q
    simp only [gN, setV]
    refine seq_k fun q1 n1 r1 _ _ x1 => ?_
    simp only [wSet, wCall, wCons, wNil, wBin, wUn, wVar, wC, getV, setV, some!, oNeg, a1, a2, ak3, ak4]
    refine ⟨a, L, rr.wts, .ref p2, t, rfl, seqA_at hat2, ha, hwt, by omega, ht, by omega, fun S3 E3 => n1 _ _ ?_⟩
    have hat := E3 _ _ hat
    have hat2 := E3 _ _ hat2
    have E := ext_trans E E3
    clear a1 a2 E3
    have o1 := fun Q => oTuple_eq hat2 Q
    refine seq_k fun q1 n1 r1 _ _ x1 => ?_
    cases hc : choiceF a rr.wts t with
    | none =>
      have hx : nextF e a t rr.wts = (t, some ("stuck" : Str)) := by unfold nextF; rw [hc]
      rw [hx] at hwk
      obtain rfl := Option.some.inj (show some (t, ("stuck" : Str)) = some r from hwk)
      have hnn : isNon (dO none) = true := rfl
      simp only [wIf, wTest, wBin, wVar, wC, getV, some!, oIsN, hnn, if_true, wRet, wTup, wCB, wCons, wNil, o1, r1, hrt, rO]
      exact ⟨z2, h _ E⟩
    | some l =>
      have hl := choice_ok hwt hc
      have hnn : isNon (dO (some l)) = false := rfl
      simp only [wIf, wTest, wBin, wVar, wC, getV, some!, oIsN, hnn, Bool.false_eq_true, if_false, wNext]
      refine n1 _ _ ?_
      refine seq_k fun q1 n1 r1 _ _ x1 => ?_
      have hsh : shD S3 (dO e) = true := sh_dO
      have heq : eqD S3 (dO (some l)) (dO e) = decide (some l = e) := eq_dO
      have hsl : shD S3 (dO (some l)) = true := sh_dO
      by_cases z : some l = e
      · have hx : nextF e a t rr.wts = (t, some ("end" : Str)) := by unfold nextF; rw [hc]; dsimp only; rw [if_pos z]
        rw [hx] at hwk
        obtain rfl := Option.some.inj (show some (t, ("end" : Str)) = some r from hwk)
        simp only [wIf, wTest, wBin, wVar, wC, getV, some!, oEq, hsl, hsh, heq, decide_eq_true z, true_and, if_true, wRet, wTup, wCB, wCons, wNil, o1, r1, hrt, rO]
        exact ⟨z2, h _ E⟩
      simp only [wIf, wTest, wBin, wVar, wC, getV, some!, oEq, hsl, hsh, heq, decide_eq_false z, true_and, Bool.false_eq_true, if_false, wNext]
      refine n1 _ _ ?_
      refine seq_k fun q1 n1 r1 _ _ x1 => ?_
      simp only [wDrop, wMt, wCons, wNil, wVar, getV, some!, mutL, hat2, oAppend, one, List.length_map]
      refine ⟨by unfold sizeLine; omega, n1 _ _ ?_⟩
      have ecat : t.map D.int ++ [dO (some l)] = (t ++ [l]).map D.int := by rw [List.map_append]; rfl
      rw [ecat]
      have hat : put S3 p2 (.lst ((t ++ [l]).map D.int)) p = some (.lst ((rowsF n (a.prompt ++ t)).map dRw)) := by rw [put_ne ne]; exact hat
      have hat2 : put S3 p2 (.lst ((t ++ [l]).map D.int)) p2 = some (.lst ((t ++ [l]).map D.int)) := put_same
      have E := ext_chg (m := .lst ((t ++ [l]).map D.int)) E hSp2
      generalize put S3 p2 (.lst ((t ++ [l]).map D.int)) = S4 at E hat hat2
      clear o1
      have htl2 : (t ++ [l]).length = t.length + 1 := by rw [List.length_append]; rfl
      refine seq_k fun q1 n1 r1 _ _ x1 => ?_
      simp only [wSet, wCall, wBin, wCons, wNil, wVar, wC, getV, setV, some!, ak2]
      refine ⟨p2, t ++ [l], a.stops, rfl, hat2, n1 _ _ ?_⟩
      have sl := stop_le a.stops (t ++ [l])
      have ol := fun Q => oLen_eq hat2 Q
      have os := fun lo hi Q => oSl_eq hat2 lo hi Q
      have o1 := fun Q => oTuple_eq hat2 Q
      refine seq_k fun q1 n1 r1 _ _ x1 => ?_
      by_cases y : 0 < stopF a.stops (t ++ [l])
      · have hx : nextF e a t rr.wts = ((t ++ [l]).take ((t ++ [l]).length - stopF a.stops (t ++ [l])), some ("stop" : Str)) := by unfold nextF; rw [hc]; dsimp only; rw [if_neg z, if_pos y]
        rw [hx] at hwk
        obtain rfl := Option.some.inj (show some ((t ++ [l]).take ((t ++ [l]).length - stopF a.stops (t ++ [l])), ("stop" : Str)) = some r from hwk)
        simp only [wIf, wTest, wBin, wVar, wC, getV, some!, oGt, oI0, decide_eq_true_eq]
        rw [if_pos (by omega)]
        simp only [wRet, wTup, wCons, wNil, wSl, wNoP, wP, wBin, wCB, wVar, wC, getV, some!, ol, List.length_map, oSub, oI0, asI, os, cutD_int, oTuple, one, seqA, seqL, seqM]
        rw [takeI sl, r1, hrt, rO]
        exact ⟨z2, h _ E⟩
      simp only [wIf, wTest, wBin, wVar, wC, getV, some!, oGt, oI0, decide_eq_true_eq]
      rw [if_neg (by omega)]
      refine n1 _ _ ?_
      refine seq_k fun q1 n1 r1 _ _ x1 => ?_
      by_cases x : ((t ++ [l]).length : Int) = a.most
      · have hx : nextF e a t rr.wts = (t ++ [l], some ("most" : Str)) := by unfold nextF; rw [hc]; dsimp only; rw [if_neg z, if_neg y, if_pos x]
        rw [hx] at hwk
        obtain rfl := Option.some.inj (show some (t ++ [l], ("most" : Str)) = some r from hwk)
        simp only [wIf, wTest, wBin, wCB, wCons, wNil, wVar, wC, getV, some!, ol, ak1, List.length_map, oEq, shD_int, eqD_int, decide_eq_true x, true_and, if_true, wRet, wTup, o1, r1, hrt, rO]
        exact ⟨z2, h _ E⟩
      have hx : nextF e a t rr.wts = (t ++ [l], none) := by unfold nextF; rw [hc]; dsimp only; rw [if_neg z, if_neg y, if_neg x]
      rw [hx] at hwk
      have hwk : walkF n e a m (t ++ [l]) = some r := hwk
      simp only [wIf, wTest, wBin, wCB, wCons, wNil, wVar, wC, getV, some!, ol, ak1, List.length_map, oEq, shD_int, eqD_int, decide_eq_false x, true_and, Bool.false_eq_true, if_false, wNext]
      refine n1 _ _ ?_
      have hro := rowsF_ok hn (cat ht) (by rw [List.length_append]; omega) (a.prompt ++ t).length
      rw [List.take_length] at hro
      simp only [wDrop, wMt, wCall, wCons, wNil, wVar, getV, some!, mutL, hat]
      refine ⟨n, .ref p, rowsF n (a.prompt ++ t), l, w, L, rfl, seqA_at hat, hn, hro, hl, fun S5 E5 => ?_⟩
      have hat5 := E5 _ _ hat
      have hat25 := E5 _ _ hat2
      simp only [oAppend, mutL, hat5, one]
      refine ⟨by rw [List.length_map, rowsF_len, List.length_append]; unfold sizeLine; omega, hq _ _ ⟨t ++ [l], _, _, _, ext_chg (ext_trans E E5) hSp, ?_, by rw [put_ne (Ne.symm ne)]; exact hat25, lets_snoc ht hl, by omega, by omega, by rw [hm2]; exact hwk, rfl⟩⟩
      rw [put_same, ← List.append_assoc, rowsF_snoc, List.map_append]; rfl
  · rintro e' S' ⟨t, x6, x7, x8, E, hat, hat2, ht, htl, hk, hwk, rfl⟩
    rw [rngD_length] at hwk
    cases hwk
end K07
set_option Elab.async false
set_option linter.all false
set_option maxRecDepth 100000
set_option maxHeartbeats 1000000
namespace K07
open PySem PySem.Spec PyProof.Rows L2 DL
section
variable {S : Sto} {g : GAsk} {Q : Qd}
theorem gk0 : oIx S (dGT g) (.int 0) Q = Q (.tup g.prompt) S := oIx_eq (xs := [.tup g.prompt, .int g.most, .tup (g.stops.map D.tup), dT g.tape, dRuleT g.rule]) rfl rfl Q
theorem gk1 : oIx S (dGT g) (.int 1) Q = Q (.int g.most) S := oIx_eq (xs := [.tup g.prompt, .int g.most, .tup (g.stops.map D.tup), dT g.tape, dRuleT g.rule]) rfl rfl Q
theorem gk2 : oIx S (dGT g) (.int 2) Q = Q (.tup (g.stops.map D.tup)) S := oIx_eq (xs := [.tup g.prompt, .int g.most, .tup (g.stops.map D.tup), dT g.tape, dRuleT g.rule]) rfl rfl Q
theorem gk3 : oIx S (dGT g) (.int 3) Q = Q (dT g.tape) S := oIx_eq (xs := [.tup g.prompt, .int g.most, .tup (g.stops.map D.tup), dT g.tape, dRuleT g.rule]) rfl rfl Q
theorem gk4 : oIx S (dGT g) (.int 4) Q = Q (dRuleT g.rule) S := oIx_eq (xs := [.tup g.prompt, .int g.most, .tup (g.stops.map D.tup), dT g.tape, dRuleT g.rule]) rfl rfl Q
end
theorem oList_T {S : Sto} {xs : List D} (Q : Qd) : oList S [.tup xs] Q = Q (.lst xs) S := rfl
theorem len__law_made (c : Cl) : ∀ ds S Q E, sp__law_made c ds S Q E → ds.length = 2 := by
  rintro ds S Q E ⟨_, _, _, rfl, _⟩; rfl
theorem rd__law_made (c : Cl) : ∀ ds S Q X1, sp__law_made c ds S Q X1 → w__law_made c (startD N__law_made_ ds) S (endQ Q X1) := by
  rintro ds S Q X1 ⟨g, b, L, rfl, hg, h⟩
  show w__law_made c [some (dGT g), some (.bl b), none, none, none] S (endQ Q X1)
  unfold w__law_made
  refine seq_k fun q1 n1 r1 _ _ x1 => ?_
  simp only [wSet, wC, setV]
  refine n1 _ _ ?_
  refine seq_k fun q1 n1 r1 _ _ x1 => ?_
  have rest : ∀ S4, Ext S S4 → q1.nx [some (dGT g), some (.bl b), some (dRuleO c g.rule), none, none] S4 := fun S4 E => by
    refine n1 _ _ ?_
    have hst := hg.st.1
    cases b with
    | true =>
      refine seq_k fun q1 n1 r1 _ _ x1 => ?_
      simp only [wIf, wTest, wVar, getV, some!, if_true, wRet, wFrz, wMakeK, wBin, wCB, wCons, wNil, wC, gk0, gk1, gk2, gk3, oList_T, wLc, wIt, seqA, delVs, delV, List.length_map]
      refine ⟨by unfold sizeLine; omega, compI_vals g.stops D.tup D.lst trivial (fun s hs R hR => ?_) ?_⟩
      · simp only [gN, setV, wCB, wCons, wNil, wVar, getV, some!, oList_T]
        exact hR
      simp only [dT, oList_T, pick6]
      refine fun x hx => ⟨x, g, false, L, rfl, hg, put_same, rfl, ?_⟩
      refine frz_at put_same (ys := gF c g) rfl ?_
      rw [r1]
      exact h _ (ext_made E hx)
    | false =>
      refine seq_k fun q1 n1 r1 _ _ x1 => ?_
      simp only [wIf, wTest, wVar, getV, some!, Bool.false_eq_true, if_false, wNext]
      refine n1 _ _ ?_
      simp only [wRet, wFrz, wMakeK, wBin, wCons, wNil, wVar, wC, getV, some!, gk0, gk1, gk2, gk3, pick6]
      refine fun x hx => ⟨x, g, true, L, rfl, hg, put_same, rfl, ?_⟩
      refine frz_at put_same (ys := gF c g) rfl ?_
      exact h _ (ext_made E hx)
  cases er : g.rule with
  | none =>
    rw [er] at rest
    have hnn : isNon (dRuleT g.rule) = true := by rw [er]; rfl
    simp only [wIf, wTest, wBin, wVar, wC, getV, some!, gk4, oNotN, hnn, Bool.not_true, Bool.false_eq_true, if_false, wNext]
    exact rest S (ext_refl S)
  | some r =>
    rw [er] at rest
    have hrr := hg.ru r er
    have hnn : (!isNon (dRuleT g.rule)) = true := by rw [er]; rfl
    have hst := hrr.st.2
    simp only [wIf, wTest, wBin, wVar, wC, getV, some!, gk4, oNotN, hnn, if_true]
    have fin : ∀ x, S x = none → (dRuleO c (some r) = dRuleO c (some r)) → True := fun _ _ _ => trivial
    simp only [wSet, wFrz, wMake, wBin, wCB, wCons, wNil, wLst, wLc, wIt, wVar, wC, getV, setV, some!, gk4, er, ru0, ru1, dSteps, seqA, delVs, delV, List.length_map]
    refine ⟨by unfold sizeLine; omega, compI_vals r.steps (fun r => .tup (r.map dO)) (fun r => .lst (r.map dO)) trivial (fun s hs R hR => ?_) ?_⟩
    · simp only [gN, setV, wCB, wCons, wNil, wVar, getV, some!, oList_T]
      exact hR
    refine ⟨z2, ?_⟩
    simp only [oInt, one]
    have two : ∀ (u v : D) Q, oIx S (.lst [u, v]) (.int (if b = true then 1 else 0)) Q = Q (if b = true then v else u) S := fun u v Q => by
      cases b
      · exact oIx_eq (xs := [u, v]) rfl rfl Q
      · exact oIx_eq (xs := [u, v]) rfl rfl Q
    rw [two]
    refine fun x hx => ⟨x, r.start, !b, r.steps, ?_, by omega, put_same, rfl, ?_⟩
    · cases b <;> rfl
    refine frz_at put_same (ys := [.int r.start, dSteps r.steps]) rfl ?_
    exact rest _ (ext_made (ext_refl S) hx)
end K07
set_option Elab.async false
set_option linter.all false
set_option maxRecDepth 100000
set_option maxHeartbeats 1000000
namespace K07
open PySem PySem.Spec PyProof.Rows L2 DL
theorem fine_non : Fine .non := ⟨fun S => ⟨_, rfl⟩, fun S => ⟨⟨rfl, by show PyData.none.depth ≤ 8; decide +kernel⟩, rfl, by show (PyData.none.shown).length ≤ sizeLine; decide +kernel⟩, fun S => by show PyData.strOk PyData.none.shown = true; decide +kernel⟩
theorem fine_bl (b : Bool) : Fine (.bl b) := ⟨fun S => ⟨_, rfl⟩, fun S => ⟨⟨rfl, by show (PyData.bool b).depth ≤ 8; cases b <;> decide +kernel⟩, rfl, by show ((PyData.bool b).shown).length ≤ sizeLine; cases b <;> decide +kernel⟩, fun S => by show PyData.strOk (PyData.bool b).shown = true; cases b <;> decide +kernel⟩
theorem fine_str : Fine (.str "0") := ⟨fun S => ⟨_, rfl⟩, fun S => ⟨⟨by show (PyData.str "0").canLay0 = true; decide +kernel, by show (PyData.str "0").depth ≤ 8; decide +kernel⟩, rfl, by show ((PyData.str "0").shown).length ≤ sizeLine; decide +kernel⟩, fun S => by show PyData.strOk (PyData.str "0").shown = true; decide +kernel⟩
theorem fine_t0 : Fine (.tup [.int 0]) := ⟨fun S => ⟨_, rfl⟩, fun S => ⟨⟨by show (PyData.tuple [.int 0]).canLay0 = true; decide +kernel, by show (PyData.tuple [.int 0]).depth ≤ 8; decide +kernel⟩, by show (PyData.tuple [.int 0]).showable = true; decide +kernel, by show ((PyData.tuple [.int 0]).shown).length ≤ sizeLine; decide +kernel⟩, fun S => by show PyData.strOk (PyData.tuple [.int 0]).shown = true; decide +kernel⟩
theorem fine_l0 : Fine (.lst [.int 0]) := ⟨fun S => ⟨_, rfl⟩, fun S => ⟨⟨by show (PyData.list [.int 0]).canLay0 = true; decide +kernel, by show (PyData.list [.int 0]).depth ≤ 8; decide +kernel⟩, by show (PyData.list [.int 0]).showable = true; decide +kernel, by show ((PyData.list [.int 0]).shown).length ≤ sizeLine; decide +kernel⟩, fun S => by show PyData.strOk (PyData.list [.int 0]).shown = true; decide +kernel⟩
theorem fine_tl : Fine (.tup [.int 0, .lst [.int 1]]) := ⟨fun S => ⟨_, rfl⟩, fun S => ⟨⟨by show (PyData.tuple [.int 0, .list [.int 1]]).canLay0 = true; decide +kernel, by show (PyData.tuple [.int 0, .list [.int 1]]).depth ≤ 8; decide +kernel⟩, by show (PyData.tuple [.int 0, .list [.int 1]]).showable = true; decide +kernel, by show ((PyData.tuple [.int 0, .list [.int 1]]).shown).length ≤ sizeLine; decide +kernel⟩, fun S => by show PyData.strOk (PyData.tuple [.int 0, .list [.int 1]]).shown = true; decide +kernel⟩
def oddL (L n : Int) : List D := [.int L, .int (-1), .int (L + 1 + n), .int ((10 : Int) ^ Int.toNat 20), .bl true, .bl false, .non, .str "0", .tup [.int 0], .lst [.int 0], .tup [.int 0, .lst [.int 1]]] ++ [.int ((10 : Int) ^ Int.toNat 64 * (10 : Int) ^ Int.toNat 64), .int (-2), .int (-L - 1 - n), .int (0 - (10 : Int) ^ Int.toNat 30)]
theorem odd_at {L n q : Int} (hL : 1 ≤ L ∧ L ≤ 12) (hn : 0 ≤ n ∧ n < 1000) (h : 0 ≤ q ∧ q < 15) : ∃ d, atI (oddL L n) q = some d ∧ Fine d := by
  have e : q = 0 ∨ q = 1 ∨ q = 2 ∨ q = 3 ∨ q = 4 ∨ q = 5 ∨ q = 6 ∨ q = 7 ∨ q = 8 ∨ q = 9 ∨ q = 10 ∨ q = 11 ∨ q = 12 ∨ q = 13 ∨ q = 14 := by omega
  rcases e with rfl | rfl | rfl | rfl | rfl | rfl | rfl | rfl | rfl | rfl | rfl | rfl | rfl | rfl | rfl
  · exact ⟨_, rfl, fine_small (by omega)⟩
  · exact ⟨_, rfl, fine_small (by decide)⟩
  · exact ⟨_, rfl, fine_small (by omega)⟩
  · exact ⟨_, rfl, fine_int (by decide +kernel)⟩
  · exact ⟨_, rfl, fine_bl _⟩
  · exact ⟨_, rfl, fine_bl _⟩
  · exact ⟨_, rfl, fine_non⟩
  · exact ⟨_, rfl, fine_str⟩
  · exact ⟨_, rfl, fine_t0⟩
  · exact ⟨_, rfl, fine_l0⟩
  · exact ⟨_, rfl, fine_tl⟩
  · exact ⟨_, rfl, fine_int (by decide +kernel)⟩
  · exact ⟨_, rfl, fine_small (by decide)⟩
  · exact ⟨_, rfl, fine_small (by omega)⟩
  · exact ⟨_, rfl, fine_int (by decide +kernel)⟩
theorem len__law_odd (c : Cl) : ∀ ds S Q E, sp__law_odd c ds S Q E → ds.length = 3 := by
  rintro ds S Q E ⟨_, _, _, _, rfl, _⟩; rfl
theorem rd__law_odd (c : Cl) : ∀ ds S Q X1, sp__law_odd c ds S Q X1 → w__law_odd c (startD N__law_odd_ ds) S (endQ Q X1) := by
  rintro ds S Q X1 ⟨ns, m, k, L, rfl, hns, hk, hm, hL, h⟩
  show w__law_odd c [some (dL ns), some (.int (k : Nat)), some (.int (L : Nat)), none] S (endQ Q X1)
  unfold w__law_odd
  obtain ⟨v0, b0, i0⟩ := numI (S := S) hns (k := k) (by omega)
  obtain ⟨v1, b1, i1⟩ := numI (S := S) hns (k := k + 1) (by omega)
  have i1' : ∀ Q, oIx S (dL ns) (.int ((k : Int) + 1)) Q = Q (.int v1) S := i1
  obtain ⟨d, ad, fd⟩ := odd_at (L := L) (n := v1) (by omega) b1 (modN (v := v0) (show (0 : Int) < 15 by decide))
  have ad' := fun Q => oIx_eq (S := S) (x := .lst (oddL (L : Int) v1)) rfl ad Q
  refine seq_k fun q1 n1 r1 _ _ x1 => ?_
  simp only [wSet, wLst, wTup, wUn, wBin, wCons, wNil, wVar, wC, getV, setV, some!, oNeg, oAdd, i1', oPow, oI]
  refine ⟨by unfold CPow; decide, z1, z1, z1, z2, by show 11 ≤ sizeLine; decide, n1 _ _ ?_⟩
  refine seq_k fun q1 n1 r1 _ _ x1 => ?_
  simp only [wSet, wLst, wUn, wBin, wCons, wNil, wVar, wC, getV, setV, some!, oNeg, oAdd, oSub, oI0, i1', oPow, oMul, oI, oCatL, seqM]
  refine ⟨by unfold CPow; decide, by unfold CPow; decide, by unfold CMulW; decide +kernel, by unfold CPow; decide, by show 4 ≤ sizeLine; decide, by show 15 ≤ sizeLine; decide, n1 _ _ ?_⟩
  simp only [wRet, wBin, wCB, wCons, wNil, wVar, wC, getV, some!, i0, oInt, one, oMod, oI]
  refine ⟨by decide, ?_⟩
  refine (show oIx S (.lst (oddL (L : Int) v1)) (.int (v0 % 15)) _ from ?_)
  rw [ad']
  exact h d fd
theorem len__law_put (c : Cl) : ∀ ds S Q E, sp__law_put c ds S Q E → ds.length = 3 := by
  rintro ds S Q E ⟨_, _, _, rfl, _⟩; rfl
theorem cutD_to {xs : List D} {k : Nat} (h : k ≤ xs.length) : DL.cutD xs none (some (k : Int)) = xs.take k := by
  unfold DL.cutD
  rw [sIx_none, sIx_k h, List.drop_zero, Nat.sub_zero]
theorem cutD_from {xs : List D} {k : Nat} (h : k ≤ xs.length) : DL.cutD xs (some (k : Int)) none = xs.drop k := by
  unfold DL.cutD
  rw [sIx_none, sIx_k h, List.take_of_length_le (by rw [List.length_drop]; exact Nat.le_refl _)]
theorem rd__law_put (c : Cl) : ∀ ds S Q X1, sp__law_put c ds S Q X1 → w__law_put c (startD N__law_put_ ds) S (endQ Q X1) := by
  rintro ds S Q X1 ⟨xs, k, v, rfl, hk, hl, h⟩
  show w__law_put c [some (.tup xs), some (.int (k : Nat)), some v] S (endQ Q X1)
  unfold w__law_put
  simp only [wRet, wBin, wCB, wTup, wCons, wNil, wSl, wNoP, wP, wVar, wC, getV, some!, asI, oSl, oAdd]
  rw [cutD_to (by omega)]
  have e1 : ((k : Int) + 1) = ((k + 1 : Nat) : Int) := by push_cast; rfl
  rw [e1, cutD_from (by omega)]
  simp only [oTuple, one, seqA, seqL, seqM, some!]
  have e2 : (xs.take k ++ [v]) ++ xs.drop (k + 1) = xs.set k v := by rw [List.set_eq_take_append_cons_drop, if_pos hk, List.append_assoc]; rfl
  refine ⟨z1, by rw [List.length_take]; show _ + 1 ≤ _; unfold sizeLine; omega, by rw [List.length_append, List.length_take, List.length_drop]; show _ + 1 + _ ≤ _; unfold sizeLine; omega, ?_⟩
  rw [e2]
  exact h
end K07
set_option Elab.async false
set_option linter.all false
set_option maxRecDepth 100000
set_option maxHeartbeats 1000000
namespace K07
open PySem PySem.Spec PyProof.Rows L2 DL
theorem set_fine {xs : List D} {k : Nat} {v : D} (h : ∀ d, d ∈ xs → Fine d) (hv : Fine v) : ∀ d, d ∈ xs.set k v → Fine d := fun d hd => by
  rcases List.mem_or_eq_of_mem_set hd with z | z
  · exact h d z
  · rw [z]; exact hv
def POk (pr : List D) : Prop := (∀ d, d ∈ pr → Fine d) ∧ 1 ≤ pr.length ∧ pr.length ≤ 20
def SOk (st : List (List D)) : Prop := st.length ≤ 4 ∧ ∀ s, s ∈ st → (∀ d, d ∈ s → Fine d) ∧ 1 ≤ s.length ∧ s.length ≤ 4
theorem mod_nat {v : Int} {n : Nat} (h : 0 < n) : ∃ j : Nat, v % (n : Int) = (j : Int) ∧ j < n := by
  have h1 := Int.emod_nonneg v (show (n : Int) ≠ 0 by omega)
  have h2 := Int.emod_lt_of_pos v (show (0 : Int) < (n : Int) by omega)
  exact ⟨(v % (n : Int)).toNat, by omega, by omega⟩
theorem len__law_spoilt (c : Cl) : ∀ ds S Q E, sp__law_spoilt c ds S Q E → ds.length = 4 := by
  rintro ds S Q E ⟨_, _, _, _, rfl, _⟩; rfl
theorem oLen_T {S : Sto} {xs : List D} (Q : Qd) : oLen S [.tup xs] Q = Q (.int (xs.length : Nat)) S := rfl
theorem rd__law_spoilt (c : Cl) : ∀ ds S Q X1, sp__law_spoilt c ds S Q X1 → w__law_spoilt c (startD N__law_spoilt_ ds) S (endQ Q X1) := by
  rintro ds S Q X1 ⟨ns, g, bg, L, rfl, hns, hg, hb, hL, h⟩
  show w__law_spoilt c [some (dL ns), some (dGT g), some (.tup bg), some (.int (L : Nat)), none, none, none, none, none, none, none] S (endQ Q X1)
  unfold w__law_spoilt
  refine seq_k fun q1 n1 r1 _ _ x1 => ?_
  simp only [wSet, wBin, wVar, wC, getV, setV, some!, gk0]
  refine n1 _ _ ?_
  refine seq_k fun q1 n1 r1 _ _ x1 => ?_
  simp only [wSet, wBin, wVar, wC, getV, setV, some!, gk2]
  refine n1 _ _ ?_
  refine seq_k fun q1 n1 r1 _ _ x1 => ?_
  simp only [wFor, wRg1, wC, asI]
  refine ⟨by decide, ?_⟩
  refine forI_invq (fun k e S' => ∃ (b2 pr : List D) (st : List (List D)) (x6 x7 x8 x9 x10 : Option D), S' = S ∧ POk pr ∧ SOk st ∧ BgOk b2 ∧
    e = [some (dL ns), some (dGT g), some (.tup b2), some (.int (L : Nat)), some (.tup pr), some (.tup (st.map D.tup)), x6, x7, x8, x9, x10]) ⟨bg, g.prompt, g.stops, none, none, none, none, none, rfl, hg.pr, hg.st, hb, rfl⟩ (fun _ _ _ _ => trivial) ?_ ?_
  · rintro k d e S' hi ⟨b2, pr, st, x6, x7, x8, x9, x10, rfl, hpr, hst, hb2, rfl⟩ q hq _ _ _ _
    obtain ⟨hlt, rfl⟩ := rngD_get hi
    have hlt : k < 2 := hlt
    rw [Int.zero_add]
    have em : CMulW 7 (k : Int) := mulw (by decide) ⟨by omega, by omega⟩
    have c180 : (180 + 7 * (k : Int)) = ((180 + 7 * k : Nat) : Int) := by push_cast; rfl
    have c182 : (182 + 7 * (k : Int)) = ((182 + 7 * k : Nat) : Int) := by push_cast; rfl
    have c183 : (183 + 7 * (k : Int)) = ((183 + 7 * k : Nat) : Int) := by push_cast; rfl
    obtain ⟨v2, b2', i2⟩ := numI (S := S') hns (k := 182 + 7 * k) (by omega)
    obtain ⟨v3, b3, i3⟩ := numI (S := S') hns (k := 183 + 7 * k) (by omega)
    have i2' : ∀ Q, oIx S' (dL ns) (.int (182 + 7 * (k : Int))) Q = Q (.int v2) S' := fun Q => by rw [c182]; exact i2 Q
    have i3' : ∀ Q, oIx S' (dL ns) (.int (183 + 7 * (k : Int))) Q = Q (.int v3) S' := fun Q => by rw [c183]; exact i3 Q
    simp only [gN, setV]
    refine seq_k fun q1 n1 r1 _ _ x1 => ?_
    simp only [wSet, wCall, wBin, wCons, wNil, wVar, wC, getV, setV, some!, oMul, oAdd, oI]
    refine ⟨em, ns, 490, 180 + 7 * k, L, by rw [c180], hns, by omega, by decide, hL, fun od hod => n1 _ _ ?_⟩
    refine seq_k fun q1 n1 r1 _ _ x1 => ?_
    simp only [wSet, wBin, wCB, wCons, wNil, wVar, wC, getV, setV, some!, oMul, oAdd, oI, i2', oInt, one]
    refine ⟨em, n1 _ _ ?_⟩
    refine seq_k fun q1 n1 r1 _ _ x1 => ?_
    simp only [wSet, wBin, wCB, wCons, wNil, wVar, wC, getV, setV, some!, oMod, oI, oInt, one]
    refine ⟨by decide, n1 _ _ ?_⟩
    refine seq_k fun q1 n1 r1 _ _ x1 => ?_
    have key1 : ∀ pr2, POk pr2 → q1.nx [some (dL ns), some (dGT g), some (.tup b2), some (.int (L : Nat)), some (.tup pr2), some (.tup (st.map D.tup)), some (.int (k : Int)), some od, some (.int v2), some (.int (v2 % 4)), x10] S' := fun pr2 hpr2 => by
      refine n1 _ _ ?_
      refine seq_k fun q2 n2 r2 _ _ x2 => ?_
      have key2 : ∀ b3, BgOk b3 → q2.nx [some (dL ns), some (dGT g), some (.tup b3), some (.int (L : Nat)), some (.tup pr2), some (.tup (st.map D.tup)), some (.int (k : Int)), some od, some (.int v2), some (.int (v2 % 4)), x10] S' := fun b3 hb3 => by
        refine n2 _ _ ?_
        have no := hq [some (dL ns), some (dGT g), some (.tup b3), some (.int (L : Nat)), some (.tup pr2), some (.tup (st.map D.tup)), some (.int (k : Int)), some od, some (.int v2), some (.int (v2 % 4)), x10] S' ⟨b3, pr2, st, _, _, _, _, _, rfl, hpr2, hst, hb3, rfl⟩
        simp only [wIf, wAnd, wTest, wBin, wCB, wCons, wNil, wVar, wC, getV, some!, oGt, oI0, oLen_T, List.length_map, decide_eq_true_eq]
        by_cases z : v2 % 4 > 1
        · rw [if_pos z]
          by_cases y : (st.length : Int) > 0
          · rw [if_pos y]
            obtain ⟨j, ej, hj⟩ := mod_nat (v := v3) (n := st.length) (by omega)
            obtain ⟨s, hs⟩ : ∃ s, st[j]? = some s := ⟨_, List.getElem?_eq_getElem hj⟩
            have hso := hst.2 s (List.mem_of_getElem? hs)
            obtain ⟨i, ei, hi2⟩ := mod_nat (v := v2 / 4) (n := s.length) (by omega)
            have a1 := fun Q => oIx_eq (S := S') (x := .tup (st.map D.tup)) (i := (j : Int)) rfl (at_k (by rw [List.getElem?_map, hs]; rfl)) Q
            refine seq_k fun q3 n3 r3 _ _ x3 => ?_
            simp only [wSet, wBin, wCB, wCons, wNil, wVar, wC, getV, setV, some!, oMul, oAdd, oI, i3', oInt, one, oLen_T, List.length_map, oMod]
            rw [ej]
            refine ⟨em, by omega, n3 _ _ ?_⟩
            simp only [wSet, wCall, wBin, wCB, wCons, wNil, wVar, wC, getV, setV, some!, a1, oInt, one, oLen_T, oMod, oDiv, oI]
            rw [ei]
            refine ⟨divw (by decide), by omega, s, i, od, rfl, hi2, by omega, st.map D.tup, j, .tup (s.set i od), rfl, by rw [List.length_map]; exact hj, by rw [List.length_map]; have := hst.1; omega, ?_⟩
            rw [← List.map_set]
            refine hq _ _ ⟨b3, pr2, st.set j (s.set i od), _, _, _, _, _, rfl, hpr2, ⟨by rw [List.length_set]; exact hst.1, fun t ht => ?_⟩, hb3, rfl⟩
            rcases List.mem_or_eq_of_mem_set ht with w | w
            · exact hst.2 t w
            · rw [w, List.length_set]; exact ⟨set_fine hso.1 hod, hso.2⟩
          · rw [if_neg y]
            exact no
        · rw [if_neg z]
          exact no
      simp only [wIf, wAnd, wTest, wBin, wCB, wCons, wNil, wVar, wC, getV, some!, oEq, shD_int, eqD_int, true_and, oGt, oI0, oLen_T, List.length_map, decide_eq_true_eq]
      by_cases z : v2 % 4 = 1
      · rw [if_pos z]
        by_cases y : (b2.length : Int) > 0
        · rw [if_pos y]
          obtain ⟨j, ej, hj⟩ := mod_nat (v := v3) (n := b2.length) (by omega)
          simp only [wSet, wCall, wBin, wCB, wCons, wNil, wVar, wC, getV, setV, some!, oMul, oAdd, oI, i3', oInt, one, oLen_T, oMod]
          rw [ej]
          exact ⟨em, by omega, b2, j, od, rfl, hj, by have := hb2.le; omega, key2 _ ⟨set_fine hb2.fi hod, by rw [List.length_set]; exact hb2.le⟩⟩
        · rw [if_neg y]
          exact key2 _ hb2
      · rw [if_neg z]
        exact key2 _ hb2
    simp only [wIf, wTest, wBin, wVar, wC, getV, some!, oEq, shD_int, eqD_int, true_and, decide_eq_true_eq]
    by_cases z : v2 % 4 = 0
    · rw [if_pos z]
      obtain ⟨j, ej, hj⟩ := mod_nat (v := v3) (n := pr.length) (by have := hpr.2; omega)
      simp only [wSet, wCall, wBin, wCB, wCons, wNil, wVar, wC, getV, setV, some!, oMul, oAdd, oI, i3', oInt, one, oLen_T, oMod]
      rw [ej]
      exact ⟨em, by have := hpr.2; omega, pr, j, od, rfl, hj, by have := hpr.2; omega, key1 _ ⟨set_fine hpr.1 hod, by rw [List.length_set]; exact hpr.2⟩⟩
    · rw [if_neg z]
      exact key1 _ hpr
  · rintro e S' ⟨b2, pr, st, x6, x7, x8, x9, x10, rfl, hpr, hst, hb2, rfl⟩
    refine n1 _ _ ?_
    simp only [wRet, wTup, wBin, wCons, wNil, wVar, wC, getV, some!, gk1, gk3, gk4]
    exact ⟨by show 5 ≤ sizeLine; decide, z2, h ⟨pr, g.most, st, g.tape, g.rule⟩ b2 ⟨hpr, hg.mo, hst, hg.ta, hg.ru⟩ hb2⟩
end K07
set_option Elab.async false
set_option linter.all false
set_option maxRecDepth 100000
set_option maxHeartbeats 1000000
namespace K07
open PySem PySem.Spec PyProof.Rows L2 DL
theorem bad_if {t : WPs} {S : Sto} {q : QS} {L : Nat} {x0 x1 x3 x4 : Option D} {d : D} (hk : Kn S d) (yes : isLet L d = false → t [x0, x1, some (.int (L : Nat)), x3, x4, some d] S q) (no : isLet L d = true → q.nx [x0, x1, some (.int (L : Nat)), x3, x4, some d] S) :
    (wIf (wOr (wNot (wTest (wIsi "int" (wVar 5)))) (wOr (wTest (wIsi "bool" (wVar 5))) (wNot (wTest (wChain oLe oLt (wC (.int 0)) (wVar 5) (wVar 2)))))) t wNext) [x0, x1, some (.int (L : Nat)), x3, x4, some d] S q := by
  simp only [wIf, wOr, wNot, wTest, wIsi, wVar, getV, some!]
  rcases kn_cases hk with rfl | ⟨b, rfl⟩ | ⟨v, rfl⟩ | ⟨x, rfl⟩ | ⟨xs, rfl⟩ | ⟨e1, xs, e2, e3⟩
  · simp only [tyN, kt1, Bool.not_false, if_true]; exact yes rfl
  · simp only [tyN, kt2, kt7, Bool.not_true, Bool.false_eq_true, if_false, if_true]; exact yes rfl
  · simp only [tyN, kt3, kt8, Bool.not_true, Bool.false_eq_true, if_false, wChain, wVar, wC, getV, some!, oLe, oLt, oI0, decide_eq_true_eq]
    by_cases z : 0 ≤ v
    · rw [if_pos z]
      by_cases y : v < (L : Int)
      · rw [decide_eq_true y]
        simp only [Bool.not_true, Bool.false_eq_true, if_false, wNext]
        exact no (isLet_int ⟨z, y⟩)
      · rw [decide_eq_false y]
        simp only [Bool.not_false, if_true]
        exact yes (decide_eq_false (by omega))
    · rw [if_neg z]
      simp only [Bool.not_false, if_true]
      exact yes (decide_eq_false (by omega))
  · simp only [tyN, kt4, Bool.not_false, if_true]; exact yes rfl
  · simp only [tyN, kt5, Bool.not_false, if_true]; exact yes rfl
  · simp only [e1, kt6, Bool.not_false, if_true]; exact yes (list_not_in e1)
theorem take_find {p : D → Bool} : ∀ xs : List D, (xs.filter p).take 1 = (xs.find? p).toList
  | [] => rfl
  | x :: r => by
    rw [List.filter_cons, List.find?_cons]
    cases h : p x with
    | true => rfl
    | false => exact take_find r
theorem cut_one {xs : List D} : DL.cutD xs none (some 1) = xs.take 1 := by
  cases xs with
  | nil => rfl
  | cons x r => exact cutD_to (k := 1) (Nat.succ_le_succ (Nat.zero_le _))
theorem len__law_first_bad (c : Cl) : ∀ ds S Q E, sp__law_first_bad c ds S Q E → ds.length = 3 := by
  rintro ds S Q E ⟨_, _, _, rfl, _⟩; rfl
theorem flat_len {R : List (List D)} {n : Nat} (h : ∀ r, r ∈ R → r.length ≤ n) : R.flatten.length ≤ n * R.length := by
  induction R with
  | nil => exact Nat.zero_le _
  | cons r R ih =>
    rw [List.flatten_cons, List.length_append, List.length_cons, Nat.mul_succ]
    have h1 := h r List.mem_cons_self
    have h2 := ih fun x hx => h x (List.mem_cons_of_mem _ hx)
    omega
theorem rd__law_first_bad (c : Cl) : ∀ ds S Q X1, sp__law_first_bad c ds S Q X1 → w__law_first_bad c (startD N__law_first_bad_ ds) S (endQ Q X1) := by
  rintro ds S Q X1 ⟨g, bg, L, rfl, hg, hb, h⟩
  show w__law_first_bad c [some (dGT g), some (.tup bg), some (.int (L : Nat)), none, none, none] S (endQ Q X1)
  unfold w__law_first_bad
  refine seq_k fun q1 n1 r1 _ _ x1 => ?_
  simp only [wSet, wLstM, wNil, setV]
  refine ⟨Nat.zero_le _, fun p hp => n1 _ _ ?_⟩
  have E := ext_put (m := .lst []) (ext_refl S) hp
  have hpn : S p = none := hp
  have hat : put S p (.lst []) p = some (.lst []) := put_same
  generalize put S p (.lst []) = S1 at E hat
  rw [← rowsG_flat] at h
  have hrows := rowsG_fine hg hb
  have hr40 : ∀ r, r ∈ rowsG g bg → r.length ≤ 40 := fun r hr => by
    rcases List.mem_append.mp hr with z | z
    · rcases List.mem_cons.mp z with y | y
      · rw [y]; have := hg.pr.2; omega
      · have := (hg.st.2 r y).2; omega
    · rw [List.mem_singleton] at z; subst z; exact hb.le
  have hR6 : (rowsG g bg).length ≤ 6 := by unfold rowsG; have := hg.st.1; rw [List.length_append, List.length_cons]; show _ + 1 ≤ _; omega
  have ecat : ([D.tup g.prompt] ++ g.stops.map D.tup) ++ [D.tup bg] = (rowsG g bg).map D.tup := by simp [rowsG]
  generalize rowsG g bg = R at h hrows ecat hr40 hR6
  refine seq_k fun qO nO rO _ _ xO => ?_
  have oT : ∀ (S : Sto) (xs : List D) (Q : Qd), oTuple S [.tup xs] Q = Q (.tup xs) S := fun S xs Q => rfl
  have hst := hg.st.1
  simp only [wFor, wIt, wBin, wTup, wCB, wCons, wNil, wVar, wC, getV, some!, gk0, gk2, oT, oAdd, List.length_map]
  refine ⟨z1, by show 1 + _ ≤ sizeLine; unfold sizeLine; omega, z1, by rw [List.length_append, List.length_map]; show 1 + _ + 1 ≤ sizeLine; unfold sizeLine; omega, ?_⟩
  rw [ecat]
  simp only [seqA, some!]
  refine forI_invq (fun k e' S' => Ext S S' ∧ S' p = some (.lst ((R.take k).flatten.filter fun d => !isLet L d)) ∧ ∃ x4 x5, e' = [some (dGT g), some (.tup bg), some (.int (L : Nat)), some (.ref p), x4, x5]) ⟨E, hat, _, _, rfl⟩ (fun _ _ _ _ => trivial) ?_ ?_
  · rintro k d e' S' hi ⟨E, hat, x4, x5, rfl⟩ q hq _ _ _ _
    rw [List.getElem?_map] at hi
    obtain ⟨r, hr, rfl⟩ := Option.map_eq_some_iff.mp hi
    have hrm := List.mem_of_getElem? hr
    have hr2 := hrows r hrm
    have hr4 := hr40 r hrm
    have hfl : (R.take k).flatten.length ≤ 240 := by
      have := flat_len (R := R.take k) (n := 40) fun x hx => hr40 x (List.mem_of_mem_take hx)
      have h2 : (R.take k).length ≤ 6 := by rw [List.length_take]; omega
      omega
    have eflat : (R.take (k + 1)).flatten = (R.take k).flatten ++ r := by rw [List.take_add_one, hr, List.flatten_append]; simp
    simp only [gN, setV, wFor, wIt, wVar, getV, some!, seqA]
    refine forI_invq (fun j e' S' => Ext S S' ∧ S' p = some (.lst (((R.take k).flatten ++ r.take j).filter fun d => !isLet L d)) ∧ ∃ x5, e' = [some (dGT g), some (.tup bg), some (.int (L : Nat)), some (.ref p), some (.tup r), x5]) ⟨E, by rw [List.take_zero, List.append_nil]; exact hat, _, rfl⟩ (fun _ _ _ _ => trivial) ?_ ?_
    · rintro j d e' S' hi2 ⟨E, hat, x5, rfl⟩ q2 hq2 _ _ _ _
      have hf := hr2 d (List.mem_of_getElem? hi2)
      have est : (R.take k).flatten ++ r.take (j + 1) = ((R.take k).flatten ++ r.take j) ++ [d] := by rw [List.take_add_one, hi2, List.append_assoc]; rfl
      have hln : (((R.take k).flatten ++ r.take j).filter fun d => !isLet L d).length ≤ 1000 := by
        refine Nat.le_trans (List.length_filter_le _ _) ?_
        rw [List.length_append, List.length_take]; omega
      simp only [gN, setV]
      refine bad_if (hf.1 _) (fun hbd => ?_) fun hgd => ?_
      · simp only [wDrop, wMt, wCons, wNil, wVar, getV, some!, mutL, hat, oAppend, one]
        refine ⟨by unfold sizeLine; omega, hq2 _ _ ⟨ext_chg E hpn, ?_, _, rfl⟩⟩
        have ef : ([d].filter fun d => !isLet L d) = [d] := by rw [List.filter_cons, hbd]; rfl
        rw [put_same, est, List.filter_append ((R.take k).flatten ++ r.take j) [d], ef]
      · refine hq2 _ _ ⟨E, ?_, _, rfl⟩
        have ef : ([d].filter fun d => !isLet L d) = [] := by rw [List.filter_cons, hgd]; rfl
        rw [hat, est, List.filter_append ((R.take k).flatten ++ r.take j) [d], ef, List.append_nil]
    · rintro e' S' ⟨E, hat, x5, rfl⟩
      rw [List.take_length] at hat
      exact hq _ _ ⟨E, by rw [eflat]; exact hat, _, _, rfl⟩
  · rintro e' S' ⟨E, hat, x4, x5, rfl⟩
    rw [List.length_map, List.take_length] at hat
    refine nO _ _ ?_
    have os := fun lo hi Q => oSl_eq hat lo hi Q
    simp only [wRet, wSl, wNoP, wP, wVar, wC, getV, some!, asI, os, cut_one, take_find]
    exact h S' E
/-! ### what is refused -/
theorem fine_res {d : D} (h : Fine d) (S : Sto) : resD S d = d := by
  cases d with
  | ref a =>
    obtain ⟨n, hn⟩ := h.1 (fun _ => none)
    cases hn
  | _ => rfl
theorem okP_str {x : Str} (h : PyData.strOk x = true) : okP 0 (toP (.str x)) := by
  show (PyData.str x).canLay0 = true ∧ (PyData.str x).depth ≤ 0
  simp [PyData.canLay0, PyData.depth, h]
theorem shp_one {x : Str} (h : PyData.strOk x = true) : SeqAt.shaped (toP (.lst [.str x])) = true := shaped_of (n := 1) (okP_lst fun y hy => by
  rw [List.mem_singleton] at hy; subst hy; exact okP_str h) (by decide)
theorem res_ref {S : Sto} {p : Addr} {xs : List D} (h : S p = some (.lst xs)) : resD S (.ref p) = .lst xs := by
  show (match S p with | some (.lst xs) => D.lst xs | _ => .ref p) = _
  rw [h]
theorem len__law_refuses (c : Cl) : ∀ ds S Q E, sp__law_refuses c ds S Q E → ds.length = 4 := by
  rintro ds S Q E ⟨_, _, _, _, _, _, _, _, rfl, _⟩; rfl
theorem rd__law_refuses (c : Cl) : ∀ ds S Q X1, sp__law_refuses c ds S Q X1 → w__law_refuses c (startD N__law_refuses_ ds) S (endQ Q X1) := by
  rintro ds S Q X1 ⟨n, e, g, i, bg, w, L, d, rfl, hn, hg, hb, hbad, h⟩
  show w__law_refuses c [some (dNet c n e), some (dG c g), some (dS i bg), some d, none, none] S (endQ Q X1)
  have hf : Fine d := by
    have hm := List.mem_of_find?_eq_some hbad
    rw [← rowsG_flat] at hm
    obtain ⟨r, hr, hd⟩ := List.mem_flatten.mp hm
    exact rowsG_fine hg hb r hr d hd
  have hres := fine_res hf
  have hlay := fun S => (hf.2.1 S).1
  have hsw : (toP d).showable = true := by have := (hf.2.1 S).2.1; rw [hres] at this; exact this
  have hsl : (toP d).shown.length ≤ sizeLine := by have := (hf.2.1 S).2.2; unfold shownD at this; rw [hres] at this; exact this
  have hso : PyData.strOk (toP d).shown = true := by have := hf.2.2 S; unfold shownD at this; rw [hres] at this; exact this
  unfold w__law_refuses
  refine seq_k fun q1 n1 r1 _ _ x1 => ?_
  simp only [wSet, wLstM, wNil, setV]
  refine ⟨Nat.zero_le _, fun p hp => n1 _ _ ?_⟩
  have E := ext_put (m := .lst []) (ext_refl S) hp
  have hpn : S p = none := hp
  have hat : put S p (.lst []) p = some (.lst []) := put_same
  generalize put S p (.lst []) = S1 at E hat
  refine seq_k fun q1 n1 r1 _ _ x1 => ?_
  have fin : ∀ S2, Ext S S2 → S2 p = some (.lst [.str (toP d).shown]) → q1.nx [some (dNet c n e), some (dG c g), some (dS i bg), some d, some (.ref p), none] S2 := fun S2 E hat => by
    refine n1 _ _ ?_
    simp only [wRet, wBin, wLst, wCB, wCons, wNil, wVar, getV, some!, oRepr, one, hres]
    refine ⟨hlay S2, hsw, hsl, z1, ?_⟩
    have e1 : shD S2 (.ref p) = true := by unfold shD; rw [res_ref hat]; exact shp_one hso
    have e2 : shD S2 (.lst [.str (toP d).shown]) = true := shp_one hso
    have e3 : eqD S2 (.ref p) (.lst [.str (toP d).shown]) = true := by
      unfold eqD; rw [res_ref hat]
      exact SeqAt.eqv_refl _ (SeqAt.canLay_of_shaped (shp_one hso))
    refine ⟨e1, e2, ?_⟩
    rw [e3]
    exact h S2 E
  have pk : pickK 2 1 [0, 1, 2] [dNet c n e, dG c g] [dS i bg] = [dNet c n e, dG c g, dS i bg] := rfl
  simp only [wTry, wDrop, wCallK, wCons, wNil, wVar, getV, some!, pk]
  refine .inr ⟨n, e, g, i, bg, w, L, d, rfl, hn, hg, hb, hbad, ?_⟩
  simp only [xcQ]
  refine ⟨true, c.exL, fun _ => ⟨_, d, rfl, fun a dd => ?_⟩, fun z => by cases z⟩
  simp only [setV]
  have kLo : PySem.W.kitAny c.K (.ref c.InvalidLetter) ([c.InvalidNumber, c.NoHouse, c.NoRequest, c.NoRoom, c.NotAlone, c.NotHeld, c.TooLarge].map Value.ref) = some false := c.kLo
  refine seq_k fun q2 n2 r2 _ _ x2 => ?_
  simp only [wIf, wTest, wIsE, wVar, getV, some!, c.kLL, c.isL, and_self, true_and, if_true, wDrop, wMt, wCons, wNil, wCB, wExF, mutL, hat, c.xfL, oRepr, one, hres]
  refine ⟨hlay S1, hsw, hsl, ?_⟩
  simp only [oAppend, mutL, hat, one, List.nil_append]
  refine ⟨Nat.lt_of_lt_of_le Nat.zero_lt_one z1, n2 _ _ ?_⟩
  have E := ext_chg (m := .lst [.str (toP d).shown]) E hpn
  have hat2 : put S1 p (.lst [.str (toP d).shown]) p = some (.lst [.str (toP d).shown]) := put_same
  generalize put S1 p (.lst [.str (toP d).shown]) = S2 at E hat2
  refine seq_k fun q3 n3 r3 _ _ x3 => ?_
  simp only [wIf, wTest, wIsET, wVar, getV, some!, kLo, c.isL, and_self, true_and, Bool.false_eq_true, if_false, wNext]
  refine n3 _ _ ?_
  simp only [wIf, wNot, wTest, wIsEB, wVar, getV, some!, c.kLV, c.isL, and_self, true_and, Bool.not_true, Bool.false_eq_true, if_false, wNext, delV]
  exact fin S2 E hat2
theorem plain_steps {L k : Nat} {r : RuleV} (h : RuleOk L r) (hL : L ≤ 12) : plain (k + 2) (dSteps r.steps) := ⟨by rw [List.length_map]; have := h.st; omega, fun x hx => by
  obtain ⟨row, hrow, rfl⟩ := List.mem_map.mp hx
  refine ⟨by rw [List.length_map, (h.ro row hrow).1]; omega, fun y hy => ?_⟩
  obtain ⟨o, _, rfl⟩ := List.mem_map.mp hy
  exact plain_dO⟩
theorem len__law_is_kept (c : Cl) : ∀ ds S Q E, sp__law_is_kept c ds S Q E → ds.length = 2 := by
  rintro ds S Q E ⟨_, _, rfl, _⟩; rfl
theorem rd__law_is_kept (c : Cl) : ∀ ds S Q X1, sp__law_is_kept c ds S Q X1 → w__law_is_kept c (startD N__law_is_kept_ ds) S (endQ Q X1) := by
  rintro ds S Q X1 ⟨a, L, rfl, ha, hL, h⟩
  show w__law_is_kept c [some (dAsk c a), some (dAskT a)] S (endQ Q X1)
  unfold w__law_is_kept
  have e4 : ∀ Q, oSl S (dAskT a) none (some 4) Q = Q (.tup [dT a.prompt, .int a.most, .tup (a.stops.map dT), dT a.tape]) S := fun Q => rfl
  refine seq_k fun q1 n1 r1 _ _ x1 => ?_
  simp only [wIf, wNot, wTest, wCall, wTup, wCons, wNil, wSl, wNoP, wP, wFld, wVar, wC, getV, some!, asI, fldD, dAsk, true_and, askF, List.getElem?_cons_zero, List.getElem?_cons_succ, e4]
  refine ⟨by show 4 ≤ sizeLine; decide, same_go (d := .tup [dT a.prompt, .int a.most, .tup (a.stops.map dT), dT a.tape]) ⟨by show 4 ≤ 1000; decide, fun x hx => ?_⟩ ?_⟩
  · simp only [List.mem_cons, List.not_mem_nil, or_false] at hx
    rcases hx with rfl | rfl | rfl | rfl
    · exact plain_dT (by have := ha.pr.2; omega)
    · exact trivial
    · refine ⟨by rw [List.length_map]; have := ha.st.1; omega, fun y hy => ?_⟩
      obtain ⟨s, hs, rfl⟩ := List.mem_map.mp hy
      exact plain_dT (by have := (ha.st.2 s hs).2; omega)
    · exact plain_dT (by have := ha.ta; omega)
  simp only [Bool.not_true, Bool.false_eq_true, if_false, wNext]
  refine n1 _ _ ?_
  refine seq_k fun q1 n1 r1 _ _ x1 => ?_
  cases er : a.rule with
  | none =>
    have hnn : isNon (dRuleT a.rule) = true := by rw [er]; rfl
    have hn2 : isNon (dRuleO c a.rule) = true := by rw [er]; rfl
    simp only [wIf, wTest, wBin, wVar, wC, getV, some!, ak4, oIsN, hnn, if_true, wRet, wFld, fldD, true_and, List.getElem?_cons_zero, List.getElem?_cons_succ, hn2, r1]
    exact h
  | some r =>
    have hnn : isNon (dRuleT a.rule) = false := by rw [er]; rfl
    have hrr := ha.ru r er
    simp only [wIf, wTest, wBin, wVar, wC, getV, some!, ak4, oIsN, hnn, Bool.false_eq_true, if_false, wNext]
    refine n1 _ _ ?_
    have eO : dRuleO c a.rule = .obj c.Rule N_Rule [.int r.start, dSteps r.steps] := by rw [er]; rfl
    have eT : dRuleT a.rule = .tup [.int r.start, dSteps r.steps] := by rw [er]; rfl
    simp only [wRet, wCall, wTup, wBin, wCons, wNil, wFld, wVar, wC, getV, some!, fldD, true_and, List.getElem?_cons_zero, List.getElem?_cons_succ, ak4, eO, eT]
    refine ⟨⟨rfl, rfl⟩, ⟨rfl, rfl⟩, z2, same_go (d := .tup [.int r.start, dSteps r.steps]) ⟨by show 2 ≤ 1000; decide, fun x hx => ?_⟩ h⟩
    simp only [List.mem_cons, List.not_mem_nil, or_false] at hx
    rcases hx with rfl | rfl
    · exact trivial
    · exact plain_steps hrr hL
end K07
set_option Elab.async false
set_option linter.all false
set_option maxRecDepth 100000
set_option maxHeartbeats 1000000
namespace K07
open PySem PySem.Spec PyProof.Rows L2 DL
theorem next_word {e : Option Int} {a : AskV} {t w : Vec} {x : Str} (h : (nextF e a t w).2 = some x) : PyData.strOk x = true := by
  unfold nextF at h
  cases hc : choiceF a w t with
  | none => rw [hc] at h; cases h; exact strOk_str _
  | some l =>
    rw [hc] at h
    dsimp only at h
    by_cases z : some l = e
    · rw [if_pos z] at h; cases h; exact strOk_str _
    rw [if_neg z] at h
    by_cases y : 0 < stopF a.stops (t ++ [l])
    · rw [if_pos y] at h; cases h; exact strOk_str _
    rw [if_neg y] at h
    dsimp only at h
    split at h
    · cases h; exact strOk_str _
    · cases h
theorem next_len {e : Option Int} {a : AskV} {t w : Vec} : (nextF e a t w).1.length ≤ t.length + 1 := by
  unfold nextF
  cases choiceF a w t with
  | none => exact Nat.le_succ _
  | some l =>
    dsimp only
    by_cases z : some l = e
    · rw [if_pos z]; exact Nat.le_succ _
    rw [if_neg z]
    by_cases y : 0 < stopF a.stops (t ++ [l])
    · rw [if_pos y]
      show (List.take _ _).length ≤ _
      rw [List.length_take, List.length_append]
      show min _ (t.length + 1) ≤ _
      omega
    rw [if_neg y]
    show (t ++ [l]).length ≤ _
    rw [List.length_append]; exact Nat.le_refl _
theorem walk_plain {n : NetV} {e : Option Int} {a : AskV} : ∀ (k : Nat) (t : Vec) (r : Vec × Str), walkF n e a k t = some r → t.length + k ≤ 1000 → plain 7 (dTW r)
  | 0, t, r, h, _ => by cases h
  | k + 1, t, r, h, hl => by
    unfold walkF at h
    have h1 := next_len (e := e) (a := a) (t := t) (w := wtsF n a t)
    cases hx : nextF e a t (wtsF n a t) with
    | mk t' wd =>
      rw [hx] at h h1
      have h1 : t'.length ≤ t.length + 1 := h1
      cases wd with
      | some x =>
        have h : some (t', x) = some r := h
        cases h
        refine ⟨by show 2 ≤ 1000; decide, fun y hy => ?_⟩
        simp only [List.mem_cons, List.not_mem_nil, or_false] at hy
        rcases hy with rfl | rfl
        · exact plain_dT (by show t'.length ≤ 1000; omega)
        · exact next_word (e := e) (a := a) (t := t) (w := wtsF n a t) (by rw [hx])
      | none => exact walk_plain k t' r h (by omega)
theorem nums_drop {m k : Nat} {ns : Vec} (h : NumsOk m ns) : NumsOk (m - k) (ns.drop k) := ⟨by rw [List.length_drop, h.1], fun x hx => h.2 x (List.mem_of_mem_drop hx)⟩
theorem end_at {q x : Int} {L : Nat} (h : 0 ≤ q ∧ q < 2) : ∃ e, atI [D.non, .int x] q = some (dO e) := by
  have e : q = 0 ∨ q = 1 := by omega
  rcases e with rfl | rfl
  · exact ⟨none, rfl⟩
  · exact ⟨some x, rfl⟩
theorem numA {ns : Vec} {m k : Nat} (hns : NumsOk m ns) (h : k < m) : ∃ v, (0 ≤ v ∧ v < 1000) ∧ ∀ (S : Sto) (Q : Qd), oIx S (dL ns) (.int (k : Int)) Q = Q (.int v) S := by
  obtain ⟨v, hv⟩ : ∃ v, ns[k]? = some v := ⟨_, List.getElem?_eq_getElem (by rw [hns.1]; exact h)⟩
  exact ⟨v, hns.2 v (List.mem_of_getElem? hv), fun S Q => oIx_eq (xs := ns.map D.int) rfl (at_k (by rw [List.getElem?_map, hv]; rfl)) Q⟩
theorem prime30 {q : Int} (h : 0 ≤ q ∧ q < 30) : ∃ p, p ∈ thePrimes ∧ atI (thePrimes.map D.int ++ [D.int 2, .int 3, .int 5, .int 97, .int 2]) q = some (.int p) := by
  obtain ⟨p, hp⟩ : ∃ p, (thePrimes ++ [2, 3, 5, 97, 2])[q.toNat]? = some p := ⟨_, List.getElem?_eq_getElem (show q.toNat < 30 by omega)⟩
  refine ⟨p, ?_, ?_⟩
  · rcases List.mem_append.mp (List.mem_of_getElem? hp) with z | z
    · exact z
    · have : ∀ x, x ∈ ([2, 3, 5, 97, 2] : List Int) → x ∈ thePrimes := by decide
      exact this p z
  · have e : (thePrimes.map D.int ++ [D.int 2, .int 3, .int 5, .int 97, .int 2]) = (thePrimes ++ [2, 3, 5, 97, 2]).map D.int := by rw [List.map_append]; rfl
    rw [e]
    exact at_z h.1 (by rw [List.getElem?_map, hp]; rfl)
theorem eight_at {x q : Int} (hx : 1 ≤ x ∧ x ≤ 12) (h : 0 ≤ q ∧ q < 8) : ∃ L : Nat, (1 ≤ L ∧ L ≤ 12) ∧ atI [D.int 1, .int 2, .int 3, .int 4, .int 2, .int 3, .int 5, .int x] q = some (.int (L : Int)) := by
  have e : q = 0 ∨ q = 1 ∨ q = 2 ∨ q = 3 ∨ q = 4 ∨ q = 5 ∨ q = 6 ∨ q = 7 := by omega
  rcases e with rfl | rfl | rfl | rfl | rfl | rfl | rfl | rfl
  · exact ⟨1, by decide, rfl⟩
  · exact ⟨2, by decide, rfl⟩
  · exact ⟨3, by decide, rfl⟩
  · exact ⟨4, by decide, rfl⟩
  · exact ⟨2, by decide, rfl⟩
  · exact ⟨3, by decide, rfl⟩
  · exact ⟨5, by decide, rfl⟩
  · exact ⟨x.toNat, by omega, by rw [Int.toNat_of_nonneg (by omega)]; rfl⟩
theorem six_at {q : Int} (h : 0 ≤ q ∧ q < 6) : ∃ M : Nat, M ≤ 3 ∧ atI [D.int 0, .int 1, .int 1, .int 2, .int 1, .int 3] q = some (.int (M : Int)) := by
  have e : q = 0 ∨ q = 1 ∨ q = 2 ∨ q = 3 ∨ q = 4 ∨ q = 5 := by omega
  rcases e with rfl | rfl | rfl | rfl | rfl | rfl
  · exact ⟨0, by decide, rfl⟩
  · exact ⟨1, by decide, rfl⟩
  · exact ⟨1, by decide, rfl⟩
  · exact ⟨2, by decide, rfl⟩
  · exact ⟨1, by decide, rfl⟩
  · exact ⟨3, by decide, rfl⟩
theorem next_lets {L : Nat} {e : Option Int} {a : AskV} {t w : Vec} (ht : LetsOk L t) (hw : WtOk L w) : LetsOk L (nextF e a t w).1 := by
  unfold nextF
  cases hc : choiceF a w t with
  | none => exact ht
  | some l =>
    have hl := choice_ok hw hc
    dsimp only
    by_cases z : some l = e
    · rw [if_pos z]; exact ht
    rw [if_neg z]
    by_cases y : 0 < stopF a.stops (t ++ [l])
    · rw [if_pos y]
      exact fun x hx => lets_snoc ht hl x (List.mem_of_mem_take hx)
    rw [if_neg y]
    exact lets_snoc ht hl
theorem walk_lets {w L : Nat} {n : NetV} {e : Option Int} {a : AskV} (hn : NetOk w L n) (ha : AskOk L a) : ∀ (k : Nat) (t : Vec) (r : Vec × Str), LetsOk L t → t.length + k ≤ 61 → walkF n e a k t = some r → LetsOk L r.1
  | 0, t, r, _, _, h => by cases h
  | k + 1, t, r, ht, hl, h => by
    have hp : LetsOk L (a.prompt ++ t) := fun x hx => by
      rcases List.mem_append.mp hx with z | z
      · exact ha.pr.1 x z
      · exact ht x z
    have hne2 : a.prompt ++ t ≠ [] := fun z => by have := ha.pr.2.1; rw [(List.append_eq_nil_iff.mp z).1] at this; simp at this
    obtain ⟨rr, hrr⟩ := last_some (n := n) hne2
    have hw : WtOk L (wtsF n a t) := by
      unfold wtsF; rw [hrr]
      exact wts_ok hn hp (by rw [List.length_append]; have := ha.pr.2.2; omega) hrr
    have h2 := next_lets (e := e) (a := a) ht hw
    have h1 := next_len (e := e) (a := a) (t := t) (w := wtsF n a t)
    unfold walkF at h
    cases hx : nextF e a t (wtsF n a t) with
    | mk t' wd =>
      rw [hx] at h h1 h2
      have h1 : t'.length ≤ t.length + 1 := h1
      cases wd with
      | some x =>
        have h : some (t', x) = some r := h
        cases h
        exact h2
      | none => exact walk_lets hn ha k t' r h2 (by omega) h
theorem take_lets {L k : Nat} {t : Vec} (h : LetsOk L t) : LetsOk L (t.take k) := fun x hx => h x (List.mem_of_mem_take hx)
end K07
set_option Elab.async false
set_option linter.all false
set_option maxRecDepth 100000
set_option maxHeartbeats 1000000
namespace K07
open PySem PySem.Spec PyProof.Rows L2 DL
theorem oLen_dT {S : Sto} {v : Vec} (Q : Qd) : oLen S [dT v] Q = Q (.int (v.length : Nat)) S := by
  show Q (.int ((v.map D.int).length : Nat)) S = _
  rw [List.length_map]
theorem oSl_to {S : Sto} {v : Vec} {k : Nat} (h : k ≤ v.length) (Q : Qd) : oSl S (dT v) none (some (k : Int)) Q = Q (dT (v.take k)) S := by
  show Q (.tup (DL.cutD (v.map D.int) none (some (k : Int)))) S = _
  rw [cutD_to (by rw [List.length_map]; exact h), ← List.map_take]
  rfl
theorem oSl_take {v : Vec} {k : Nat} : ∃ u : Vec, (∀ (S : Sto) (Q : Qd), oSl S (dT v) none (some (k : Int)) Q = Q (dT u) S) ∧ (∀ x, x ∈ u → x ∈ v) ∧ u.length ≤ k := by
  by_cases h : k ≤ v.length
  · exact ⟨v.take k, fun S Q => oSl_to h Q, fun x hx => List.mem_of_mem_take hx, by rw [List.length_take]; omega⟩
  · refine ⟨v, fun S Q => ?_, fun x hx => hx, by omega⟩
    show Q (.tup (DL.cutD (v.map D.int) none (some (k : Int)))) S = _
    rw [cutD_int]
    unfold cutI
    have e2 : HT.sIx v.length v.length (some (k : Int)) = v.length := by rw [sIx_pos (by omega)]; omega
    rw [sIx_none, e2, List.drop_zero, Nat.sub_zero, List.take_length]
    rfl
theorem oList_dT {S : Sto} {v : Vec} (Q : Qd) : oList S [dT v] Q = Q (dR false v) S := rfl
theorem oList_dR {S : Sto} {i : Bool} {v : Vec} (Q : Qd) : oList S [dR i v] Q = Q (.lst (v.map D.int)) S := by cases i <;> rfl
theorem dTW0 {S : Sto} {r : Vec × Str} (Q : Qd) : oIx S (dTW r) (.int 0) Q = Q (dT r.1) S := oIx_eq (xs := [dT r.1, .str r.2]) rfl rfl Q
/-- one of two, a tuple or a list -/
theorem two_S {S : Sto} {xs : List D} {q : Int} (h : 0 ≤ q ∧ q < 2) : ∃ i, ∀ Q, oIx S (.lst [.tup xs, .lst xs]) (.int q) Q = Q (dS i xs) S := by
  have e : q = 0 ∨ q = 1 := by omega
  rcases e with rfl | rfl
  · exact ⟨true, fun Q => oIx_eq (xs := [.tup xs, .lst xs]) rfl rfl Q⟩
  · exact ⟨false, fun Q => oIx_eq (xs := [.tup xs, .lst xs]) rfl rfl Q⟩
theorem pair0 {S : Sto} {x y : D} (Q : Qd) : oIx S (.tup [x, y]) (.int 0) Q = Q x S := oIx_eq (xs := [x, y]) rfl rfl Q
theorem pair1 {S : Sto} {x y : D} (Q : Qd) : oIx S (.tup [x, y]) (.int 1) Q = Q y S := oIx_eq (xs := [x, y]) rfl rfl Q
def wChk (c : Cl) : WPs := (wIf (wOr (wNot (wTest (wCall (sp__law_same c) (wCons (wCallD (sp_written c) [.tup []] (wCons (wVar 10) (wCons (wVar 14) wNil))) (wCons (wVar 12) wNil))))) (wNot (wTest (wCall (sp__law_is_kept c) (wCons (wVar 14) (wCons (wVar 11) wNil)))))) (wRet (wC (.bl false))) wNext)
def wTD (c : Cl) : WPs := (wSeq (wSet 18 (wCall (sp__law_spoilt c) (wCons (wVar 2) (wCons (wVar 11) (wCons (wVar 16) (wCons (wVar 5) wNil))))))
  (wSeq (wSet 19 (wCall (sp__law_first_bad c) (wCons (wBin oIx (wVar 18) (wC (.int 0))) (wCons (wBin oIx (wVar 18) (wC (.int 1))) (wCons (wVar 5) wNil)))))
  (wIf (wTest (wBin oGt (wCB oLen (wCons (wVar 19) wNil)) (wC (.int 0)))) (wSeq (wSet 17 (wBin oIx (wLst (wCons (wBin oIx (wVar 18) (wC (.int 1))) (wCons (wCB oList (wCons (wBin oIx (wVar 18) (wC (.int 1))) wNil)) wNil))) (wBin oMod (wCB oInt (wCons (wBin oIx (wVar 2) (wC (.int 197))) wNil)) (wC (.int 2)))))
  (wSeq (wIf (wNot (wTest (wCall (sp__law_refuses c) (wCons (wVar 10) (wCons (wCall (sp__law_made c) (wCons (wBin oIx (wVar 18) (wC (.int 0))) (wCons (wVar 13) wNil))) (wCons (wVar 17) (wCons (wBin oIx (wVar 19) (wC (.int 0))) wNil))))))) (wRet (wC (.bl false))) wNext)
  (wChk c))) wNext)))
def wTC (c : Cl) : WPs := (wSeq (wSet 17 (wVar 16))
  (wSeq (wIf (wTest (wBin oEq (wBin oMod (wCB oInt (wCons (wBin oIx (wVar 2) (wC (.int 195))) wNil)) (wC (.int 2))) (wC (.int 0)))) (wSet 17 (wCB oList (wCons (wVar 16) wNil))) wNext)
  (wSeq (wIf (wNot (wTest (wCall (sp__law_same c) (wCons (wCallK (sp_written c) 2 1 [0, 1, 2] (wCons (wVar 10) (wCons (wCall (sp__law_made c) (wCons (wVar 11) (wCons (wNotV (wVar 13)) wNil))) wNil)) (wCons (wVar 17) wNil)) (wCons (wCall (sp__law_written c) (wCons (wVar 8) (wCons (wVar 9) (wCons (wVar 11) (wCons (wVar 16) wNil))))) wNil))))) (wRet (wC (.bl false))) wNext)
  (wSeq (wIf (wTest (wBin oNe (wCB oList (wCons (wVar 17) wNil)) (wCB oList (wCons (wVar 16) wNil)))) (wRet (wC (.bl false))) wNext)
  (wTD c)))))
def wTB (c : Cl) : WPs := (wSeq (wSet 16 (wTup wNil))
  (wSeq (wIf (wTest (wBin oEq (wBin oMod (wCB oInt (wCons (wBin oIx (wVar 2) (wC (.int 193))) wNil)) (wC (.int 3))) (wC (.int 0)))) (wSet 16 (wCB oTuple (wCons (wLc (wRg1 (wBin oMod (wCB oInt (wCons (wBin oIx (wVar 2) (wC (.int 194))) wNil)) (wCB oMin2 (wCons (wC (.int 30)) (wCons (wBin oIx (wVar 11) (wC (.int 1))) wNil))))) (gN 20) wYes (wBin oMod (wCB oInt (wCons (wBin oIx (wVar 2) (wBin oAdd (wC (.int 60)) (wVar 20))) wNil)) (wVar 5)) [20]) wNil))) wNext)
  (wSeq (wIf (wTest (wBin oEq (wBin oMod (wCB oInt (wCons (wBin oIx (wVar 2) (wC (.int 193))) wNil)) (wC (.int 3))) (wC (.int 1)))) (wSeq (wSet 16 (wSl (wBin oIx (wVar 12) (wC (.int 0))) wNoP (wP (wBin oMod (wCB oInt (wCons (wBin oIx (wVar 2) (wC (.int 194))) wNil)) (wBin oAdd (wCB oLen (wCons (wBin oIx (wVar 12) (wC (.int 0))) wNil)) (wC (.int 1)))))))
  (wSet 16 (wSl (wVar 16) wNoP (wP (wBin oSub (wBin oIx (wVar 11) (wC (.int 1))) (wC (.int 1))))))) wNext)
  (wTC c))))
def wTA (c : Cl) : WPs := (wSeq (wChk c)
  (wSeq (wSet 15 (wTup (wCons (wBin oIx (wVar 11) (wC (.int 0))) (wCons (wBin oAdd (wC (.int 1)) (wBin oMod (wCB oInt (wCons (wBin oIx (wVar 2) (wC (.int 198))) wNil)) (wC (.int 30)))) (wCons (wBin oIx (wVar 11) (wC (.int 2))) (wCons (wBin oIx (wVar 11) (wC (.int 3))) (wCons (wBin oIx (wVar 11) (wC (.int 4))) wNil)))))))
  (wSeq (wIf (wTest (wBin oEq (wBin oMod (wCB oInt (wCons (wBin oIx (wVar 2) (wC (.int 199))) wNil)) (wC (.int 3))) (wC (.int 0)))) (wSeq (wIf (wNot (wTest (wCall (sp__law_same c) (wCons (wCallD (sp_written c) [.tup []] (wCons (wVar 10) (wCons (wCall (sp__law_made c) (wCons (wVar 15) (wCons (wVar 13) wNil))) wNil))) (wCons (wCall (sp__law_written c) (wCons (wVar 8) (wCons (wVar 9) (wCons (wVar 15) (wCons (wTup wNil) wNil))))) wNil))))) (wRet (wC (.bl false))) wNext)
  (wIf (wNot (wTest (wCall (sp__law_same c) (wCons (wCallD (sp_written c) [.tup []] (wCons (wVar 10) (wCons (wVar 14) wNil))) (wCons (wVar 12) wNil))))) (wRet (wC (.bl false))) wNext)) wNext)
  (wTB c))))

structure Cx7 (W L : Nat) (n : NetV) (e : Option Int) (a : AskV) (r : Vec × Str) (ns : Vec) : Prop where
  hn : NetOk W L n
  ha : AskOk L a
  hL : 1 ≤ L ∧ L ≤ 12
  hns : NumsOk 490 ns
  hr : walkF n e a 31 [] = some r
theorem lets0 {L : Nat} : LetsOk L [] := fun x hx => by cases hx
theorem wend {W L : Nat} {n : NetV} {e : Option Int} {a : AskV} (hn : NetOk W L n) (ha : AskOk L a) (t : Vec) (ht : LetsOk L t) (hl : (t.length : Int) < a.most) : ∃ r, walkF n e a 31 t = some r := walk_end hn ha 31 t ht (by have := ha.mo; omega) hl
theorem wpl {L : Nat} {n : NetV} {e : Option Int} {a : AskV} {t : Vec} {r : Vec × Str} (ha : AskOk L a) (hl : (t.length : Int) < a.most) (hr : walkF n e a 31 t = some r) : plain 7 (dTW r) := walk_plain 31 _ _ hr (by have := ha.mo; omega)
theorem most0 {L : Nat} {a : AskV} (ha : AskOk L a) : (([] : Vec).length : Int) < a.most := by have := ha.mo; show ((0 : Nat) : Int) < a.most; omega
section
variable {c : Cl} {W L : Nat} {n : NetV} {e : Option Int} {a : AskV} {r : Vec × Str} {ns : Vec} {b : Bool} {x0 x1 x3 x4 x6 x7 y15 y16 y17 y18 y19 y20 : Option D} {S : Sto} {q : QS}
theorem chk (X : Cx7 W L n e a r ns) (h : ∀ S', q.nx [x0, x1, some (dL ns), x3, x4, some (.int (L : Nat)), x6, x7, some (dNetT n), some (dO e), some (dNet c n e), some (dAskT a), some (dTW r), some (.bl b), some (dAsk c a), y15, y16, y17, y18, y19, y20] S') : wChk c [x0, x1, some (dL ns), x3, x4, some (.int (L : Nat)), x6, x7, some (dNetT n), some (dO e), some (dNet c n e), some (dAskT a), some (dTW r), some (.bl b), some (dAsk c a), y15, y16, y17, y18, y19, y20] S q := by
  have hrp := wpl X.ha (most0 X.ha) X.hr
  unfold wChk
  simp only [wIf, wOr, wNot, wTest, wCall, wCallD, wCons, wNil, wVar, getV, some!]
  refine .inl ⟨n, e, a, true, [], W, L, r, rfl, X.hn, X.ha, lets0, most0 X.ha, X.hr, fun S1 _ => same_go hrp ?_⟩
  simp only [Bool.not_true, Bool.false_eq_true, if_false]
  refine ⟨a, L, rfl, X.ha, X.hL.2, ?_⟩
  simp only [Bool.not_true, Bool.false_eq_true, if_false, wNext]
  exact h S1
theorem tailD (X : Cx7 W L n e a r ns) {bg : Vec} (hbg : LetsOk L bg) (hbl : (bg.length : Int) < a.most) (hq : ∀ (y15 y16 y17 y18 y19 y20 : Option D) S', q.nx [x0, x1, some (dL ns), x3, x4, some (.int (L : Nat)), x6, x7, some (dNetT n), some (dO e), some (dNet c n e), some (dAskT a), some (dTW r), some (.bl b), some (dAsk c a), y15, y16, y17, y18, y19, y20] S') : wTD c [x0, x1, some (dL ns), x3, x4, some (.int (L : Nat)), x6, x7, some (dNetT n), some (dO e), some (dNet c n e), some (dAskT a), some (dTW r), some (.bl b), some (dAsk c a), y15, some (dT bg), y17, y18, y19, y20] S q := by
  have hmo := X.ha.mo
  have hg := gok_of X.hL.2 X.ha
  have eG := dGT_toG a
  unfold wTD
  refine seq_k fun q1 n1 _ _ _ _ => ?_
  simp only [wSet, wCall, wCons, wNil, wVar, getV, setV, some!]
  refine ⟨ns, toG a, bg.map D.int, L, by rw [eG] <;> rfl, X.hns, hg, bgok_of X.hL.2 hbg (by omega), X.hL, fun g' bg' hg' hb' => n1 _ _ ?_⟩
  refine seq_k fun q1 n1 _ _ _ _ => ?_
  simp only [wSet, wCall, wBin, wCons, wNil, wVar, wC, getV, setV, some!, pair0, pair1]
  refine ⟨g', bg', L, rfl, hg', hb', fun S1 _ => n1 _ _ ?_⟩
  obtain ⟨v197, b197, j197⟩ := numA X.hns (k := 197) (by decide)
  have i197 : ∀ (S : Sto) Q, oIx S (dL ns) (.int 197) Q = Q (.int v197) S := j197
  have ol : ∀ (S : Sto) (xs : List D) (Q : Qd), oLen S [.lst xs] Q = Q (.int (xs.length : Nat)) S := fun _ _ _ => rfl
  cases hbad : firstBad L (allG g' bg') with
  | none =>
    simp only [wIf, wTest, wBin, wCB, wCons, wNil, wVar, wC, getV, some!, ol, Option.toList, List.length_nil, oGt, oI0, decide_eq_true_eq]
    rw [if_neg (by decide)]
    exact hq _ _ _ _ _ _ _
  | some d =>
    simp only [wIf, wTest, wBin, wCB, wCons, wNil, wVar, wC, getV, some!, ol, Option.toList, List.length_cons, List.length_nil, oGt, oI0, decide_eq_true_eq]
    rw [if_pos (by decide)]
    refine seq_k fun q1 n1 _ _ _ _ => ?_
    obtain ⟨i, ai⟩ := two_S (S := S1) (xs := bg') (modN (v := v197) (show (0 : Int) < 2 by decide))
    simp only [wSet, wBin, wLst, wCB, wCons, wNil, wVar, wC, getV, setV, some!, pair1, oList_T, i197, oInt, one, oMod, oI, ai]
    refine ⟨z2, by decide, n1 _ _ ?_⟩
    refine seq_k fun q1 n1 _ _ _ _ => ?_
    have sg : ∀ (S : Sto) (Q : Qd), oIx S (.lst [d]) (.int 0) Q = Q d S := fun S Q => oIx_eq (xs := [d]) rfl rfl Q
    simp only [wIf, wNot, wTest, wCall, wBin, wCons, wNil, wVar, wC, getV, some!, pair0]
    refine ⟨g', b, L, rfl, hg', fun S2 _ => ?_⟩
    simp only [sg]
    refine ⟨n, e, g', i, bg', W, L, d, rfl, X.hn, hg', hb', hbad, fun S3 _ => ?_⟩
    simp only [Bool.not_true, Bool.false_eq_true, if_false, wNext]
    exact n1 _ _ (chk X fun S4 => hq _ _ _ _ _ _ _)
theorem tailC (X : Cx7 W L n e a r ns) {bg : Vec} (hbg : LetsOk L bg) (hbl : (bg.length : Int) < a.most) (hq : ∀ (y15 y16 y17 y18 y19 y20 : Option D) S', q.nx [x0, x1, some (dL ns), x3, x4, some (.int (L : Nat)), x6, x7, some (dNetT n), some (dO e), some (dNet c n e), some (dAskT a), some (dTW r), some (.bl b), some (dAsk c a), y15, y16, y17, y18, y19, y20] S') : wTC c [x0, x1, some (dL ns), x3, x4, some (.int (L : Nat)), x6, x7, some (dNetT n), some (dO e), some (dNet c n e), some (dAskT a), some (dTW r), some (.bl b), some (dAsk c a), y15, some (dT bg), y17, y18, y19, y20] S q := by
  have hmo := X.ha.mo
  have hg := gok_of X.hL.2 X.ha
  have eG := dGT_toG a
  obtain ⟨v195, b195, j195⟩ := numA X.hns (k := 195) (by decide)
  have i195 : ∀ (S : Sto) Q, oIx S (dL ns) (.int 195) Q = Q (.int v195) S := j195
  unfold wTC
  refine seq_k fun q1 n1 _ _ _ _ => ?_
  simp only [wSet, wVar, getV, setV, some!]
  refine n1 _ _ ?_
  refine seq_k fun q1 n1 _ _ _ _ => ?_
  have key : ∀ (i : Bool) (S : Sto), q1.nx [x0, x1, some (dL ns), x3, x4, some (.int (L : Nat)), x6, x7, some (dNetT n), some (dO e), some (dNet c n e), some (dAskT a), some (dTW r), some (.bl b), some (dAsk c a), y15, some (dT bg), some (dR i bg), y18, y19, y20] S := fun i S => by
    refine n1 _ _ ?_
    obtain ⟨r2, hr2⟩ := wend (e := e) X.hn X.ha bg hbg hbl
    refine seq_k fun q1 n1 _ _ _ _ => ?_
    simp only [wIf, wNot, wTest, wCall, wCallK, wNotV, wCons, wNil, wVar, getV, some!]
    refine ⟨toG a, !b, L, by rw [eG], hg, fun S2 _ => ?_⟩
    rw [dG_toG]
    refine .inl ⟨n, e, a, i, bg, W, L, r2, rfl, X.hn, X.ha, hbg, hbl, hr2, fun S3 _ => ?_⟩
    refine ⟨n, e, a, bg, W, L, r2, rfl, X.hn, X.ha, hbg, hbl, hr2, fun S4 _ => same_go (wpl X.ha hbl hr2) ?_⟩
    simp only [Bool.not_true, Bool.false_eq_true, if_false, wNext]
    refine n1 _ _ ?_
    refine seq_k fun q1 n1 _ _ _ _ => ?_
    have o2 : ∀ (S : Sto) (Q : Qd), oList S [dT bg] Q = Q (.lst (bg.map D.int)) S := fun S Q => rfl
    simp only [wIf, wTest, wBin, wCB, wCons, wNil, wVar, wC, getV, some!, oList_dR, o2, oNe, shD_lst, eqD_lst, decide_true, Bool.not_true, true_and, Bool.false_eq_true, if_false, wNext]
    exact n1 _ _ (tailD X hbg hbl hq)
  simp only [wIf, wTest, wBin, wCB, wCons, wNil, wVar, wC, getV, some!, i195, oInt, one, oMod, oI, oEq, shD_int, eqD_int, true_and, decide_eq_true_eq]
  refine ⟨by decide, ?_⟩
  by_cases z : v195 % 2 = 0
  · rw [if_pos z]
    simp only [wSet, wCB, wCons, wNil, wVar, getV, setV, some!, oList_dT]
    exact key false _
  · rw [if_neg z]
    exact key true _
theorem tailB (X : Cx7 W L n e a r ns) (hq : ∀ (y15 y16 y17 y18 y19 y20 : Option D) S', q.nx [x0, x1, some (dL ns), x3, x4, some (.int (L : Nat)), x6, x7, some (dNetT n), some (dO e), some (dNet c n e), some (dAskT a), some (dTW r), some (.bl b), some (dAsk c a), y15, y16, y17, y18, y19, y20] S') : wTB c [x0, x1, some (dL ns), x3, x4, some (.int (L : Nat)), x6, x7, some (dNetT n), some (dO e), some (dNet c n e), some (dAskT a), some (dTW r), some (.bl b), some (dAsk c a), y15, y16, y17, y18, y19, y20] S q := by
  have hmo := X.ha.mo
  have l1 := X.hL
  obtain ⟨v193, b193, j193⟩ := numA X.hns (k := 193) (by decide)
  obtain ⟨v194, b194, j194⟩ := numA X.hns (k := 194) (by decide)
  have i193 : ∀ (S : Sto) Q, oIx S (dL ns) (.int 193) Q = Q (.int v193) S := j193
  have i194 : ∀ (S : Sto) Q, oIx S (dL ns) (.int 194) Q = Q (.int v194) S := j194
  unfold wTB
  refine seq_k fun q1 n1 _ _ _ _ => ?_
  simp only [wSet, wTup, wNil, setV]
  refine ⟨Nat.zero_le _, n1 _ _ ?_⟩
  refine seq_k fun q1 n1 _ _ _ _ => ?_
  have key1 : ∀ (bg : Vec) (S : Sto), LetsOk L bg → (bg.length : Int) < a.most → q1.nx [x0, x1, some (dL ns), x3, x4, some (.int (L : Nat)), x6, x7, some (dNetT n), some (dO e), some (dNet c n e), some (dAskT a), some (dTW r), some (.bl b), some (dAsk c a), y15, some (dT bg), y17, y18, y19, y20] S := fun bg S hbg hbl => by
    refine n1 _ _ ?_
    refine seq_k fun q1 n1 _ _ _ _ => ?_
    have key2 : ∀ (bg : Vec) (S : Sto), LetsOk L bg → (bg.length : Int) < a.most → q1.nx [x0, x1, some (dL ns), x3, x4, some (.int (L : Nat)), x6, x7, some (dNetT n), some (dO e), some (dNet c n e), some (dAskT a), some (dTW r), some (.bl b), some (dAsk c a), y15, some (dT bg), y17, y18, y19, y20] S := fun bg S hbg hbl => n1 _ _ (tailC X hbg hbl hq)
    simp only [wIf, wTest, wBin, wCB, wCons, wNil, wVar, wC, getV, some!, i193, oInt, one, oMod, oI, oEq, shD_int, eqD_int, true_and, decide_eq_true_eq]
    refine ⟨by decide, ?_⟩
    by_cases z : v193 % 3 = 1
    · rw [if_pos z]
      have hrl := walk_lets X.hn X.ha 31 [] r lets0 (by decide) X.hr
      obtain ⟨j, ej, hj⟩ := mod_nat (v := v194) (n := r.1.length + 1) (by omega)
      have ej : v194 % ((r.1.length : Int) + 1) = (j : Int) := ej
      obtain ⟨u, hu, um, ul⟩ := oSl_take (v := r.1) (k := j)
      obtain ⟨m, hm, hm2⟩ : ∃ m : Nat, a.most - 1 = (m : Int) ∧ (m : Int) < a.most := ⟨(a.most - 1).toNat, by omega, by omega⟩
      obtain ⟨u2, hu2, um2, ul2⟩ := oSl_take (v := u) (k := m)
      refine seq_k fun q2 n2 _ _ _ _ => ?_
      simp only [wSet, wSl, wNoP, wP, wBin, wCB, wCons, wNil, wVar, wC, getV, setV, some!, dTW0, i194, oInt, one, oLen_dT, oAdd, oMod, oI, ej, asI, hu]
      refine ⟨by omega, n2 _ _ ?_⟩
      simp only [wSet, wSl, wNoP, wP, wBin, wVar, wC, getV, setV, some!, ak1, oSub, oI0, hm, asI, hu2]
      exact key2 u2 _ (fun x hx => hrl x (um x (um2 x hx))) (by omega)
    · rw [if_neg z]
      exact key2 bg _ hbg hbl
  simp only [wIf, wTest, wBin, wCB, wCons, wNil, wVar, wC, getV, some!, i193, oInt, one, oMod, oI, oEq, shD_int, eqD_int, true_and, decide_eq_true_eq]
  refine ⟨by decide, ?_⟩
  by_cases z : v193 % 3 = 0
  · rw [if_pos z]
    obtain ⟨J, eJ, hJ⟩ : ∃ J : Nat, v194 % min 30 a.most = (J : Int) ∧ (J : Int) < a.most := by
      have e1 : min 30 a.most = a.most := by omega
      rw [e1]
      have := modN (v := v194) (show 0 < a.most by omega)
      exact ⟨(v194 % a.most).toNat, by omega, by omega⟩
    simp only [wSet, wCB, wCons, wNil, wLc, wRg1, wBin, wVar, wC, getV, setV, some!, i194, oInt, one, two, oMin2, ak1, oMod, oI, asI, delVs, delV, eJ]
    refine ⟨by omega, ⟨by omega, by omega⟩, by rw [rngD_length]; unfold sizeLine; omega, ?_⟩
    rw [Int.toNat_natCast]
    refine compI_inv (fun k acc S' => ∃ pr : Vec, acc = pr.map D.int ∧ pr.length = k ∧ LetsOk L pr) ⟨[], rfl, rfl, lets0⟩ (fun _ _ _ _ => trivial) ?_ ?_
    · rintro j d acc S' hj ⟨pr, rfl, hprl, hpro⟩
      obtain ⟨hltj, rfl⟩ := rngD_get hj
      rw [Int.zero_add]
      obtain ⟨vj, bj, ij⟩ := numA X.hns (k := 60 + j) (by omega)
      have ij' : ∀ Q, oIx S' (dL ns) (.int (60 + (j : Int))) Q = Q (.int vj) S' := fun Q => by
        rw [show (60 + (j : Int)) = ((60 + j : Nat) : Int) by push_cast; rfl]; exact ij S' Q
      have hm := modN (v := vj) (show 0 < (L : Int) by omega)
      simp only [gN, setV, wYes, if_true, wBin, wCB, wCons, wNil, wVar, wC, getV, some!, oAdd, ij', oInt, one, oMod, oI]
      exact ⟨by omega, pr ++ [vj % (L : Int)], by rw [List.map_append]; rfl, by rw [List.length_append, hprl]; rfl, lets_snoc hpro hm⟩
    rintro acc S4 ⟨pr, rfl, hprl, hpro⟩
    rw [rngD_length] at hprl
    simp only [oTuple, one, seqA, seqL, seqM, some!]
    exact key1 pr _ hpro (by omega)
  · rw [if_neg z]
    exact key1 [] _ lets0 (most0 X.ha)
theorem tailA (X : Cx7 W L n e a r ns) (hq : ∀ (y15 y16 y17 y18 y19 y20 : Option D) S', q.nx [x0, x1, some (dL ns), x3, x4, some (.int (L : Nat)), x6, x7, some (dNetT n), some (dO e), some (dNet c n e), some (dAskT a), some (dTW r), some (.bl b), some (dAsk c a), y15, y16, y17, y18, y19, y20] S') : wTA c [x0, x1, some (dL ns), x3, x4, some (.int (L : Nat)), x6, x7, some (dNetT n), some (dO e), some (dNet c n e), some (dAskT a), some (dTW r), some (.bl b), some (dAsk c a), y15, y16, y17, y18, y19, y20] S q := by
  have hmo := X.ha.mo
  obtain ⟨v198, b198, j198⟩ := numA X.hns (k := 198) (by decide)
  obtain ⟨v199, b199, j199⟩ := numA X.hns (k := 199) (by decide)
  have i198 : ∀ (S : Sto) Q, oIx S (dL ns) (.int 198) Q = Q (.int v198) S := j198
  have i199 : ∀ (S : Sto) Q, oIx S (dL ns) (.int 199) Q = Q (.int v199) S := j199
  have m198 := modN (v := v198) (show (0 : Int) < 30 by decide)
  unfold wTA
  refine seq_k fun q1 n1 _ _ _ _ => ?_
  refine chk X fun S1 => n1 _ _ ?_
  refine seq_k fun q1 n1 _ _ _ _ => ?_
  simp only [wSet, wTup, wBin, wCB, wCons, wNil, wVar, wC, getV, setV, some!, ak0, ak2, ak3, ak4, i198, oInt, one, oMod, oI, oAdd]
  refine ⟨by decide, by show 5 ≤ sizeLine; decide, n1 _ _ ?_⟩
  obtain ⟨a2, ea2, ha2⟩ : ∃ a2 : AskV, D.tup [dT a.prompt, .int (1 + v198 % 30), .tup (a.stops.map dT), dT a.tape, dRuleT a.rule] = dAskT a2 ∧ AskOk L a2 := ⟨⟨a.prompt, 1 + v198 % 30, a.stops, a.tape, a.rule⟩, rfl, ⟨X.ha.pr, by show 1 ≤ 1 + v198 % 30 ∧ 1 + v198 % 30 ≤ 30; omega, X.ha.st, X.ha.ta, X.ha.ru⟩⟩
  rw [ea2]
  have eG := dGT_toG a2
  refine seq_k fun q1 n1 _ _ _ _ => ?_
  have key : ∀ S, q1.nx [x0, x1, some (dL ns), x3, x4, some (.int (L : Nat)), x6, x7, some (dNetT n), some (dO e), some (dNet c n e), some (dAskT a), some (dTW r), some (.bl b), some (dAsk c a), some (dAskT a2), y16, y17, y18, y19, y20] S := fun S => n1 _ _ (tailB X hq)
  simp only [wIf, wTest, wBin, wCB, wCons, wNil, wVar, wC, getV, some!, i199, oInt, one, oMod, oI, oEq, shD_int, eqD_int, true_and, decide_eq_true_eq]
  refine ⟨by decide, ?_⟩
  by_cases z : v199 % 3 = 0
  · rw [if_pos z]
    obtain ⟨r2, hr2⟩ := wend (e := e) X.hn ha2 [] lets0 (most0 ha2)
    refine seq_k fun q2 n2 _ _ _ _ => ?_
    simp only [wIf, wNot, wTest, wCall, wCallD, wTup, wCons, wNil, wVar, getV, some!]
    refine ⟨toG a2, b, L, by rw [eG], gok_of X.hL.2 ha2, fun S2 _ => ?_⟩
    rw [dG_toG]
    refine .inl ⟨n, e, a2, true, [], W, L, r2, rfl, X.hn, ha2, lets0, most0 ha2, hr2, fun S3 _ => ?_⟩
    refine ⟨Nat.zero_le _, n, e, a2, [], W, L, r2, rfl, X.hn, ha2, lets0, most0 ha2, hr2, fun S4 _ => same_go (wpl ha2 (most0 ha2) hr2) ?_⟩
    simp only [Bool.not_true, Bool.false_eq_true, if_false, wNext]
    refine n2 _ _ ?_
    simp only [wIf, wNot, wTest, wCall, wCallD, wCons, wNil, wVar, getV, some!]
    refine .inl ⟨n, e, a, true, [], W, L, r, rfl, X.hn, X.ha, lets0, most0 X.ha, X.hr, fun S5 _ => same_go (wpl X.ha (most0 X.ha) X.hr) ?_⟩
    simp only [Bool.not_true, Bool.false_eq_true, if_false, wNext]
    exact key _
  · rw [if_neg z]
    exact key _
end
end K07
set_option Elab.async false
set_option linter.all false
set_option maxRecDepth 100000
set_option maxHeartbeats 1000000
namespace K07
open PySem PySem.Spec PyProof.Rows L2 DL
theorem len_law (c : Cl) : ∀ ds S Q E, sp_law c ds S Q E → ds.length = 1 := by
  rintro ds S Q E ⟨_, rfl, _⟩; rfl
theorem rd_law (c : Cl) : ∀ ds S Q X1, sp_law c ds S Q X1 → w_law c (startD N_law_ ds) S (endQ Q X1) := by
  rintro ds S Q X1 ⟨cells, rfl, hl, h⟩
  show w_law c [some (.fro (cells.map D.int)), none, none, none, none, none, none, none, none, none, none, none, none, none, none, none, none, none, none, none, none] S (endQ Q X1)
  unfold w_law
  refine seq_k fun q1 n1 r1 _ _ x1 => ?_
  simp only [wFor, wRg1, wCB, wCons, wNil, wVar, wC, getV, some!, oLen, oMin2, one, two, seqA, seqL, seqM, List.length_map, asI]
  refine ⟨⟨by omega, by omega⟩, ?_⟩
  refine forI_invq (fun k e S' => ∃ y1 y2 y3 y4 y5 y6 y7 y8 y9 y10 y11 y12 y13 y14 y15 y16 y17 y18 y19 y20 : Option D, e = [some (.fro (cells.map D.int)), y1, y2, y3, y4, y5, y6, y7, y8, y9, y10, y11, y12, y13, y14, y15, y16, y17, y18, y19, y20]) ⟨_, _, _, _, _, _, _, _, _, _, _, _, _, _, _, _, _, _, _, _, rfl⟩ (fun _ _ _ _ => trivial) ?_ ?_
  · rintro k d e S hi ⟨y1, y2, y3, y4, y5, y6, y7, y8, y9, y10, y11, y12, y13, y14, y15, y16, y17, y18, y19, y20, rfl⟩ q hq _ _ _ _
    obtain ⟨hlt, rfl⟩ := rngD_get hi
    have hk2 : k < cells.length ∧ k < 3 := by omega
    rw [Int.zero_add]
    obtain ⟨cell, hcell⟩ : ∃ cell, cells[k]? = some cell := ⟨_, List.getElem?_eq_getElem hk2.1⟩
    have a0 := fun Q => oIx_eq (S := S) (x := .fro (cells.map D.int)) (i := (k : Int)) rfl (at_k (by rw [List.getElem?_map, hcell]; rfl)) Q
    simp only [gN, setV]
    refine seq_k fun q1 n1 r1 _ _ x1 => ?_
    simp only [wSet, wCall, wCons, wNil, wBin, wVar, wC, getV, setV, some!, a0]
    refine ⟨cell, (k : Int), 490, rfl, by omega, by decide, fun ns hns S1 _ => n1 _ _ ?_⟩
    clear a0
    refine seq_k fun q1 n1 r1 _ _ x1 => ?_
    simp only [wSet, wLst, wCons, wNil, wC, setV]
    refine ⟨by show 25 ≤ sizeLine; decide, n1 _ _ ?_⟩
    have hpr : ([D.int 2, .int 3, .int 5, .int 7, .int 11, .int 13, .int 17, .int 19, .int 23, .int 29, .int 31, .int 37, .int 41, .int 43, .int 47, .int 53, .int 59, .int 61, .int 67, .int 71, .int 73, .int 79, .int 83, .int 89, .int 97] : List D) = thePrimes.map D.int := rfl
    rw [hpr]
    obtain ⟨v0, b0, j0⟩ := numA hns (k := 0) (by decide)
    obtain ⟨v1, b1, j1⟩ := numA hns (k := 1) (by decide)
    obtain ⟨v2, b2, j2⟩ := numA hns (k := 2) (by decide)
    obtain ⟨v3, b3, j3⟩ := numA hns (k := 3) (by decide)
    obtain ⟨v191, b191, j191⟩ := numA hns (k := 191) (by decide)
    obtain ⟨v192, b192, j192⟩ := numA hns (k := 192) (by decide)
    obtain ⟨v193, b193, j193⟩ := numA hns (k := 193) (by decide)
    obtain ⟨v194, b194, j194⟩ := numA hns (k := 194) (by decide)
    obtain ⟨v195, b195, j195⟩ := numA hns (k := 195) (by decide)
    obtain ⟨v196, b196, j196⟩ := numA hns (k := 196) (by decide)
    obtain ⟨v197, b197, j197⟩ := numA hns (k := 197) (by decide)
    obtain ⟨v198, b198, j198⟩ := numA hns (k := 198) (by decide)
    obtain ⟨v199, b199, j199⟩ := numA hns (k := 199) (by decide)
    have i0 : ∀ (S : Sto) Q, oIx S (dL ns) (.int 0) Q = Q (.int v0) S := j0
    have i1 : ∀ (S : Sto) Q, oIx S (dL ns) (.int 1) Q = Q (.int v1) S := j1
    have i2 : ∀ (S : Sto) Q, oIx S (dL ns) (.int 2) Q = Q (.int v2) S := j2
    have i3 : ∀ (S : Sto) Q, oIx S (dL ns) (.int 3) Q = Q (.int v3) S := j3
    have i191 : ∀ (S : Sto) Q, oIx S (dL ns) (.int 191) Q = Q (.int v191) S := j191
    have i192 : ∀ (S : Sto) Q, oIx S (dL ns) (.int 192) Q = Q (.int v192) S := j192
    have i193 : ∀ (S : Sto) Q, oIx S (dL ns) (.int 193) Q = Q (.int v193) S := j193
    have i194 : ∀ (S : Sto) Q, oIx S (dL ns) (.int 194) Q = Q (.int v194) S := j194
    have i195 : ∀ (S : Sto) Q, oIx S (dL ns) (.int 195) Q = Q (.int v195) S := j195
    have i196 : ∀ (S : Sto) Q, oIx S (dL ns) (.int 196) Q = Q (.int v196) S := j196
    have i197 : ∀ (S : Sto) Q, oIx S (dL ns) (.int 197) Q = Q (.int v197) S := j197
    have i198 : ∀ (S : Sto) Q, oIx S (dL ns) (.int 198) Q = Q (.int v198) S := j198
    have i199 : ∀ (S : Sto) Q, oIx S (dL ns) (.int 199) Q = Q (.int v199) S := j199
    clear j0 j1 j2 j3 j191 j192 j193 j194 j195 j196 j197 j198 j199
    have s330 : ∀ (S : Sto) Q, oSl S (dL ns) (some 330) none Q = Q (dL (ns.drop 330)) S := fun S Q => by
      show Q (.lst (DL.cutD (ns.map D.int) (some ((330 : Nat) : Int)) none)) S = _
      rw [cutD_from (by rw [List.length_map, hns.1]; decide), ← List.map_drop]
      rfl
    -- the prime
    obtain ⟨p, hp, ap⟩ := prime30 (modN (v := v0) (show (0 : Int) < 30 by decide))
    have ap' := fun (S : Sto) Q => oIx_eq (S := S) (x := .lst (thePrimes.map D.int ++ [D.int 2, .int 3, .int 5, .int 97, .int 2])) rfl ap Q
    refine seq_k fun q1 n1 r1 _ _ x1 => ?_
    simp only [wSet, wLst, wBin, wCB, wCons, wNil, wVar, wC, getV, setV, some!, oAdd, oCatL, seqM, i0, oInt, one, oMod, oI, ap']
    refine ⟨by show 5 ≤ sizeLine; decide, by show 30 ≤ sizeLine; decide, by decide, n1 _ _ ?_⟩
    -- the letters
    obtain ⟨L, hL, aL⟩ := eight_at (x := 1 + v1 % 12) (by have := modN (v := v1) (show (0 : Int) < 12 by decide); omega) (modN (v := v1 / 100) (show (0 : Int) < 8 by decide))
    have aL' := fun (S : Sto) Q => oIx_eq (S := S) (x := .lst [D.int 1, .int 2, .int 3, .int 4, .int 2, .int 3, .int 5, .int (1 + v1 % 12)]) rfl aL Q
    refine seq_k fun q1 n1 r1 _ _ x1 => ?_
    simp only [wSet, wLst, wBin, wCB, wCons, wNil, wVar, wC, getV, setV, some!, i1, oInt, one, oMod, oDiv, oI, oAdd, aL']
    refine ⟨by decide, by show 8 ≤ sizeLine; decide, divw (by decide), by decide, n1 _ _ ?_⟩
    refine seq_k fun q1 n1 r1 _ _ x1 => ?_
    simp only [wSet, wBin, wCB, wCons, wNil, wVar, wC, getV, setV, some!, i2, oInt, one, oMod, oI, oAdd]
    obtain ⟨W, hW, hW4⟩ : ∃ W : Nat, 1 + v2 % 4 = (W : Int) ∧ 1 ≤ W ∧ W ≤ 4 := ⟨(1 + v2 % 4).toNat, by omega, by omega, by omega⟩
    rw [hW]
    refine ⟨by decide, n1 _ _ ?_⟩
    obtain ⟨M, hM, aM⟩ := six_at (modN (v := v3) (show (0 : Int) < 6 by decide))
    have aM' := fun (S : Sto) Q => oIx_eq (S := S) (x := .lst [D.int 0, .int 1, .int 1, .int 2, .int 1, .int 3]) rfl aM Q
    refine seq_k fun q1 n1 r1 _ _ x1 => ?_
    simp only [wSet, wLst, wBin, wCB, wCons, wNil, wVar, wC, getV, setV, some!, i3, oInt, one, oMod, oI, aM']
    refine ⟨by show 6 ≤ sizeLine; decide, by decide, n1 _ _ ?_⟩
    -- the net
    refine seq_k fun q1 n1 r1 _ _ x1 => ?_
    simp only [wSet, wCall, wCons, wNil, wSl, wP, wNoP, wVar, wC, getV, setV, some!, asI, s330]
    refine ⟨ns.drop 330, 160, L, W, M, p, rfl, nums_drop hns, by decide, by decide, hL, hW4, hM, hp, fun n hn hnp S2 _ => n1 _ _ ?_⟩
    subst hnp
    clear s330 aM' aL' ap' aM aL ap hW
    obtain ⟨e, ae⟩ := end_at (x := v191 % (L : Int)) (L := L) (modN (v := v192) (show (0 : Int) < 2 by decide))
    have ae' := fun (S : Sto) Q => oIx_eq (S := S) (x := .lst [.non, .int (v191 % (L : Int))]) rfl ae Q
    refine seq_k fun q1 n1 r1 _ _ x1 => ?_
    simp only [wSet, wBin, wLst, wCB, wCons, wNil, wVar, wC, getV, setV, some!, i191, i192, oInt, one, oMod, oI, ae']
    refine ⟨by omega, z2, by decide, n1 _ _ ?_⟩
    refine seq_k fun q1 n1 r1 _ _ x1 => ?_
    simp only [wSet, wFrz, wMake, wBin, wCons, wNil, wVar, wC, getV, setV, some!, nt1, nt2, nt3, nt4]
    refine fun x hx => ⟨x, W, L, n, e, rfl, hn, put_same, rfl, ?_⟩
    refine frz_at put_same (ys := netF n e) rfl (n1 _ _ ?_)
    generalize DL.del (put (put S2 x (.ins c.Net N_Net (noneV N_Net))) x (.ins c.Net N_Net ((netF n e).map some))) x = S3
    have eN : D.obj c.Net N_Net (netF n e) = dNet c n e := rfl
    rw [eN]
    -- the ask
    refine seq_k fun q1 n1 r1 _ _ x1 => ?_
    simp only [wSet, wCall, wCons, wNil, wVar, getV, setV, some!]
    refine ⟨ns, L, rfl, hns, hL, fun a ha S4 _ => n1 _ _ ?_⟩
    have hmo := ha.mo
    have wend : ∀ {a : AskV}, AskOk L a → ∀ t, LetsOk L t → (t.length : Int) < a.most → ∃ r, walkF n e a 31 t = some r := fun ha t ht hl => walk_end hn ha 31 t ht (by have := ha.mo; omega) hl
    have wpl : ∀ {a : AskV} {t : Vec} {r : Vec × Str}, AskOk L a → (t.length : Int) < a.most → walkF n e a 31 t = some r → plain 7 (dTW r) := fun ha hl hr => walk_plain 31 _ _ hr (by have := ha.mo; omega)
    have l0 : LetsOk L [] := fun x hx => by cases hx
    obtain ⟨r, hr⟩ := wend ha [] l0 (by show ((0 : Nat) : Int) < a.most; omega)
    have hrp := wpl ha (by show ((0 : Nat) : Int) < a.most; omega) hr
    have hrl := walk_lets hn ha 31 [] r l0 (by decide) hr
    have t0 : D.tup [] = dT [] := rfl
    refine seq_k fun q1 n1 r1 _ _ x1 => ?_
    simp only [wSet, wCall, wTup, wCons, wNil, wVar, getV, setV, some!]
    refine ⟨Nat.zero_le _, n, e, a, [], W, L, r, rfl, hn, ha, l0, by show ((0 : Nat) : Int) < a.most; omega, hr, fun S5 _ => n1 _ _ ?_⟩
    refine seq_k fun q1 n1 r1 _ _ x1 => ?_
    simp only [wSet, wBin, wCB, wCons, wNil, wVar, wC, getV, setV, some!, i196, oInt, one, oMod, oI, oEq, shD_int, eqD_int, true_and]
    refine ⟨by decide, n1 _ _ ?_⟩
    generalize decide (v196 % 2 = 0) = b
    -- the ask is made
    have hg := gok_of hL.2 ha
    refine seq_k fun q1 n1 r1 _ _ x1 => ?_
    simp only [wSet, wCall, wCons, wNil, wVar, getV, setV, some!]
    refine ⟨toG a, b, L, by rw [dGT_toG], hg, fun S6 _ => n1 _ _ ?_⟩
    rw [dG_toG]
    exact tailA (c := c) ⟨hn, ha, hL, hns, hr⟩ fun z15 z16 z17 z18 z19 z20 S' => hq _ _ ⟨_, _, _, _, _, _, _, _, _, _, _, _, _, _, z15, z16, z17, z18, z19, z20, rfl⟩
  · rintro e S' ⟨y1, y2, y3, y4, y5, y6, y7, y8, y9, y10, y11, y12, y13, y14, y15, y16, y17, y18, y19, y20, rfl⟩
    refine n1 _ _ ?_
    simp only [wRet, wC]
    exact h S'
end K07
set_option Elab.async false
set_option linter.all false
set_option maxRecDepth 100000
set_option maxHeartbeats 4000000
namespace K07
open PySem PySem.Spec PyProof.Rows L2 DL
def topS (i : Nat) : Stmt := PySem.Challenge.pw_everyasked_k07_whole_what_the_net_writes.main.body.getD i (.Pass ⟨0, 0, 0, 0⟩)
abbrev s_is_between : Stmt := topS 18
abbrev s_vector_of : Stmt := topS 19
abbrev s_matrix_of : Stmt := topS 20
abbrev s_product_sum : Stmt := topS 21
abbrev s_Net_init : Stmt := inClass (topS 22) 0
abbrev s_Net_is_letter : Stmt := inClass (topS 22) 2
abbrev s_Net_rest : Stmt := inClass (topS 22) 3
abbrev s_Net_times : Stmt := inClass (topS 22) 4
abbrev s_Net_plus : Stmt := inClass (topS 22) 5
abbrev s_Net_looked_at : Stmt := inClass (topS 22) 6
abbrev s_Net_row : Stmt := inClass (topS 22) 7
abbrev s_rows_of : Stmt := topS 11
abbrev s_check_letters : Stmt := topS 12
abbrev s_stop_length : Stmt := topS 13
abbrev s_greatest : Stmt := topS 23
abbrev s_by_number : Stmt := topS 24
abbrev s_Rule_init : Stmt := inClass (topS 29) 0
abbrev s_Rule_after : Stmt := inClass (topS 29) 2
abbrev s_Rule_lets : Stmt := inClass (topS 29) 3
abbrev s_Ask_init : Stmt := inClass (topS 27) 0
abbrev s_Ask_let_weights : Stmt := inClass (topS 27) 1
abbrev s_Ask_choice : Stmt := inClass (topS 27) 2
abbrev s_next_text : Stmt := topS 14
abbrev s_written : Stmt := topS 15
abbrev s__law_numbers : Stmt := topS 31
abbrev s__law_same : Stmt := topS 32
abbrev s__law_vector : Stmt := topS 33
abbrev s__law_net : Stmt := topS 34
abbrev s__law_dot : Stmt := topS 35
abbrev s__law_times : Stmt := topS 36
abbrev s__law_row : Stmt := topS 37
abbrev s__law_rows : Stmt := topS 38
abbrev s__law_after : Stmt := topS 39
abbrev s__law_counted : Stmt := topS 40
abbrev s__law_choice : Stmt := topS 41
abbrev s__law_rule : Stmt := topS 42
abbrev s__law_stops : Stmt := topS 43
abbrev s__law_tape : Stmt := topS 44
abbrev s__law_ask : Stmt := topS 45
abbrev s__law_ends : Stmt := topS 46
abbrev s__law_stopped : Stmt := topS 47
abbrev s__law_written : Stmt := topS 48
abbrev s__law_made : Stmt := topS 49
abbrev s__law_odd : Stmt := topS 50
abbrev s__law_put : Stmt := topS 51
abbrev s__law_spoilt : Stmt := topS 52
abbrev s__law_first_bad : Stmt := topS 53
abbrev s__law_refuses : Stmt := topS 54
abbrev s__law_is_kept : Stmt := topS 55
abbrev s_law : Stmt := topS 56
theorem sc_is_between : FnScope N_is_between_ ["value", "least", "most"] (defScope s_is_between) := ⟨rfl, rfl, rfl, by decide +kernel, rfl, by decide +kernel, by decide +kernel⟩
theorem sc_vector_of : FnScope N_vector_of_ ["numbers"] (defScope s_vector_of) := ⟨rfl, rfl, rfl, by decide +kernel, rfl, by decide +kernel, by decide +kernel⟩
theorem sc_matrix_of : FnScope N_matrix_of_ ["rows"] (defScope s_matrix_of) := ⟨rfl, rfl, rfl, by decide +kernel, rfl, by decide +kernel, by decide +kernel⟩
theorem sc_product_sum : FnScope N_product_sum_ ["one", "two"] (defScope s_product_sum) := ⟨rfl, rfl, rfl, by decide +kernel, rfl, by decide +kernel, by decide +kernel⟩
theorem sc_Net_init : FnScope N_Net_init_ ["self", "prime", "embed", "shift", "layers", "out", "end"] (defScope s_Net_init) := ⟨rfl, rfl, rfl, by decide +kernel, rfl, by decide +kernel, by decide +kernel⟩
theorem sc_Net_is_letter : FnScope N_Net_is_letter_ ["self", "value"] (defScope s_Net_is_letter) := ⟨rfl, rfl, rfl, by decide +kernel, rfl, by decide +kernel, by decide +kernel⟩
theorem sc_Net_rest : FnScope N_Net_rest_ ["self", "number"] (defScope s_Net_rest) := ⟨rfl, rfl, rfl, by decide +kernel, rfl, by decide +kernel, by decide +kernel⟩
theorem sc_Net_times : FnScope N_Net_times_ ["self", "matrix", "vector"] (defScope s_Net_times) := ⟨rfl, rfl, rfl, by decide +kernel, rfl, by decide +kernel, by decide +kernel⟩
theorem sc_Net_plus : FnScope N_Net_plus_ ["self", "one", "two"] (defScope s_Net_plus) := ⟨rfl, rfl, rfl, by decide +kernel, rfl, by decide +kernel, by decide +kernel⟩
theorem sc_Net_looked_at : FnScope N_Net_looked_at_ ["self", "query", "pairs"] (defScope s_Net_looked_at) := ⟨rfl, rfl, rfl, by decide +kernel, rfl, by decide +kernel, by decide +kernel⟩
theorem sc_Net_row : FnScope N_Net_row_ ["self", "rows", "letter"] (defScope s_Net_row) := ⟨rfl, rfl, rfl, by decide +kernel, rfl, by decide +kernel, by decide +kernel⟩
theorem sc_rows_of : FnScope N_rows_of_ ["net", "letters"] (defScope s_rows_of) := ⟨rfl, rfl, rfl, by decide +kernel, rfl, by decide +kernel, by decide +kernel⟩
theorem sc_check_letters : FnScope N_check_letters_ ["net", "ask", "begun"] (defScope s_check_letters) := ⟨rfl, rfl, rfl, by decide +kernel, rfl, by decide +kernel, by decide +kernel⟩
theorem sc_stop_length : FnScope N_stop_length_ ["stops", "text"] (defScope s_stop_length) := ⟨rfl, rfl, rfl, by decide +kernel, rfl, by decide +kernel, by decide +kernel⟩
theorem sc_greatest : FnScope N_greatest_ ["weights"] (defScope s_greatest) := ⟨rfl, rfl, rfl, by decide +kernel, rfl, by decide +kernel, by decide +kernel⟩
theorem sc_by_number : FnScope N_by_number_ ["weights", "number"] (defScope s_by_number) := ⟨rfl, rfl, rfl, by decide +kernel, rfl, by decide +kernel, by decide +kernel⟩
theorem sc_Rule_init : FnScope N_Rule_init_ ["self", "start", "steps"] (defScope s_Rule_init) := ⟨rfl, rfl, rfl, by decide +kernel, rfl, by decide +kernel, by decide +kernel⟩
theorem sc_Rule_after : FnScope N_Rule_after_ ["self", "text"] (defScope s_Rule_after) := ⟨rfl, rfl, rfl, by decide +kernel, rfl, by decide +kernel, by decide +kernel⟩
theorem sc_Rule_lets : FnScope N_Rule_lets_ ["self", "text", "letter"] (defScope s_Rule_lets) := ⟨rfl, rfl, rfl, by decide +kernel, rfl, by decide +kernel, by decide +kernel⟩
theorem sc_Ask_init : FnScope N_Ask_init_ ["self", "prompt", "most", "stops", "tape", "rule"] (defScope s_Ask_init) := ⟨rfl, rfl, rfl, by decide +kernel, rfl, by decide +kernel, by decide +kernel⟩
theorem sc_Ask_let_weights : FnScope N_Ask_let_weights_ ["self", "weights", "text"] (defScope s_Ask_let_weights) := ⟨rfl, rfl, rfl, by decide +kernel, rfl, by decide +kernel, by decide +kernel⟩
theorem sc_Ask_choice : FnScope N_Ask_choice_ ["self", "weights", "text"] (defScope s_Ask_choice) := ⟨rfl, rfl, rfl, by decide +kernel, rfl, by decide +kernel, by decide +kernel⟩
theorem sc_next_text : FnScope N_next_text_ ["net", "ask", "text", "weights"] (defScope s_next_text) := ⟨rfl, rfl, rfl, by decide +kernel, rfl, by decide +kernel, by decide +kernel⟩
theorem sc_written : FnScope N_written_ ["net", "ask", "begun"] (defScope s_written) := ⟨rfl, rfl, rfl, by decide +kernel, rfl, by decide +kernel, by decide +kernel⟩
theorem sc__law_numbers : FnScope N__law_numbers_ ["cell", "at", "many"] (defScope s__law_numbers) := ⟨rfl, rfl, rfl, by decide +kernel, rfl, by decide +kernel, by decide +kernel⟩
theorem sc__law_same : FnScope N__law_same_ ["actual", "expected"] (defScope s__law_same) := ⟨rfl, rfl, rfl, by decide +kernel, rfl, by decide +kernel, by decide +kernel⟩
theorem sc__law_vector : FnScope N__law_vector_ ["numbers", "at", "width", "prime"] (defScope s__law_vector) := ⟨rfl, rfl, rfl, by decide +kernel, rfl, by decide +kernel, by decide +kernel⟩
theorem sc__law_net : FnScope N__law_net_ ["numbers", "letters", "width", "many", "prime"] (defScope s__law_net) := ⟨rfl, rfl, rfl, by decide +kernel, rfl, by decide +kernel, by decide +kernel⟩
theorem sc__law_dot : FnScope N__law_dot_ ["one", "other", "prime"] (defScope s__law_dot) := ⟨rfl, rfl, rfl, by decide +kernel, rfl, by decide +kernel, by decide +kernel⟩
theorem sc__law_times : FnScope N__law_times_ ["matrix", "vector", "prime"] (defScope s__law_times) := ⟨rfl, rfl, rfl, by decide +kernel, rfl, by decide +kernel, by decide +kernel⟩
theorem sc__law_row : FnScope N__law_row_ ["net", "rows", "letter"] (defScope s__law_row) := ⟨rfl, rfl, rfl, by decide +kernel, rfl, by decide +kernel, by decide +kernel⟩
theorem sc__law_rows : FnScope N__law_rows_ ["net", "letters"] (defScope s__law_rows) := ⟨rfl, rfl, rfl, by decide +kernel, rfl, by decide +kernel, by decide +kernel⟩
theorem sc__law_after : FnScope N__law_after_ ["rule", "text"] (defScope s__law_after) := ⟨rfl, rfl, rfl, by decide +kernel, rfl, by decide +kernel, by decide +kernel⟩
theorem sc__law_counted : FnScope N__law_counted_ ["weights", "rule", "text"] (defScope s__law_counted) := ⟨rfl, rfl, rfl, by decide +kernel, rfl, by decide +kernel, by decide +kernel⟩
theorem sc__law_choice : FnScope N__law_choice_ ["weights", "rule", "tape", "text"] (defScope s__law_choice) := ⟨rfl, rfl, rfl, by decide +kernel, rfl, by decide +kernel, by decide +kernel⟩
theorem sc__law_rule : FnScope N__law_rule_ ["numbers", "k", "letters"] (defScope s__law_rule) := ⟨rfl, rfl, rfl, by decide +kernel, rfl, by decide +kernel, by decide +kernel⟩
theorem sc__law_stops : FnScope N__law_stops_ ["numbers", "k", "letters"] (defScope s__law_stops) := ⟨rfl, rfl, rfl, by decide +kernel, rfl, by decide +kernel, by decide +kernel⟩
theorem sc__law_tape : FnScope N__law_tape_ ["numbers", "k"] (defScope s__law_tape) := ⟨rfl, rfl, rfl, by decide +kernel, rfl, by decide +kernel, by decide +kernel⟩
theorem sc__law_ask : FnScope N__law_ask_ ["numbers", "letters"] (defScope s__law_ask) := ⟨rfl, rfl, rfl, by decide +kernel, rfl, by decide +kernel, by decide +kernel⟩
theorem sc__law_ends : FnScope N__law_ends_ ["text", "stop"] (defScope s__law_ends) := ⟨rfl, rfl, rfl, by decide +kernel, rfl, by decide +kernel, by decide +kernel⟩
theorem sc__law_stopped : FnScope N__law_stopped_ ["text", "stops"] (defScope s__law_stopped) := ⟨rfl, rfl, rfl, by decide +kernel, rfl, by decide +kernel, by decide +kernel⟩
theorem sc__law_written : FnScope N__law_written_ ["net", "end", "ask", "begun"] (defScope s__law_written) := ⟨rfl, rfl, rfl, by decide +kernel, rfl, by decide +kernel, by decide +kernel⟩
theorem sc__law_made : FnScope N__law_made_ ["ask", "lists"] (defScope s__law_made) := ⟨rfl, rfl, rfl, by decide +kernel, rfl, by decide +kernel, by decide +kernel⟩
theorem sc__law_odd : FnScope N__law_odd_ ["numbers", "k", "letters"] (defScope s__law_odd) := ⟨rfl, rfl, rfl, by decide +kernel, rfl, by decide +kernel, by decide +kernel⟩
theorem sc__law_put : FnScope N__law_put_ ["row", "place", "value"] (defScope s__law_put) := ⟨rfl, rfl, rfl, by decide +kernel, rfl, by decide +kernel, by decide +kernel⟩
theorem sc__law_spoilt : FnScope N__law_spoilt_ ["numbers", "ask", "begun", "letters"] (defScope s__law_spoilt) := ⟨rfl, rfl, rfl, by decide +kernel, rfl, by decide +kernel, by decide +kernel⟩
theorem sc__law_first_bad : FnScope N__law_first_bad_ ["ask", "begun", "letters"] (defScope s__law_first_bad) := ⟨rfl, rfl, rfl, by decide +kernel, rfl, by decide +kernel, by decide +kernel⟩
theorem sc__law_refuses : FnScope N__law_refuses_ ["net", "ask", "begun", "odd"] (defScope s__law_refuses) := ⟨rfl, rfl, rfl, by decide +kernel, rfl, by decide +kernel, by decide +kernel⟩
theorem sc__law_is_kept : FnScope N__law_is_kept_ ["asked", "ask"] (defScope s__law_is_kept) := ⟨rfl, rfl, rfl, by decide +kernel, rfl, by decide +kernel, by decide +kernel⟩
theorem sc_law : FnScope N_law_ ["script"] (defScope s_law) := ⟨rfl, rfl, rfl, by decide +kernel, rfl, by decide +kernel, by decide +kernel⟩
structure Txt (mg : Str → Option Value) (c : Cl) : Prop where
  b_ValueError : mg "ValueError" = none
  b_abs : mg "abs" = none
  b_bool : mg "bool" = none
  b_enumerate : mg "enumerate" = none
  b_int : mg "int" = none
  b_isinstance : mg "isinstance" = none
  b_len : mg "len" = none
  b_list : mg "list" = none
  b_max : mg "max" = none
  b_min : mg "min" = none
  b_range : mg "range" = none
  b_repr : mg "repr" = none
  b_str : mg "str" = none
  b_sum : mg "sum" = none
  b_tuple : mg "tuple" = none
  b_zip : mg "zip" = none
  d_is_between : DefAt c.K mg "is_between" "is_between" s_is_between ["value", "least", "most"]
  d_vector_of : DefAt c.K mg "vector_of" "vector_of" s_vector_of ["numbers"]
  d_matrix_of : DefAt c.K mg "matrix_of" "matrix_of" s_matrix_of ["rows"]
  d_product_sum : DefAt c.K mg "product_sum" "product_sum" s_product_sum ["one", "two"]
  i_Net_init : MkAt c.K c.Net "Net.__init__" s_Net_init ["self", "prime", "embed", "shift", "layers", "out", "end"]
  m_Net_is_letter : MetAt c.K c.Net "is_letter" "Net.is_letter" s_Net_is_letter ["self", "value"]
  m_Net_rest : MetAt c.K c.Net "rest" "Net.rest" s_Net_rest ["self", "number"]
  m_Net_times : MetAt c.K c.Net "times" "Net.times" s_Net_times ["self", "matrix", "vector"]
  m_Net_plus : MetAt c.K c.Net "plus" "Net.plus" s_Net_plus ["self", "one", "two"]
  m_Net_looked_at : MetAt c.K c.Net "looked_at" "Net.looked_at" s_Net_looked_at ["self", "query", "pairs"]
  m_Net_row : MetAt c.K c.Net "row" "Net.row" s_Net_row ["self", "rows", "letter"]
  d_rows_of : DefAt c.K mg "rows_of" "rows_of" s_rows_of ["net", "letters"]
  d_check_letters : DefAt c.K mg "check_letters" "check_letters" s_check_letters ["net", "ask", "begun"]
  d_stop_length : DefAt c.K mg "stop_length" "stop_length" s_stop_length ["stops", "text"]
  d_greatest : DefAt c.K mg "greatest" "greatest" s_greatest ["weights"]
  d_by_number : DefAt c.K mg "by_number" "by_number" s_by_number ["weights", "number"]
  i_Rule_init : MkAt c.K c.Rule "Rule.__init__" s_Rule_init ["self", "start", "steps"]
  m_Rule_after : MetAt c.K c.Rule "after" "Rule.after" s_Rule_after ["self", "text"]
  m_Rule_lets : MetAt c.K c.Rule "lets" "Rule.lets" s_Rule_lets ["self", "text", "letter"]
  m_Ask_let_weights : MetAt c.K c.Ask "let_weights" "Ask.let_weights" s_Ask_let_weights ["self", "weights", "text"]
  m_Ask_choice : MetAt c.K c.Ask "choice" "Ask.choice" s_Ask_choice ["self", "weights", "text"]
  d_next_text : DefAt c.K mg "next_text" "next_text" s_next_text ["net", "ask", "text", "weights"]
  dd_written : DefAtD c.K mg "written" "written" s_written ["net", "ask", "begun"] [.tup []]
  d__law_numbers : DefAt c.K mg "_law_numbers" "_law_numbers" s__law_numbers ["cell", "at", "many"]
  d__law_same : DefAt c.K mg "_law_same" "_law_same" s__law_same ["actual", "expected"]
  d__law_vector : DefAt c.K mg "_law_vector" "_law_vector" s__law_vector ["numbers", "at", "width", "prime"]
  d__law_net : DefAt c.K mg "_law_net" "_law_net" s__law_net ["numbers", "letters", "width", "many", "prime"]
  d__law_dot : DefAt c.K mg "_law_dot" "_law_dot" s__law_dot ["one", "other", "prime"]
  d__law_times : DefAt c.K mg "_law_times" "_law_times" s__law_times ["matrix", "vector", "prime"]
  d__law_row : DefAt c.K mg "_law_row" "_law_row" s__law_row ["net", "rows", "letter"]
  d__law_rows : DefAt c.K mg "_law_rows" "_law_rows" s__law_rows ["net", "letters"]
  d__law_after : DefAt c.K mg "_law_after" "_law_after" s__law_after ["rule", "text"]
  d__law_counted : DefAt c.K mg "_law_counted" "_law_counted" s__law_counted ["weights", "rule", "text"]
  d__law_choice : DefAt c.K mg "_law_choice" "_law_choice" s__law_choice ["weights", "rule", "tape", "text"]
  d__law_rule : DefAt c.K mg "_law_rule" "_law_rule" s__law_rule ["numbers", "k", "letters"]
  d__law_stops : DefAt c.K mg "_law_stops" "_law_stops" s__law_stops ["numbers", "k", "letters"]
  d__law_tape : DefAt c.K mg "_law_tape" "_law_tape" s__law_tape ["numbers", "k"]
  d__law_ask : DefAt c.K mg "_law_ask" "_law_ask" s__law_ask ["numbers", "letters"]
  d__law_ends : DefAt c.K mg "_law_ends" "_law_ends" s__law_ends ["text", "stop"]
  d__law_stopped : DefAt c.K mg "_law_stopped" "_law_stopped" s__law_stopped ["text", "stops"]
  d__law_written : DefAt c.K mg "_law_written" "_law_written" s__law_written ["net", "end", "ask", "begun"]
  d__law_made : DefAt c.K mg "_law_made" "_law_made" s__law_made ["ask", "lists"]
  d__law_odd : DefAt c.K mg "_law_odd" "_law_odd" s__law_odd ["numbers", "k", "letters"]
  d__law_put : DefAt c.K mg "_law_put" "_law_put" s__law_put ["row", "place", "value"]
  d__law_spoilt : DefAt c.K mg "_law_spoilt" "_law_spoilt" s__law_spoilt ["numbers", "ask", "begun", "letters"]
  d__law_first_bad : DefAt c.K mg "_law_first_bad" "_law_first_bad" s__law_first_bad ["ask", "begun", "letters"]
  d__law_refuses : DefAt c.K mg "_law_refuses" "_law_refuses" s__law_refuses ["net", "ask", "begun", "odd"]
  d__law_is_kept : DefAt c.K mg "_law_is_kept" "_law_is_kept" s__law_is_kept ["asked", "ask"]
  d_law : DefAt c.K mg "law" "law" s_law ["script"]
  dk_written_2_begun : DefAtK c.K mg "written" "written" s_written ["net", "ask", "begun"] ["begun"] 2 1 [0, 1, 2]
  ik_Ask_init_3_stops_tape_rule : MkAtK c.K c.Ask "Ask.__init__" s_Ask_init ["self", "prompt", "most", "stops", "tape", "rule"] ["stops", "tape", "rule"] 3 3 [0, 1, 2, 3, 4, 5]
  c_PRIMES : ConT c.K mg "PRIMES" K_PRIMES
  c_MOST_LETTERS : ∃ u, mg "MOST_LETTERS" = some u ∧ RelV (.int (30)) u
  g_InvalidLetter : mg "InvalidLetter" = some (.ref c.InvalidLetter)
  g_InvalidNumber : mg "InvalidNumber" = some (.ref c.InvalidNumber)
  g_NoHouse : mg "NoHouse" = some (.ref c.NoHouse)
  g_NoRequest : mg "NoRequest" = some (.ref c.NoRequest)
  g_NoRoom : mg "NoRoom" = some (.ref c.NoRoom)
  g_NotAlone : mg "NotAlone" = some (.ref c.NotAlone)
  g_NotHeld : mg "NotHeld" = some (.ref c.NotHeld)
  g_ServeError : mg "ServeError" = some (.ref c.ServeError)
  g_TooLarge : mg "TooLarge" = some (.ref c.TooLarge)
  x_InvalidLetter : ExAt c.K mg "InvalidLetter" c.InvalidLetter "letter" "letter" "InvalidLetter.__init__" (inClass (topS 3) 0)
  x_InvalidNumber : ExAt c.K mg "InvalidNumber" c.InvalidNumber "number" "number" "InvalidNumber.__init__" (inClass (topS 2) 0)
  cl_Net : Cls c.K c.Net
  mk_Net : mg "Net" = some (.ref c.Net)
  na_Net_prime : NoAttr c.K c.Net "prime"
  na_Net_embed : NoAttr c.K c.Net "embed"
  na_Net_shift : NoAttr c.K c.Net "shift"
  na_Net_layers : NoAttr c.K c.Net "layers"
  na_Net_out : NoAttr c.K c.Net "out"
  na_Net_end : NoAttr c.K c.Net "end"
  cl_Ask : Cls c.K c.Ask
  mk_Ask : mg "Ask" = some (.ref c.Ask)
  na_Ask_prompt : NoAttr c.K c.Ask "prompt"
  na_Ask_most : NoAttr c.K c.Ask "most"
  na_Ask_stops : NoAttr c.K c.Ask "stops"
  na_Ask_tape : NoAttr c.K c.Ask "tape"
  na_Ask_rule : NoAttr c.K c.Ask "rule"
  cl_Rule : Cls c.K c.Rule
  mk_Rule : mg "Rule" = some (.ref c.Rule)
  na_Rule_start : NoAttr c.K c.Rule "start"
  na_Rule_steps : NoAttr c.K c.Rule "steps"
section
variable {P : Program} {w : World} {mg : Str → Option Value} {base : Heap} {c : Cl}
theorem scx_InvalidLetter : FnScope ["self", "letter"] ["self", "letter"] (defScope (inClass (topS 3) 0)) := ⟨rfl, rfl, rfl, by decide +kernel, rfl, by decide +kernel, by decide +kernel⟩
theorem xc_InvalidLetter (T : Txt mg c) : ExC P w c.K mg base "InvalidLetter" c.InvalidLetter "letter" :=
  ExC.mk T.x_InvalidLetter scx_InvalidLetter fun fI cdv A outer s H E => pss_one (ps_ost (pv 0) (pv 1) rfl)
theorem scx_InvalidNumber : FnScope ["self", "number"] ["self", "number"] (defScope (inClass (topS 2) 0)) := ⟨rfl, rfl, rfl, by decide +kernel, rfl, by decide +kernel, by decide +kernel⟩
theorem xc_InvalidNumber (T : Txt mg c) : ExC P w c.K mg base "InvalidNumber" c.InvalidNumber "number" :=
  ExC.mk T.x_InvalidNumber scx_InvalidNumber fun fI cdv A outer s H E => pss_one (ps_ost (pv 0) (pv 1) rfl)
theorem ok_is_between (T : Txt mg c) : FnC P w c.K mg base 1 "is_between" ["value", "least", "most"] (sp_is_between c) :=
  FnC.mk T.d_is_between sc_is_between (by decide) (len_is_between c) (fun f cdv A outer s H E hr => (pss_oneD (pds_ret (pd_and (pd_isi (T := "int") (pd_var 0) (pe_bltn rfl T.b_int (by decide +kernel) rfl) T.b_isinstance) (pd_and (pd_not (pd_isi (T := "bool") (pd_var 0) (pe_bltn rfl T.b_bool (by decide +kernel) rfl) T.b_isinstance)) (pd_one (pd_chain opd_le opd_le (pd_var 1) (pd_var 0) (pd_var 2)))))))) (rd_is_between c)
theorem ok_vector_of (T : Txt mg c) : FnC P w c.K mg base 1 "vector_of" ["numbers"] (sp_vector_of c) :=
  FnC.mk T.d_vector_of sc_vector_of (by decide) (len_vector_of c) (fun f cdv A outer s H E hr => (pss_oneD (pds_ret (pd_callTy cd_tuple T.b_tuple (by decide +kernel) (pda_cons (pd_var 0) pda_nil))))) (rd_vector_of c)
theorem ok_matrix_of (T : Txt mg c) : FnC P w c.K mg base 2 "matrix_of" ["rows"] (sp_matrix_of c) :=
  FnC.mk T.d_matrix_of sc_matrix_of (by decide) (len_matrix_of c) (fun f cdv A outer s H E hr => (pss_oneD (pds_ret (pd_callTy cd_tuple T.b_tuple (by decide +kernel) (pda_cons (pd_lc (own := [("row", 1)]) rfl sc_matrix_of.nd (pdi_seq (pd_var 0)) (blkOk_by (N := N_matrix_of_) (sc := defScope s_matrix_of) (by decide +kernel)) (fun _ _ _ _ _ => (pdg_name (i := 1) sc_matrix_of.nd rfl (by first | exact Or.inl rfl | exact Or.inr rfl) (by decide))) (fun _ _ _ _ _ => pdts_nil) (fun _ _ _ _ _ => (pd_fn (ok_vector_of T) (hr.mono (by decide)) (pda_cons (pd_var 1) pda_nil)))) pda_nil))))) (rd_matrix_of c)
theorem ok_product_sum (T : Txt mg c) : FnC P w c.K mg base 1 "product_sum" ["one", "two"] (sp_product_sum c) :=
  FnC.mk T.d_product_sum sc_product_sum (by decide) (len_product_sum c) (fun f cdv A outer s H E hr => (pss_consD (pds_set (i := 2) sc_product_sum.nd rfl (by first | exact Or.inl rfl | exact Or.inr rfl) pd_int)
  (pss_consD (pds_for (vs := (List.range 5)) rfl (passes_of rfl) (pdi_zip T.b_zip (pd_var 0) (pd_var 1)) (pdg_tup rfl (pdgs_cons (pdg_name (i := 3) sc_product_sum.nd rfl (by first | exact Or.inl rfl | exact Or.inr rfl) (by decide)) (pdgs_cons (pdg_name (i := 4) sc_product_sum.nd rfl (by first | exact Or.inl rfl | exact Or.inr rfl) (by decide)) pdgs_nil))) (pss_oneD (pds_aug (i := 2) sc_product_sum.nd rfl (by first | exact Or.inl rfl | exact Or.inr rfl) (pd_op opd_mul (pd_var 3) (pd_var 4)) iopd_add)))
  (pss_oneD (pds_ret (pd_var 2)))))) (rd_product_sum c)
theorem ok_Net_init (T : Txt mg c) : MkC P w c.K mg base c.Net 3 ["self", "prime", "embed", "shift", "layers", "out", "end"] (sp_Net_init c) :=
  MkC.mk T.i_Net_init sc_Net_init (by decide) (len_Net_init c) (fun f cdv A outer s H E hr => (pss_consD (pds_if (PDw.pt (pdw_or (pdt_not (pdt_val (pd_fn (ok_is_between T) (hr.mono (by decide)) (pda_cons (pd_var 1) (pda_cons pd_int (pda_cons pd_int pda_nil)))))) (pdw_or1 (pdt_cmp (opd_notInD hr.units) (pd_var 1) (pd_globT T.c_PRIMES) (by rfl))))) (pss_oneD (pds_raise rfl (pdx_mk (xc_InvalidNumber T) (hr.mono (by decide)) (pd_var 1)))) pss_nilD)
  (pss_consD (pds_setF (N := N_Net) (i := 0) T.cl_Net T.na_Net_prime rfl (pd_var 0) (pd_var 1))
  (pss_consD (pds_setF (N := N_Net) (i := 1) T.cl_Net T.na_Net_embed rfl (pd_var 0) (pd_fn (ok_matrix_of T) (hr.mono (by decide)) (pda_cons (pd_var 2) pda_nil)))
  (pss_consD (pds_setF (N := N_Net) (i := 2) T.cl_Net T.na_Net_shift rfl (pd_var 0) (pd_fn (ok_vector_of T) (hr.mono (by decide)) (pda_cons (pd_var 3) pda_nil)))
  (pss_consD (pds_setF (N := N_Net) (i := 3) T.cl_Net T.na_Net_layers rfl (pd_var 0) (pd_callTy cd_tuple T.b_tuple (by decide +kernel) (pda_cons (pd_lc (own := [("layer", 7)]) rfl sc_Net_init.nd (pdi_seq (pd_var 4)) (blkOk_by (N := N_Net_init_) (sc := defScope s_Net_init) (by decide +kernel)) (fun _ _ _ _ _ => (pdg_name (i := 7) sc_Net_init.nd rfl (by first | exact Or.inl rfl | exact Or.inr rfl) (by decide))) (fun _ _ _ _ _ => pdts_nil) (fun _ _ _ _ _ => (pd_callTy cd_tuple T.b_tuple (by decide +kernel) (pda_cons (pd_lc (own := [("matrix", 8)]) rfl sc_Net_init.nd (pdi_seq (pd_var 7)) (blkOk_by (N := N_Net_init_) (sc := relS _ (defScope s_Net_init)) (by decide +kernel)) (fun _ _ _ _ _ => (pdg_name (i := 8) sc_Net_init.nd rfl (by first | exact Or.inl rfl | exact Or.inr rfl) (by decide))) (fun _ _ _ _ _ => pdts_nil) (fun _ _ _ _ _ => (pd_fn (ok_matrix_of T) (hr.mono (by decide)) (pda_cons (pd_var 8) pda_nil)))) pda_nil)))) pda_nil)))
  (pss_consD (pds_setF (N := N_Net) (i := 4) T.cl_Net T.na_Net_out rfl (pd_var 0) (pd_fn (ok_matrix_of T) (hr.mono (by decide)) (pda_cons (pd_var 5) pda_nil)))
  (pss_oneD (pds_setF (N := N_Net) (i := 5) T.cl_Net T.na_Net_end rfl (pd_var 0) (pd_var 6)))))))))) (rd_Net_init c)
theorem ok_Net_is_letter (T : Txt mg c) : MtC P w c.K mg base c.Net 2 "is_letter" ["self", "value"] (sp_Net_is_letter c) :=
  MtC.mk T.m_Net_is_letter sc_Net_is_letter (by decide) (len_Net_is_letter c) (fun f cdv A outer s H E hr => (pss_oneD (pds_ret (pd_fn (ok_is_between T) (hr.mono (by decide)) (pda_cons (pd_var 1) (pda_cons pd_int (pda_cons (pd_op opd_sub (pd_callB cd_len T.b_len (by decide +kernel) (pda_cons (pd_fld (N := N_Net) (i := 1) T.cl_Net T.na_Net_embed rfl (pd_var 0)) pda_nil)) pd_int) pda_nil))))))) (rd_Net_is_letter c)
theorem ok_Net_rest (T : Txt mg c) : MtC P w c.K mg base c.Net 1 "rest" ["self", "number"] (sp_Net_rest c) :=
  MtC.mk T.m_Net_rest sc_Net_rest (by decide) (len_Net_rest c) (fun f cdv A outer s H E hr => (pss_oneD (pds_ret (pd_op opd_mod (pd_callTy cd_int T.b_int (by decide +kernel) (pda_cons (pd_var 1) pda_nil)) (pd_fld (N := N_Net) (i := 0) T.cl_Net T.na_Net_prime rfl (pd_var 0)))))) (rd_Net_rest c)
theorem ok_Net_times (T : Txt mg c) : MtC P w c.K mg base c.Net 2 "times" ["self", "matrix", "vector"] (sp_Net_times c) :=
  MtC.mk T.m_Net_times sc_Net_times (by decide) (len_Net_times c) (fun f cdv A outer s H E hr => (pss_oneD (pds_ret (pd_callTy cd_tuple T.b_tuple (by decide +kernel) (pda_cons (pd_lc (own := [("row", 3)]) rfl sc_Net_times.nd (pdi_seq (pd_var 1)) (blkOk_by (N := N_Net_times_) (sc := defScope s_Net_times) (by decide +kernel)) (fun _ _ _ _ _ => (pdg_name (i := 3) sc_Net_times.nd rfl (by first | exact Or.inl rfl | exact Or.inr rfl) (by decide))) (fun _ _ _ _ _ => pdts_nil) (fun _ _ _ _ _ => (pd_mt (N := N_Net) T.cl_Net (ok_Net_rest T) (by decide +kernel) (hr.mono (by decide)) (pd_var 0) (pda_cons (pd_fn (ok_product_sum T) (hr.mono (by decide)) (pda_cons (pd_var 3) (pda_cons (pd_var 2) pda_nil))) pda_nil)))) pda_nil))))) (rd_Net_times c)
theorem ok_Net_plus (T : Txt mg c) : MtC P w c.K mg base c.Net 2 "plus" ["self", "one", "two"] (sp_Net_plus c) :=
  MtC.mk T.m_Net_plus sc_Net_plus (by decide) (len_Net_plus c) (fun f cdv A outer s H E hr => (pss_oneD (pds_ret (pd_callTy cd_tuple T.b_tuple (by decide +kernel) (pda_cons (pd_lc (own := [("number", 3), ("other", 4)]) rfl sc_Net_plus.nd (pdi_zip T.b_zip (pd_var 1) (pd_var 2)) (blkOk_by (N := N_Net_plus_) (sc := defScope s_Net_plus) (by decide +kernel)) (fun _ _ _ _ _ => (pdg_tup rfl (pdgs_cons (pdg_name (i := 3) sc_Net_plus.nd rfl (by first | exact Or.inl rfl | exact Or.inr rfl) (by decide)) (pdgs_cons (pdg_name (i := 4) sc_Net_plus.nd rfl (by first | exact Or.inl rfl | exact Or.inr rfl) (by decide)) pdgs_nil)))) (fun _ _ _ _ _ => pdts_nil) (fun _ _ _ _ _ => (pd_mt (N := N_Net) T.cl_Net (ok_Net_rest T) (by decide +kernel) (hr.mono (by decide)) (pd_var 0) (pda_cons (pd_op opd_add (pd_var 3) (pd_var 4)) pda_nil)))) pda_nil))))) (rd_Net_plus c)
theorem ok_Net_looked_at (T : Txt mg c) : MtC P w c.K mg base c.Net 3 "looked_at" ["self", "query", "pairs"] (sp_Net_looked_at c) :=
  MtC.mk T.m_Net_looked_at sc_Net_looked_at (by decide) (len_Net_looked_at c) (fun f cdv A outer s H E hr => (pss_consD (pds_set (i := 3) sc_Net_looked_at.nd rfl (by first | exact Or.inl rfl | exact Or.inr rfl) (pd_callTy cd_tuple T.b_tuple (by decide +kernel) (pda_cons (pd_lc (own := [("_", 7)]) rfl sc_Net_looked_at.nd (pdi_seq (pd_var 1)) (blkOk_by (N := N_Net_looked_at_) (sc := defScope s_Net_looked_at) (by decide +kernel)) (fun _ _ _ _ _ => (pdg_name (i := 7) sc_Net_looked_at.nd rfl (by first | exact Or.inl rfl | exact Or.inr rfl) (by decide))) (fun _ _ _ _ _ => pdts_nil) (fun _ _ _ _ _ => pd_int)) pda_nil)))
  (pss_consD (pds_for (vs := (List.range 9)) rfl (passes_of rfl) (pdi_seq (pd_var 2)) (pdg_tup rfl (pdgs_cons (pdg_name (i := 4) sc_Net_looked_at.nd rfl (by first | exact Or.inl rfl | exact Or.inr rfl) (by decide)) (pdgs_cons (pdg_name (i := 5) sc_Net_looked_at.nd rfl (by first | exact Or.inl rfl | exact Or.inr rfl) (by decide)) pdgs_nil))) (pss_consD (pds_set (i := 6) sc_Net_looked_at.nd rfl (by first | exact Or.inl rfl | exact Or.inr rfl) (pd_fn (ok_product_sum T) (hr.mono (by decide)) (pda_cons (pd_var 1) (pda_cons (pd_var 4) pda_nil))))
  (pss_oneD (pds_set (i := 3) sc_Net_looked_at.nd rfl (by first | exact Or.inl rfl | exact Or.inr rfl) (pd_mt (N := N_Net) T.cl_Net (ok_Net_plus T) (by decide +kernel) (hr.mono (by decide)) (pd_var 0) (pda_cons (pd_var 3) (pda_cons (pd_lc (own := [("number", 8)]) rfl sc_Net_looked_at.nd (pdi_seq (pd_var 5)) (blkOk_by (N := N_Net_looked_at_) (sc := defScope s_Net_looked_at) (by decide +kernel)) (fun _ _ _ _ _ => (pdg_name (i := 8) sc_Net_looked_at.nd rfl (by first | exact Or.inl rfl | exact Or.inr rfl) (by decide))) (fun _ _ _ _ _ => pdts_nil) (fun _ _ _ _ _ => (pd_op opd_mul (pd_var 6) (pd_var 8)))) pda_nil)))))))
  (pss_oneD (pds_ret (pd_var 3)))))) (rd_Net_looked_at c)
theorem ok_Net_row (T : Txt mg c) : MtC P w c.K mg base c.Net 4 "row" ["self", "rows", "letter"] (sp_Net_row c) :=
  MtC.mk T.m_Net_row sc_Net_row (by decide) (len_Net_row c) (fun f cdv A outer s H E hr => (pss_consD (pds_if (pdt_not (pdt_val (pd_mt (N := N_Net) T.cl_Net (ok_Net_is_letter T) (by decide +kernel) (hr.mono (by decide)) (pd_var 0) (pda_cons (pd_var 2) pda_nil)))) (pss_oneD (pds_raise rfl (pdx_mk (xc_InvalidLetter T) (hr.mono (by decide)) (pd_var 2)))) pss_nilD)
  (pss_consD (pds_set (i := 3) sc_Net_row.nd rfl (by first | exact Or.inl rfl | exact Or.inr rfl) (pd_mt (N := N_Net) T.cl_Net (ok_Net_plus T) (by decide +kernel) (hr.mono (by decide)) (pd_var 0) (pda_cons (pd_ix ixd (pd_fld (N := N_Net) (i := 1) T.cl_Net T.na_Net_embed rfl (pd_var 0)) (pd_var 2)) (pda_cons (pd_lc (own := [("number", 14)]) rfl sc_Net_row.nd (pdi_seq (pd_fld (N := N_Net) (i := 2) T.cl_Net T.na_Net_shift rfl (pd_var 0))) (blkOk_by (N := N_Net_row_) (sc := defScope s_Net_row) (by decide +kernel)) (fun _ _ _ _ _ => (pdg_name (i := 14) sc_Net_row.nd rfl (by first | exact Or.inl rfl | exact Or.inr rfl) (by decide))) (fun _ _ _ _ _ => pdts_nil) (fun _ _ _ _ _ => (pd_op opd_mul (pd_callB cd_len T.b_len (by decide +kernel) (pda_cons (pd_var 1) pda_nil)) (pd_var 14)))) pda_nil))))
  (pss_consD (pds_set (i := 4) sc_Net_row.nd rfl (by first | exact Or.inl rfl | exact Or.inr rfl) (pd_lstM pda_nil))
  (pss_consD (pds_for (vs := (List.range 17)) rfl (passes_of rfl) (pdi_enum T.b_enumerate (pd_fld (N := N_Net) (i := 3) T.cl_Net T.na_Net_layers rfl (pd_var 0))) (pdg_tup rfl (pdgs_cons (pdg_name (i := 5) sc_Net_row.nd rfl (by first | exact Or.inl rfl | exact Or.inr rfl) (by decide)) (pdgs_cons (pdg_tup rfl (pdgs_cons (pdg_name (i := 6) sc_Net_row.nd rfl (by first | exact Or.inl rfl | exact Or.inr rfl) (by decide)) (pdgs_cons (pdg_name (i := 7) sc_Net_row.nd rfl (by first | exact Or.inl rfl | exact Or.inr rfl) (by decide)) (pdgs_cons (pdg_name (i := 8) sc_Net_row.nd rfl (by first | exact Or.inl rfl | exact Or.inr rfl) (by decide)) (pdgs_cons (pdg_name (i := 9) sc_Net_row.nd rfl (by first | exact Or.inl rfl | exact Or.inr rfl) (by decide)) (pdgs_cons (pdg_name (i := 10) sc_Net_row.nd rfl (by first | exact Or.inl rfl | exact Or.inr rfl) (by decide)) pdgs_nil)))))) pdgs_nil))) (pss_consD (pds_set (i := 11) sc_Net_row.nd rfl (by first | exact Or.inl rfl | exact Or.inr rfl) (pd_tup (pda_cons (pd_mt (N := N_Net) T.cl_Net (ok_Net_times T) (by decide +kernel) (hr.mono (by decide)) (pd_var 0) (pda_cons (pd_var 7) (pda_cons (pd_var 3) pda_nil))) (pda_cons (pd_mt (N := N_Net) T.cl_Net (ok_Net_times T) (by decide +kernel) (hr.mono (by decide)) (pd_var 0) (pda_cons (pd_var 8) (pda_cons (pd_var 3) pda_nil))) pda_nil))))
  (pss_consD (pds_set (i := 12) sc_Net_row.nd rfl (by first | exact Or.inl rfl | exact Or.inr rfl) (pd_op opd_add (pd_lc (own := [("row", 15)]) rfl sc_Net_row.nd (pdi_seq (pd_var 1)) (blkOk_by (N := N_Net_row_) (sc := defScope s_Net_row) (by decide +kernel)) (fun _ _ _ _ _ => (pdg_name (i := 15) sc_Net_row.nd rfl (by first | exact Or.inl rfl | exact Or.inr rfl) (by decide))) (fun _ _ _ _ _ => pdts_nil) (fun _ _ _ _ _ => (pd_ix ixd (pd_ix ixd (pd_var 15) pd_int) (pd_var 5)))) (pd_lst (pda_cons (pd_var 11) pda_nil))))
  (pss_consD (pds_set (i := 3) sc_Net_row.nd rfl (by first | exact Or.inl rfl | exact Or.inr rfl) (pd_mt (N := N_Net) T.cl_Net (ok_Net_plus T) (by decide +kernel) (hr.mono (by decide)) (pd_var 0) (pda_cons (pd_var 3) (pda_cons (pd_mt (N := N_Net) T.cl_Net (ok_Net_looked_at T) (by decide +kernel) (hr.mono (by decide)) (pd_var 0) (pda_cons (pd_mt (N := N_Net) T.cl_Net (ok_Net_times T) (by decide +kernel) (hr.mono (by decide)) (pd_var 0) (pda_cons (pd_var 6) (pda_cons (pd_var 3) pda_nil))) (pda_cons (pd_var 12) pda_nil))) pda_nil))))
  (pss_consD (pds_set (i := 3) sc_Net_row.nd rfl (by first | exact Or.inl rfl | exact Or.inr rfl) (pd_mt (N := N_Net) T.cl_Net (ok_Net_plus T) (by decide +kernel) (hr.mono (by decide)) (pd_var 0) (pda_cons (pd_var 3) (pda_cons (pd_mt (N := N_Net) T.cl_Net (ok_Net_times T) (by decide +kernel) (hr.mono (by decide)) (pd_var 0) (pda_cons (pd_var 10) (pda_cons (pd_lc (own := [("number", 14)]) rfl sc_Net_row.nd (pdi_seq (pd_mt (N := N_Net) T.cl_Net (ok_Net_times T) (by decide +kernel) (hr.mono (by decide)) (pd_var 0) (pda_cons (pd_var 9) (pda_cons (pd_var 3) pda_nil)))) (blkOk_by (N := N_Net_row_) (sc := defScope s_Net_row) (by decide +kernel)) (fun _ _ _ _ _ => (pdg_name (i := 14) sc_Net_row.nd rfl (by first | exact Or.inl rfl | exact Or.inr rfl) (by decide))) (fun _ _ _ _ _ => pdts_nil) (fun _ _ _ _ _ => (pd_op opd_mul (pd_var 14) (pd_var 14)))) pda_nil))) pda_nil))))
  (pss_oneD (pds_drop (pd_lm PySem.F.slot_list_append PySem.F.type_list_append md_append (pd_var 4) (pda_cons (pd_var 11) pda_nil)))))))))
  (pss_consD (by first | exact pds_setLc (i := 13) rfl sc_Net_row.nd rfl rfl (sw_true rfl rfl rfl (by decide +kernel)) (own := [("vector", 16)]) (pdi_seq (pd_fld (N := N_Net) (i := 4) T.cl_Net T.na_Net_out rfl (pd_var 0))) (blkOk_by (N := N_Net_row_) (sc := defScope s_Net_row) (by decide +kernel)) (fun _ _ _ _ _ => (pdg_name (i := 16) sc_Net_row.nd rfl (by first | exact Or.inl rfl | exact Or.inr rfl) (by decide))) (fun _ _ _ _ _ => pdts_nil) (fun _ _ _ _ _ => (pd_op opd_add pd_int (pd_mt (N := N_Net) T.cl_Net (ok_Net_rest T) (by decide +kernel) (hr.mono (by decide)) (pd_var 0) (pda_cons (pd_fn (ok_product_sum T) (hr.mono (by decide)) (pda_cons (pd_var 16) (pda_cons (pd_var 3) pda_nil))) pda_nil)))) | exact pds_set (i := 13) sc_Net_row.nd rfl (by first | exact Or.inl rfl | exact Or.inr rfl) (pd_lc (own := [("vector", 16)]) rfl sc_Net_row.nd (pdi_seq (pd_fld (N := N_Net) (i := 4) T.cl_Net T.na_Net_out rfl (pd_var 0))) (blkOk_by (N := N_Net_row_) (sc := defScope s_Net_row) (by decide +kernel)) (fun _ _ _ _ _ => (pdg_name (i := 16) sc_Net_row.nd rfl (by first | exact Or.inl rfl | exact Or.inr rfl) (by decide))) (fun _ _ _ _ _ => pdts_nil) (fun _ _ _ _ _ => (pd_op opd_add pd_int (pd_mt (N := N_Net) T.cl_Net (ok_Net_rest T) (by decide +kernel) (hr.mono (by decide)) (pd_var 0) (pda_cons (pd_fn (ok_product_sum T) (hr.mono (by decide)) (pda_cons (pd_var 16) (pda_cons (pd_var 3) pda_nil))) pda_nil))))))
  (pss_oneD (pds_ret (pd_tup (pda_cons (pd_callTy cd_tuple T.b_tuple (by decide +kernel) (pda_cons (pd_var 4) pda_nil)) (pda_cons (pd_callTy cd_tuple T.b_tuple (by decide +kernel) (pda_cons (pd_var 13) pda_nil)) pda_nil))))))))))) (rd_Net_row c)
theorem ok_rows_of (T : Txt mg c) : FnC P w c.K mg base 5 "rows_of" ["net", "letters"] (sp_rows_of c) :=
  FnC.mk T.d_rows_of sc_rows_of (by decide) (len_rows_of c) (fun f cdv A outer s H E hr => (pss_consD (pds_set (i := 2) sc_rows_of.nd rfl (by first | exact Or.inl rfl | exact Or.inr rfl) (pd_lstM pda_nil))
  (pss_consD (pds_for (vs := (List.range 4)) rfl (passes_of rfl) (pdi_seq (pd_var 1)) (pdg_name (i := 3) sc_rows_of.nd rfl (by first | exact Or.inl rfl | exact Or.inr rfl) (by decide)) (pss_oneD (pds_drop (pd_lm PySem.F.slot_list_append PySem.F.type_list_append md_append (pd_var 2) (pda_cons (pd_mt (N := N_Net) T.cl_Net (ok_Net_row T) (by decide +kernel) (hr.mono (by decide)) (pd_var 0) (pda_cons (pd_var 2) (pda_cons (pd_var 3) pda_nil))) pda_nil)))))
  (pss_oneD (pds_ret (pd_callTy cd_tuple T.b_tuple (by decide +kernel) (pda_cons (pd_var 2) pda_nil))))))) (rd_rows_of c)
theorem ok_check_letters (T : Txt mg c) : FnC P w c.K mg base 3 "check_letters" ["net", "ask", "begun"] (sp_check_letters c) :=
  FnC.mk T.d_check_letters sc_check_letters (by decide) (len_check_letters c) (fun f cdv A outer s H E hr => (pss_oneD (pds_for (vs := (List.range 5)) rfl (passes_of rfl) (pdi_seq (pd_op opd_add (pd_op opd_add (pd_tup (pda_cons (pd_fld (N := N_Ask) (i := 0) T.cl_Ask T.na_Ask_prompt rfl (pd_var 1)) pda_nil)) (pd_fld (N := N_Ask) (i := 2) T.cl_Ask T.na_Ask_stops rfl (pd_var 1))) (pd_tup (pda_cons (pd_callTy cd_tuple T.b_tuple (by decide +kernel) (pda_cons (pd_var 2) pda_nil)) pda_nil)))) (pdg_name (i := 3) sc_check_letters.nd rfl (by first | exact Or.inl rfl | exact Or.inr rfl) (by decide)) (pss_oneD (pds_for (vs := (List.range 5)) rfl (passes_of rfl) (pdi_seq (pd_var 3)) (pdg_name (i := 4) sc_check_letters.nd rfl (by first | exact Or.inl rfl | exact Or.inr rfl) (by decide)) (pss_oneD (pds_if (pdt_not (pdt_val (pd_mt (N := N_Net) T.cl_Net (ok_Net_is_letter T) (by decide +kernel) (hr.mono (by decide)) (pd_var 0) (pda_cons (pd_var 4) pda_nil)))) (pss_oneD (pds_raise rfl (pdx_mk (xc_InvalidLetter T) (hr.mono (by decide)) (pd_var 4)))) pss_nilD))))))) (rd_check_letters c)
theorem ok_stop_length (T : Txt mg c) : FnC P w c.K mg base 1 "stop_length" ["stops", "text"] (sp_stop_length c) :=
  FnC.mk T.d_stop_length sc_stop_length (by decide) (len_stop_length c) (fun f cdv A outer s H E hr => (pss_consD (pds_set (i := 2) sc_stop_length.nd rfl (by first | exact Or.inl rfl | exact Or.inr rfl) pd_int)
  (pss_consD (pds_for (vs := (List.range 4)) rfl (passes_of rfl) (pdi_seq (pd_var 0)) (pdg_name (i := 3) sc_stop_length.nd rfl (by first | exact Or.inl rfl | exact Or.inr rfl) (by decide)) (pss_oneD (pds_if (PDw.pt (pdw_and (pdt_chain opd_lt opd_le (pd_var 2) (pd_callB cd_len T.b_len (by decide +kernel) (pda_cons (pd_var 3) pda_nil)) (pd_callB cd_len T.b_len (by decide +kernel) (pda_cons (pd_var 1) pda_nil))) (pdw_and1 (pdt_cmp (opd_eq hr.units) (pd_slice (pd_var 1) (pdo_some (pd_op opd_sub (pd_callB cd_len T.b_len (by decide +kernel) (pda_cons (pd_var 1) pda_nil)) (pd_callB cd_len T.b_len (by decide +kernel) (pda_cons (pd_var 3) pda_nil)))) pdo_none) (pd_var 3) (nomark _))))) (pss_oneD (pds_set (i := 2) sc_stop_length.nd rfl (by first | exact Or.inl rfl | exact Or.inr rfl) (pd_callB cd_len T.b_len (by decide +kernel) (pda_cons (pd_var 3) pda_nil)))) pss_nilD)))
  (pss_oneD (pds_ret (pd_var 2)))))) (rd_stop_length c)
theorem ok_greatest (T : Txt mg c) : FnC P w c.K mg base 1 "greatest" ["weights"] (sp_greatest c) :=
  FnC.mk T.d_greatest sc_greatest (by decide) (len_greatest c) (fun f cdv A outer s H E hr => (pss_consD (pds_set (i := 1) sc_greatest.nd rfl (by first | exact Or.inl rfl | exact Or.inr rfl) pd_int)
  (pss_consD (pds_for (vs := (List.range 4)) rfl (passes_of rfl) (pdi_enum T.b_enumerate (pd_var 0)) (pdg_tup rfl (pdgs_cons (pdg_name (i := 2) sc_greatest.nd rfl (by first | exact Or.inl rfl | exact Or.inr rfl) (by decide)) (pdgs_cons (pdg_name (i := 3) sc_greatest.nd rfl (by first | exact Or.inl rfl | exact Or.inr rfl) (by decide)) pdgs_nil))) (pss_oneD (pds_if (pdt_cmp opd_gt (pd_var 3) (pd_ix ixd (pd_var 0) (pd_var 1)) (nomark _)) (pss_oneD (pds_set (i := 1) sc_greatest.nd rfl (by first | exact Or.inl rfl | exact Or.inr rfl) (pd_var 2))) pss_nilD)))
  (pss_oneD (pds_ret (pd_var 1)))))) (rd_greatest c)
theorem ok_by_number (T : Txt mg c) : FnC P w c.K mg base 1 "by_number" ["weights", "number"] (sp_by_number c) :=
  FnC.mk T.d_by_number sc_by_number (by decide) (len_by_number c) (fun f cdv A outer s H E hr => (pss_consD (pds_set (i := 2) sc_by_number.nd rfl (by first | exact Or.inl rfl | exact Or.inr rfl) (pd_op opd_mod (pd_callTy cd_int T.b_int (by decide +kernel) (pda_cons (pd_var 1) pda_nil)) (pd_callB (cd_sumA rfl) T.b_sum (by decide +kernel) (pda_cons (pd_var 0) pda_nil))))
  (pss_consD (pds_set (i := 3) sc_by_number.nd rfl (by first | exact Or.inl rfl | exact Or.inr rfl) pd_int)
  (pss_consD (pds_while (passes_of rfl) (pdt_cmp opd_ge (pd_var 2) (pd_ix ixd (pd_var 0) (pd_var 3)) (nomark _)) (pss_consD (pds_aug (i := 2) sc_by_number.nd rfl (by first | exact Or.inl rfl | exact Or.inr rfl) (pd_ix ixd (pd_var 0) (pd_var 3)) iopd_sub)
  (pss_oneD (pds_aug (i := 3) sc_by_number.nd rfl (by first | exact Or.inl rfl | exact Or.inr rfl) pd_int iopd_add))))
  (pss_oneD (pds_ret (pd_var 3))))))) (rd_by_number c)
theorem ok_Rule_init (T : Txt mg c) : MkC P w c.K mg base c.Rule 1 ["self", "start", "steps"] (sp_Rule_init c) :=
  MkC.mk T.i_Rule_init sc_Rule_init (by decide) (len_Rule_init c) (fun f cdv A outer s H E hr => (pss_consD (pds_setF (N := N_Rule) (i := 0) T.cl_Rule T.na_Rule_start rfl (pd_var 0) (pd_var 1))
  (pss_oneD (pds_setF (N := N_Rule) (i := 1) T.cl_Rule T.na_Rule_steps rfl (pd_var 0) (pd_callTy cd_tuple T.b_tuple (by decide +kernel) (pda_cons (pd_lc (own := [("row", 3)]) rfl sc_Rule_init.nd (pdi_seq (pd_var 2)) (blkOk_by (N := N_Rule_init_) (sc := defScope s_Rule_init) (by decide +kernel)) (fun _ _ _ _ _ => (pdg_name (i := 3) sc_Rule_init.nd rfl (by first | exact Or.inl rfl | exact Or.inr rfl) (by decide))) (fun _ _ _ _ _ => pdts_nil) (fun _ _ _ _ _ => (pd_callTy cd_tuple T.b_tuple (by decide +kernel) (pda_cons (pd_var 3) pda_nil)))) pda_nil)))))) (rd_Rule_init c)
theorem ok_Rule_after (T : Txt mg c) : MtC P w c.K mg base c.Rule 1 "after" ["self", "text"] (sp_Rule_after c) :=
  MtC.mk T.m_Rule_after sc_Rule_after (by decide) (len_Rule_after c) (fun f cdv A outer s H E hr => (pss_consD (pds_set (i := 2) sc_Rule_after.nd rfl (by first | exact Or.inl rfl | exact Or.inr rfl) (pd_fld (N := N_Rule) (i := 0) T.cl_Rule T.na_Rule_start rfl (pd_var 0)))
  (pss_consD (pds_for (vs := (List.range 4)) rfl (passes_of rfl) (pdi_seq (pd_var 1)) (pdg_name (i := 3) sc_Rule_after.nd rfl (by first | exact Or.inl rfl | exact Or.inr rfl) (by decide)) (pss_consD (pds_if (pdt_cmp opd_isN (pd_var 2) pd_non (nomark _)) (pss_oneD (pds_ret pd_non)) pss_nilD)
  (pss_oneD (pds_set (i := 2) sc_Rule_after.nd rfl (by first | exact Or.inl rfl | exact Or.inr rfl) (pd_ix ixd (pd_ix ixd (pd_fld (N := N_Rule) (i := 1) T.cl_Rule T.na_Rule_steps rfl (pd_var 0)) (pd_var 2)) (pd_var 3))))))
  (pss_oneD (pds_ret (pd_var 2)))))) (rd_Rule_after c)
theorem ok_Rule_lets (T : Txt mg c) : MtC P w c.K mg base c.Rule 2 "lets" ["self", "text", "letter"] (sp_Rule_lets c) :=
  MtC.mk T.m_Rule_lets sc_Rule_lets (by decide) (len_Rule_lets c) (fun f cdv A outer s H E hr => (pss_oneD (pds_ret (pd_cmp opd_notN (pd_mt (N := N_Rule) T.cl_Rule (ok_Rule_after T) (by decide +kernel) (hr.mono (by decide)) (pd_var 0) (pda_cons (pd_op opd_add (pd_callTy cd_tuple T.b_tuple (by decide +kernel) (pda_cons (pd_var 1) pda_nil)) (pd_tup (pda_cons (pd_var 2) pda_nil))) pda_nil)) pd_non (nomark _))))) (rd_Rule_lets c)
theorem okK_Ask_init_3_stops_tape_rule (T : Txt mg c) : MkCK P w c.K mg base c.Ask 3 ["self", "prompt", "most", "stops", "tape", "rule"] ["stops", "tape", "rule"] 3 3 [0, 1, 2, 3, 4, 5] (sp_Ask_init c) :=
  MkCK.mk T.ik_Ask_init_3_stops_tape_rule sc_Ask_init (by decide) (len_Ask_init c) (fun f cdv A outer s H E hr => (pss_consD (pds_if (pdt_not (pdt_val (pd_fn (ok_is_between T) (hr.mono (by decide)) (pda_cons (pd_var 2) (pda_cons pd_int (pda_cons (pd_glob T.c_MOST_LETTERS) pda_nil)))))) (pss_oneD (pds_raise rfl (pdx_mk (xc_InvalidNumber T) (hr.mono (by decide)) (pd_var 2)))) pss_nilD)
  (pss_consD (pds_setF (N := N_Ask) (i := 0) T.cl_Ask T.na_Ask_prompt rfl (pd_var 0) (pd_callTy cd_tuple T.b_tuple (by decide +kernel) (pda_cons (pd_var 1) pda_nil)))
  (pss_consD (pds_setF (N := N_Ask) (i := 1) T.cl_Ask T.na_Ask_most rfl (pd_var 0) (pd_var 2))
  (pss_consD (pds_setF (N := N_Ask) (i := 2) T.cl_Ask T.na_Ask_stops rfl (pd_var 0) (pd_callTy cd_tuple T.b_tuple (by decide +kernel) (pda_cons (pd_lc (own := [("stop", 6)]) rfl sc_Ask_init.nd (pdi_seq (pd_var 3)) (blkOk_by (N := N_Ask_init_) (sc := defScope s_Ask_init) (by decide +kernel)) (fun _ _ _ _ _ => (pdg_name (i := 6) sc_Ask_init.nd rfl (by first | exact Or.inl rfl | exact Or.inr rfl) (by decide))) (fun _ _ _ _ _ => pdts_nil) (fun _ _ _ _ _ => (pd_callTy cd_tuple T.b_tuple (by decide +kernel) (pda_cons (pd_var 6) pda_nil)))) pda_nil)))
  (pss_consD (pds_setF (N := N_Ask) (i := 3) T.cl_Ask T.na_Ask_tape rfl (pd_var 0) (pd_callTy cd_tuple T.b_tuple (by decide +kernel) (pda_cons (pd_var 4) pda_nil)))
  (pss_oneD (pds_setF (N := N_Ask) (i := 4) T.cl_Ask T.na_Ask_rule rfl (pd_var 0) (pd_var 5))))))))) (rd_Ask_init c)
theorem ok_Ask_let_weights (T : Txt mg c) : MtC P w c.K mg base c.Ask 3 "let_weights" ["self", "weights", "text"] (sp_Ask_let_weights c) :=
  MtC.mk T.m_Ask_let_weights sc_Ask_let_weights (by decide) (len_Ask_let_weights c) (fun f cdv A outer s H E hr => (pss_consD (pds_if (pdt_cmp opd_isN (pd_fld (N := N_Ask) (i := 4) T.cl_Ask T.na_Ask_rule rfl (pd_var 0)) pd_non (nomark _)) (pss_oneD (pds_ret (pd_callTy cd_tuple T.b_tuple (by decide +kernel) (pda_cons (pd_var 1) pda_nil)))) pss_nilD)
  (pss_oneD (pds_ret (pd_callTy cd_tuple T.b_tuple (by decide +kernel) (pda_cons (pd_lc (own := [("letter", 3), ("weight", 4)]) rfl sc_Ask_let_weights.nd (pdi_enum T.b_enumerate (pd_var 1)) (blkOk_by (N := N_Ask_let_weights_) (sc := defScope s_Ask_let_weights) (by decide +kernel)) (fun _ _ _ _ _ => (pdg_tup rfl (pdgs_cons (pdg_name (i := 3) sc_Ask_let_weights.nd rfl (by first | exact Or.inl rfl | exact Or.inr rfl) (by decide)) (pdgs_cons (pdg_name (i := 4) sc_Ask_let_weights.nd rfl (by first | exact Or.inl rfl | exact Or.inr rfl) (by decide)) pdgs_nil)))) (fun _ _ _ _ _ => pdts_nil) (fun _ _ _ _ _ => (pd_op opd_mul (pd_var 4) (pd_callTy cd_int T.b_int (by decide +kernel) (pda_cons (pd_mt (N := N_Rule) T.cl_Rule (ok_Rule_lets T) (by decide +kernel) (hr.mono (by decide)) (pd_fld (N := N_Ask) (i := 4) T.cl_Ask T.na_Ask_rule rfl (pd_var 0)) (pda_cons (pd_var 2) (pda_cons (pd_var 3) pda_nil))) pda_nil))))) pda_nil)))))) (rd_Ask_let_weights c)
theorem ok_Ask_choice (T : Txt mg c) : MtC P w c.K mg base c.Ask 4 "choice" ["self", "weights", "text"] (sp_Ask_choice c) :=
  MtC.mk T.m_Ask_choice sc_Ask_choice (by decide) (len_Ask_choice c) (fun f cdv A outer s H E hr => (pss_consD (pds_set (i := 3) sc_Ask_choice.nd rfl (by first | exact Or.inl rfl | exact Or.inr rfl) (pd_mt (N := N_Ask) T.cl_Ask (ok_Ask_let_weights T) (by decide +kernel) (hr.mono (by decide)) (pd_var 0) (pda_cons (pd_var 1) (pda_cons (pd_var 2) pda_nil))))
  (pss_consD (pds_if (pdt_cmp (opd_eq hr.units) (pd_callB (cd_sumA rfl) T.b_sum (by decide +kernel) (pda_cons (pd_var 3) pda_nil)) pd_int (nomark _)) (pss_oneD (pds_ret pd_non)) pss_nilD)
  (pss_consD (pds_if (pdt_cmp (opd_eq hr.units) (pd_callB cd_len T.b_len (by decide +kernel) (pda_cons (pd_fld (N := N_Ask) (i := 3) T.cl_Ask T.na_Ask_tape rfl (pd_var 0)) pda_nil)) pd_int (nomark _)) (pss_oneD (pds_ret (pd_fn (ok_greatest T) (hr.mono (by decide)) (pda_cons (pd_var 3) pda_nil)))) pss_nilD)
  (pss_oneD (pds_ret (pd_fn (ok_by_number T) (hr.mono (by decide)) (pda_cons (pd_var 3) (pda_cons (pd_ix ixd (pd_fld (N := N_Ask) (i := 3) T.cl_Ask T.na_Ask_tape rfl (pd_var 0)) (pd_op opd_mod (pd_callB cd_len T.b_len (by decide +kernel) (pda_cons (pd_var 2) pda_nil)) (pd_callB cd_len T.b_len (by decide +kernel) (pda_cons (pd_fld (N := N_Ask) (i := 3) T.cl_Ask T.na_Ask_tape rfl (pd_var 0)) pda_nil)))) pda_nil))))))))) (rd_Ask_choice c)
theorem ok_next_text (T : Txt mg c) : FnC P w c.K mg base 5 "next_text" ["net", "ask", "text", "weights"] (sp_next_text c) :=
  FnC.mk T.d_next_text sc_next_text (by decide) (len_next_text c) (fun f cdv A outer s H E hr => (pss_consD (pds_set (i := 4) sc_next_text.nd rfl (by first | exact Or.inl rfl | exact Or.inr rfl) (pd_mt (N := N_Ask) T.cl_Ask (ok_Ask_choice T) (by decide +kernel) (hr.mono (by decide)) (pd_var 1) (pda_cons (pd_var 3) (pda_cons (pd_var 2) pda_nil))))
  (pss_consD (pds_if (pdt_cmp opd_isN (pd_var 4) pd_non (nomark _)) (pss_oneD (pds_ret (pd_tup (pda_cons (pd_var 2) (pda_cons pd_str pda_nil))))) pss_nilD)
  (pss_consD (pds_if (pdt_cmp (opd_eq hr.units) (pd_var 4) (pd_fld (N := N_Net) (i := 5) T.cl_Net T.na_Net_end rfl (pd_var 0)) (nomark _)) (pss_oneD (pds_ret (pd_tup (pda_cons (pd_var 2) (pda_cons pd_str pda_nil))))) pss_nilD)
  (pss_consD (pds_set (i := 2) sc_next_text.nd rfl (by first | exact Or.inl rfl | exact Or.inr rfl) (pd_op opd_add (pd_var 2) (pd_tup (pda_cons (pd_var 4) pda_nil))))
  (pss_consD (pds_set (i := 5) sc_next_text.nd rfl (by first | exact Or.inl rfl | exact Or.inr rfl) (pd_fn (ok_stop_length T) (hr.mono (by decide)) (pda_cons (pd_fld (N := N_Ask) (i := 2) T.cl_Ask T.na_Ask_stops rfl (pd_var 1)) (pda_cons (pd_var 2) pda_nil))))
  (pss_consD (pds_if (pdt_cmp opd_gt (pd_var 5) pd_int (nomark _)) (pss_oneD (pds_ret (pd_tup (pda_cons (pd_slice (pd_var 2) pdo_none (pdo_some (pd_op opd_sub (pd_callB cd_len T.b_len (by decide +kernel) (pda_cons (pd_var 2) pda_nil)) (pd_var 5)))) (pda_cons pd_str pda_nil))))) pss_nilD)
  (pss_oneD (pds_ret (pd_tup (pda_cons (pd_var 2) (pda_cons (pd_ifE (pdt_cmp (opd_eq hr.units) (pd_callB cd_len T.b_len (by decide +kernel) (pda_cons (pd_var 2) pda_nil)) (pd_fld (N := N_Ask) (i := 1) T.cl_Ask T.na_Ask_most rfl (pd_var 1)) (nomark _)) pd_str pd_non) pda_nil)))))))))))) (rd_next_text c)
theorem okK_written_2_begun (T : Txt mg c) : FnCK P w c.K mg base 6 "written" ["net", "ask", "begun"] ["begun"] 2 1 [0, 1, 2] (sp_written c) :=
  FnCK.mk T.dk_written_2_begun sc_written (by decide) (len_written c) (fun f cdv A outer s H E hr => (pss_consD (pds_drop (pd_fn (ok_check_letters T) (hr.mono (by decide)) (pda_cons (pd_var 0) (pda_cons (pd_var 1) (pda_cons (pd_var 2) pda_nil)))))
  (pss_consD (pds_set (i := 3) sc_written.nd rfl (by first | exact Or.inl rfl | exact Or.inr rfl) (pd_callTy cd_tuple T.b_tuple (by decide +kernel) (pda_cons (pd_var 2) pda_nil)))
  (pss_consD (pds_set (i := 4) sc_written.nd rfl (by first | exact Or.inl rfl | exact Or.inr rfl) (pd_callTy cd_listM T.b_list (by decide +kernel) (pda_cons (pd_fn (ok_rows_of T) (hr.mono (by decide)) (pda_cons (pd_var 0) (pda_cons (pd_op opd_add (pd_fld (N := N_Ask) (i := 0) T.cl_Ask T.na_Ask_prompt rfl (pd_var 1)) (pd_var 3)) pda_nil))) pda_nil)))
  (pss_consD (pds_asgG (vs := (List.range 6)) (pd_fn (ok_next_text T) (hr.mono (by decide)) (pda_cons (pd_var 0) (pda_cons (pd_var 1) (pda_cons (pd_var 3) (pda_cons (pd_ix ixd (pd_ix ixd (pd_var 4) (pd_un und_neg pd_int)) pd_int) pda_nil))))) (pdg_tup rfl (pdgs_cons (pdg_name (i := 3) sc_written.nd rfl (by first | exact Or.inl rfl | exact Or.inr rfl) (by decide)) (pdgs_cons (pdg_name (i := 5) sc_written.nd rfl (by first | exact Or.inl rfl | exact Or.inr rfl) (by decide)) pdgs_nil))))
  (pss_consD (pds_while (passes_of rfl) (pdt_cmp opd_isN (pd_var 5) pd_non (nomark _)) (pss_consD (pds_drop (pd_lm PySem.F.slot_list_append PySem.F.type_list_append md_append (pd_var 4) (pda_cons (pd_mt (N := N_Net) T.cl_Net (ok_Net_row T) (by decide +kernel) (hr.mono (by decide)) (pd_var 0) (pda_cons (pd_var 4) (pda_cons (pd_ix ixd (pd_var 3) (pd_un und_neg pd_int)) pda_nil))) pda_nil)))
  (pss_oneD (pds_asgG (vs := (List.range 6)) (pd_fn (ok_next_text T) (hr.mono (by decide)) (pda_cons (pd_var 0) (pda_cons (pd_var 1) (pda_cons (pd_var 3) (pda_cons (pd_ix ixd (pd_ix ixd (pd_var 4) (pd_un und_neg pd_int)) pd_int) pda_nil))))) (pdg_tup rfl (pdgs_cons (pdg_name (i := 3) sc_written.nd rfl (by first | exact Or.inl rfl | exact Or.inr rfl) (by decide)) (pdgs_cons (pdg_name (i := 5) sc_written.nd rfl (by first | exact Or.inl rfl | exact Or.inr rfl) (by decide)) pdgs_nil)))))))
  (pss_oneD (pds_ret (pd_tup (pda_cons (pd_var 3) (pda_cons (pd_var 5) pda_nil))))))))))) (rd_written c)
theorem ok_written (T : Txt mg c) : FnCD P w c.K mg base 6 "written" ["net", "ask", "begun"] [.tup []] (sp_written c) :=
  FnCD.mk T.dd_written sc_written (by decide) (len_written c) (fun f cdv A outer s H E hr => (pss_consD (pds_drop (pd_fn (ok_check_letters T) (hr.mono (by decide)) (pda_cons (pd_var 0) (pda_cons (pd_var 1) (pda_cons (pd_var 2) pda_nil)))))
  (pss_consD (pds_set (i := 3) sc_written.nd rfl (by first | exact Or.inl rfl | exact Or.inr rfl) (pd_callTy cd_tuple T.b_tuple (by decide +kernel) (pda_cons (pd_var 2) pda_nil)))
  (pss_consD (pds_set (i := 4) sc_written.nd rfl (by first | exact Or.inl rfl | exact Or.inr rfl) (pd_callTy cd_listM T.b_list (by decide +kernel) (pda_cons (pd_fn (ok_rows_of T) (hr.mono (by decide)) (pda_cons (pd_var 0) (pda_cons (pd_op opd_add (pd_fld (N := N_Ask) (i := 0) T.cl_Ask T.na_Ask_prompt rfl (pd_var 1)) (pd_var 3)) pda_nil))) pda_nil)))
  (pss_consD (pds_asgG (vs := (List.range 6)) (pd_fn (ok_next_text T) (hr.mono (by decide)) (pda_cons (pd_var 0) (pda_cons (pd_var 1) (pda_cons (pd_var 3) (pda_cons (pd_ix ixd (pd_ix ixd (pd_var 4) (pd_un und_neg pd_int)) pd_int) pda_nil))))) (pdg_tup rfl (pdgs_cons (pdg_name (i := 3) sc_written.nd rfl (by first | exact Or.inl rfl | exact Or.inr rfl) (by decide)) (pdgs_cons (pdg_name (i := 5) sc_written.nd rfl (by first | exact Or.inl rfl | exact Or.inr rfl) (by decide)) pdgs_nil))))
  (pss_consD (pds_while (passes_of rfl) (pdt_cmp opd_isN (pd_var 5) pd_non (nomark _)) (pss_consD (pds_drop (pd_lm PySem.F.slot_list_append PySem.F.type_list_append md_append (pd_var 4) (pda_cons (pd_mt (N := N_Net) T.cl_Net (ok_Net_row T) (by decide +kernel) (hr.mono (by decide)) (pd_var 0) (pda_cons (pd_var 4) (pda_cons (pd_ix ixd (pd_var 3) (pd_un und_neg pd_int)) pda_nil))) pda_nil)))
  (pss_oneD (pds_asgG (vs := (List.range 6)) (pd_fn (ok_next_text T) (hr.mono (by decide)) (pda_cons (pd_var 0) (pda_cons (pd_var 1) (pda_cons (pd_var 3) (pda_cons (pd_ix ixd (pd_ix ixd (pd_var 4) (pd_un und_neg pd_int)) pd_int) pda_nil))))) (pdg_tup rfl (pdgs_cons (pdg_name (i := 3) sc_written.nd rfl (by first | exact Or.inl rfl | exact Or.inr rfl) (by decide)) (pdgs_cons (pdg_name (i := 5) sc_written.nd rfl (by first | exact Or.inl rfl | exact Or.inr rfl) (by decide)) pdgs_nil)))))))
  (pss_oneD (pds_ret (pd_tup (pda_cons (pd_var 3) (pda_cons (pd_var 5) pda_nil))))))))))) (rd_written c)
theorem ok__law_numbers (T : Txt mg c) : FnC P w c.K mg base 1 "_law_numbers" ["cell", "at", "many"] (sp__law_numbers c) :=
  FnC.mk T.d__law_numbers sc__law_numbers (by decide) (len__law_numbers c) (fun f cdv A outer s H E hr => (pss_consD (pds_set (i := 3) sc__law_numbers.nd rfl (by first | exact Or.inl rfl | exact Or.inr rfl) (pd_cmp opd_ge (pd_callB cd_abs T.b_abs (by decide +kernel) (pda_cons (pd_callTy cd_int T.b_int (by decide +kernel) (pda_cons (pd_var 0) pda_nil)) pda_nil)) (pd_op opd_pow pd_int pd_int) (nomark _)))
  (pss_consD (pds_set (i := 4) sc__law_numbers.nd rfl (by first | exact Or.inl rfl | exact Or.inr rfl) (pd_op opd_add (pd_op opd_mulS pd_int (pd_callB cd_abs T.b_abs (by decide +kernel) (pda_cons (pd_callTy cd_int T.b_int (by decide +kernel) (pda_cons (pd_var 0) pda_nil)) pda_nil))) (pd_callTy cd_int T.b_int (by decide +kernel) (pda_cons (pd_cmp opd_lt (pd_var 0) pd_int (nomark _)) pda_nil))))
  (pss_consD (pds_set (i := 5) sc__law_numbers.nd rfl (by first | exact Or.inl rfl | exact Or.inr rfl) (pd_lstM pda_nil))
  (pss_consD (pds_for (vs := (List.range 8)) rfl (passes_of rfl) (pdi_rg1 T.b_range (pd_var 2)) (pdg_name (i := 6) sc__law_numbers.nd rfl (by first | exact Or.inl rfl | exact Or.inr rfl) (by decide)) (pss_oneD (pds_if (pdt_val (pd_var 3)) (pss_consD (pds_drop (pd_lm PySem.F.slot_list_append PySem.F.type_list_append md_append (pd_var 5) (pda_cons (pd_op opd_mod (pd_callTy cd_int T.b_int (by decide +kernel) (pda_cons (pd_var 4) pda_nil)) pd_int) pda_nil)))
  (pss_oneD (pds_set (i := 4) sc__law_numbers.nd rfl (by first | exact Or.inl rfl | exact Or.inr rfl) (pd_op opd_div (pd_var 4) pd_int)))) (pss_consD (pds_set (i := 7) sc__law_numbers.nd rfl (by first | exact Or.inl rfl | exact Or.inr rfl) (pd_op opd_mod (pd_callTy cd_int T.b_int (by decide +kernel) (pda_cons (pd_op opd_add (pd_op opd_add (pd_op opd_add (pd_op opd_mul (pd_var 4) pd_int) (pd_op opd_mul (pd_var 1) pd_int)) (pd_op opd_mul (pd_var 6) pd_int)) pd_int) pda_nil)) pd_int))
  (pss_consD (pds_set (i := 7) sc__law_numbers.nd rfl (by first | exact Or.inl rfl | exact Or.inr rfl) (pd_op opd_mod (pd_callTy cd_int T.b_int (by decide +kernel) (pda_cons (pd_op opd_add (pd_op opd_add (pd_op opd_mul (pd_var 7) (pd_var 7)) (pd_op opd_mul (pd_var 6) pd_int)) pd_int) pda_nil)) pd_int))
  (pss_consD (pds_set (i := 7) sc__law_numbers.nd rfl (by first | exact Or.inl rfl | exact Or.inr rfl) (pd_op opd_mod (pd_callTy cd_int T.b_int (by decide +kernel) (pda_cons (pd_op opd_add (pd_op opd_add (pd_op opd_mul (pd_var 7) (pd_var 7)) (pd_op opd_mul (pd_var 1) pd_int)) pd_int) pda_nil)) pd_int))
  (pss_oneD (pds_drop (pd_lm PySem.F.slot_list_append PySem.F.type_list_append md_append (pd_var 5) (pda_cons (pd_op opd_mod (pd_callTy cd_int T.b_int (by decide +kernel) (pda_cons (pd_op opd_div (pd_var 7) pd_int) pda_nil)) pd_int) pda_nil))))))))))
  (pss_oneD (pds_ret (pd_frz (pd_var 5))))))))) (rd__law_numbers c)
theorem ok__law_same_n (T : Txt mg c) : ∀ n : Nat, FnC P w c.K mg base (n + 1) "_law_same" ["actual", "expected"] (sp__law_same_n c n)
  | 0 => FnC.zero T.d__law_same
  | n + 1 => by
    have ih := ok__law_same_n T n
    exact FnC.mk T.d__law_same (k := n + 1) sc__law_same (by decide) (len__law_same_n c (n + 1)) (fun f cdv A outer s H E hr => (pss_consD (pds_if (pdt_cmp opd_isN (pd_var 1) pd_non (nomark _)) (pss_oneD (pds_ret (pd_cmp opd_isN (pd_var 0) pd_non (nomark _)))) pss_nilD)
  (pss_consD (pds_if (pdt_val (pd_isi (T := "str") (pd_var 1) (pe_bltn rfl T.b_str (by decide +kernel) rfl) T.b_isinstance)) (pss_oneD (pds_ret (pd_and (pd_isi (T := "str") (pd_var 0) (pe_bltn rfl T.b_str (by decide +kernel) rfl) T.b_isinstance) (pd_one (pd_cmp (opd_eq hr.units) (pd_var 0) (pd_var 1) (nomark _)))))) pss_nilD)
  (pss_consD (pds_if (pdt_val (pd_isi (T := "bool") (pd_var 1) (pe_bltn rfl T.b_bool (by decide +kernel) rfl) T.b_isinstance)) (pss_oneD (pds_ret (pd_and (pd_isi (T := "bool") (pd_var 0) (pe_bltn rfl T.b_bool (by decide +kernel) rfl) T.b_isinstance) (pd_one (pd_cmp (opd_eq hr.units) (pd_var 0) (pd_var 1) (nomark _)))))) pss_nilD)
  (pss_consD (pds_if (pdt_val (pd_isi (T := "int") (pd_var 1) (pe_bltn rfl T.b_int (by decide +kernel) rfl) T.b_isinstance)) (pss_oneD (pds_ret (pd_and (pd_isi (T := "int") (pd_var 0) (pe_bltn rfl T.b_int (by decide +kernel) rfl) T.b_isinstance) (pd_and (pd_not (pd_isi (T := "bool") (pd_var 0) (pe_bltn rfl T.b_bool (by decide +kernel) rfl) T.b_isinstance)) (pd_one (pd_cmp (opd_eq hr.units) (pd_var 0) (pd_var 1) (nomark _))))))) pss_nilD)
  (pss_consD (pds_if (PDw.pt (pdw_or (pdt_not (pdt_val (pd_isi (T := "tuple") (pd_var 0) (pe_bltn rfl T.b_tuple (by decide +kernel) rfl) T.b_isinstance))) (pdw_or1 (pdt_cmp (opd_ne hr.units) (pd_callB cd_len T.b_len (by decide +kernel) (pda_cons (pd_var 0) pda_nil)) (pd_callB cd_len T.b_len (by decide +kernel) (pda_cons (pd_var 1) pda_nil)) (nomark _))))) (pss_oneD (pds_ret pd_bl)) pss_nilD)
  (pss_consD (pds_for (vs := (List.range 3)) rfl (passes_of rfl) (pdi_rg1 T.b_range (pd_callB cd_len T.b_len (by decide +kernel) (pda_cons (pd_var 1) pda_nil))) (pdg_name (i := 2) sc__law_same.nd rfl (by first | exact Or.inl rfl | exact Or.inr rfl) (by decide)) (pss_oneD (pds_if (pdt_not (pdt_val (pd_fn ih (hr.mono (by omega)) (pda_cons (pd_ix ixd (pd_var 0) (pd_var 2)) (pda_cons (pd_ix ixd (pd_var 1) (pd_var 2)) pda_nil))))) (pss_oneD (pds_ret pd_bl)) pss_nilD)))
  (pss_oneD (pds_ret pd_bl))))))))) (rd__law_same c n)
theorem ok__law_same (T : Txt mg c) : FnC P w c.K mg base 9 "_law_same" ["actual", "expected"] (sp__law_same c) := FnC.mono (FnC.imp (ok__law_same_n T 8) (imp__law_same c)) (by decide)
theorem ok__law_vector (T : Txt mg c) : FnC P w c.K mg base 1 "_law_vector" ["numbers", "at", "width", "prime"] (sp__law_vector c) :=
  FnC.mk T.d__law_vector sc__law_vector (by decide) (len__law_vector c) (fun f cdv A outer s H E hr => (pss_consD (pds_set (i := 4) sc__law_vector.nd rfl (by first | exact Or.inl rfl | exact Or.inr rfl) (pd_lstM pda_nil))
  (pss_consD (pds_for (vs := (List.range 6)) rfl (passes_of rfl) (pdi_rg2 T.b_range (pd_var 1) (pd_op opd_add (pd_var 1) (pd_var 2))) (pdg_name (i := 5) sc__law_vector.nd rfl (by first | exact Or.inl rfl | exact Or.inr rfl) (by decide)) (pss_oneD (pds_drop (pd_lm PySem.F.slot_list_append PySem.F.type_list_append md_append (pd_var 4) (pda_cons (pd_op opd_mod (pd_callTy cd_int T.b_int (by decide +kernel) (pda_cons (pd_op opd_add (pd_ix ixd (pd_var 0) (pd_op opd_mod (pd_callTy cd_int T.b_int (by decide +kernel) (pda_cons (pd_var 5) pda_nil)) (pd_callB cd_len T.b_len (by decide +kernel) (pda_cons (pd_var 0) pda_nil)))) (pd_op opd_mul pd_int (pd_op opd_div (pd_var 5) (pd_callB cd_len T.b_len (by decide +kernel) (pda_cons (pd_var 0) pda_nil))))) pda_nil)) (pd_var 3)) pda_nil)))))
  (pss_oneD (pds_ret (pd_callTy cd_tuple T.b_tuple (by decide +kernel) (pda_cons (pd_var 4) pda_nil))))))) (rd__law_vector c)
theorem ok__law_net (T : Txt mg c) : FnC P w c.K mg base 2 "_law_net" ["numbers", "letters", "width", "many", "prime"] (sp__law_net c) :=
  FnC.mk T.d__law_net sc__law_net (by decide) (len__law_net c) (fun f cdv A outer s H E hr => (pss_consD (pds_set (i := 5) sc__law_net.nd rfl (by first | exact Or.inl rfl | exact Or.inr rfl) (pd_lstM pda_nil))
  (pss_consD (pds_for (vs := (List.range 11)) rfl (passes_of rfl) (pdi_rg1 T.b_range (pd_op opd_add (pd_op opd_add (pd_op opd_mul pd_int (pd_var 1)) pd_int) (pd_op opd_mul (pd_op opd_mul pd_int (pd_var 2)) (pd_var 3)))) (pdg_name (i := 6) sc__law_net.nd rfl (by first | exact Or.inl rfl | exact Or.inr rfl) (by decide)) (pss_oneD (pds_drop (pd_lm PySem.F.slot_list_append PySem.F.type_list_append md_append (pd_var 5) (pda_cons (pd_fn (ok__law_vector T) (hr.mono (by decide)) (pda_cons (pd_var 0) (pda_cons (pd_op opd_mul (pd_var 6) (pd_var 2)) (pda_cons (pd_var 2) (pda_cons (pd_var 4) pda_nil))))) pda_nil)))))
  (pss_consD (pds_set (i := 7) sc__law_net.nd rfl (by first | exact Or.inl rfl | exact Or.inr rfl) (pd_lstM pda_nil))
  (pss_consD (pds_for (vs := (List.range 11)) rfl (passes_of rfl) (pdi_rg1 T.b_range (pd_var 3)) (pdg_name (i := 8) sc__law_net.nd rfl (by first | exact Or.inl rfl | exact Or.inr rfl) (by decide)) (pss_consD (pds_set (i := 9) sc__law_net.nd rfl (by first | exact Or.inl rfl | exact Or.inr rfl) (pd_lstM pda_nil))
  (pss_consD (pds_for (vs := (List.range 11)) rfl (passes_of rfl) (pdi_rg1 T.b_range pd_int) (pdg_name (i := 6) sc__law_net.nd rfl (by first | exact Or.inl rfl | exact Or.inr rfl) (by decide)) (pss_consD (pds_set (i := 10) sc__law_net.nd rfl (by first | exact Or.inl rfl | exact Or.inr rfl) (pd_op opd_add (pd_op opd_add (pd_op opd_mul pd_int (pd_var 1)) pd_int) (pd_op opd_mul (pd_var 2) (pd_op opd_add (pd_op opd_mul pd_int (pd_var 8)) (pd_var 6)))))
  (pss_oneD (pds_drop (pd_lm PySem.F.slot_list_append PySem.F.type_list_append md_append (pd_var 9) (pda_cons (pd_callTy cd_tuple T.b_tuple (by decide +kernel) (pda_cons (pd_slice (pd_var 5) (pdo_some (pd_var 10)) (pdo_some (pd_op opd_add (pd_var 10) (pd_var 2)))) pda_nil)) pda_nil))))))
  (pss_oneD (pds_drop (pd_lm PySem.F.slot_list_append PySem.F.type_list_append md_append (pd_var 7) (pda_cons (pd_callTy cd_tuple T.b_tuple (by decide +kernel) (pda_cons (pd_var 9) pda_nil)) pda_nil)))))))
  (pss_oneD (pds_ret (pd_tup (pda_cons (pd_var 4) (pda_cons (pd_callTy cd_tuple T.b_tuple (by decide +kernel) (pda_cons (pd_slice (pd_var 5) pdo_none (pdo_some (pd_var 1))) pda_nil)) (pda_cons (pd_ix ixd (pd_var 5) (pd_op opd_mul pd_int (pd_var 1))) (pda_cons (pd_callTy cd_tuple T.b_tuple (by decide +kernel) (pda_cons (pd_var 7) pda_nil)) (pda_cons (pd_callTy cd_tuple T.b_tuple (by decide +kernel) (pda_cons (pd_slice (pd_var 5) (pdo_some (pd_var 1)) (pdo_some (pd_op opd_mul pd_int (pd_var 1)))) pda_nil)) pda_nil))))))))))))) (rd__law_net c)
theorem ok__law_dot (T : Txt mg c) : FnC P w c.K mg base 1 "_law_dot" ["one", "other", "prime"] (sp__law_dot c) :=
  FnC.mk T.d__law_dot sc__law_dot (by decide) (len__law_dot c) (fun f cdv A outer s H E hr => (pss_consD (pds_set (i := 3) sc__law_dot.nd rfl (by first | exact Or.inl rfl | exact Or.inr rfl) pd_int)
  (pss_consD (pds_for (vs := (List.range 5)) rfl (passes_of rfl) (pdi_rg1 T.b_range (pd_callB cd_len T.b_len (by decide +kernel) (pda_cons (pd_var 0) pda_nil))) (pdg_name (i := 4) sc__law_dot.nd rfl (by first | exact Or.inl rfl | exact Or.inr rfl) (by decide)) (pss_oneD (pds_set (i := 3) sc__law_dot.nd rfl (by first | exact Or.inl rfl | exact Or.inr rfl) (pd_op opd_add (pd_var 3) (pd_op opd_mul (pd_ix ixd (pd_var 0) (pd_var 4)) (pd_ix ixd (pd_var 1) (pd_var 4)))))))
  (pss_oneD (pds_ret (pd_op opd_mod (pd_callTy cd_int T.b_int (by decide +kernel) (pda_cons (pd_var 3) pda_nil)) (pd_var 2))))))) (rd__law_dot c)
theorem ok__law_times (T : Txt mg c) : FnC P w c.K mg base 2 "_law_times" ["matrix", "vector", "prime"] (sp__law_times c) :=
  FnC.mk T.d__law_times sc__law_times (by decide) (len__law_times c) (fun f cdv A outer s H E hr => (pss_oneD (pds_ret (pd_lc (own := [("row", 3)]) rfl sc__law_times.nd (pdi_seq (pd_var 0)) (blkOk_by (N := N__law_times_) (sc := defScope s__law_times) (by decide +kernel)) (fun _ _ _ _ _ => (pdg_name (i := 3) sc__law_times.nd rfl (by first | exact Or.inl rfl | exact Or.inr rfl) (by decide))) (fun _ _ _ _ _ => pdts_nil) (fun _ _ _ _ _ => (pd_fn (ok__law_dot T) (hr.mono (by decide)) (pda_cons (pd_var 3) (pda_cons (pd_var 1) (pda_cons (pd_var 2) pda_nil))))))))) (rd__law_times c)
theorem ok__law_row (T : Txt mg c) : FnC P w c.K mg base 3 "_law_row" ["net", "rows", "letter"] (sp__law_row c) :=
  FnC.mk T.d__law_row sc__law_row (by decide) (len__law_row c) (fun f cdv A outer s H E hr => (pss_consD (pds_set (i := 3) sc__law_row.nd rfl (by first | exact Or.inl rfl | exact Or.inr rfl) (pd_ix ixd (pd_var 0) pd_int))
  (pss_consD (by first | exact pds_setLc (i := 4) rfl sc__law_row.nd rfl rfl (sw_true rfl rfl rfl (by decide +kernel)) (own := [("k", 14)]) (pdi_rg1 T.b_range (pd_callB cd_len T.b_len (by decide +kernel) (pda_cons (pd_ix ixd (pd_var 0) pd_int) pda_nil))) (blkOk_by (N := N__law_row_) (sc := defScope s__law_row) (by decide +kernel)) (fun _ _ _ _ _ => (pdg_name (i := 14) sc__law_row.nd rfl (by first | exact Or.inl rfl | exact Or.inr rfl) (by decide))) (fun _ _ _ _ _ => pdts_nil) (fun _ _ _ _ _ => (pd_op opd_mod (pd_callTy cd_int T.b_int (by decide +kernel) (pda_cons (pd_op opd_add (pd_ix ixd (pd_ix ixd (pd_ix ixd (pd_var 0) pd_int) (pd_var 2)) (pd_var 14)) (pd_op opd_mul (pd_callB cd_len T.b_len (by decide +kernel) (pda_cons (pd_var 1) pda_nil)) (pd_ix ixd (pd_ix ixd (pd_var 0) pd_int) (pd_var 14)))) pda_nil)) (pd_var 3))) | exact pds_set (i := 4) sc__law_row.nd rfl (by first | exact Or.inl rfl | exact Or.inr rfl) (pd_lc (own := [("k", 14)]) rfl sc__law_row.nd (pdi_rg1 T.b_range (pd_callB cd_len T.b_len (by decide +kernel) (pda_cons (pd_ix ixd (pd_var 0) pd_int) pda_nil))) (blkOk_by (N := N__law_row_) (sc := defScope s__law_row) (by decide +kernel)) (fun _ _ _ _ _ => (pdg_name (i := 14) sc__law_row.nd rfl (by first | exact Or.inl rfl | exact Or.inr rfl) (by decide))) (fun _ _ _ _ _ => pdts_nil) (fun _ _ _ _ _ => (pd_op opd_mod (pd_callTy cd_int T.b_int (by decide +kernel) (pda_cons (pd_op opd_add (pd_ix ixd (pd_ix ixd (pd_ix ixd (pd_var 0) pd_int) (pd_var 2)) (pd_var 14)) (pd_op opd_mul (pd_callB cd_len T.b_len (by decide +kernel) (pda_cons (pd_var 1) pda_nil)) (pd_ix ixd (pd_ix ixd (pd_var 0) pd_int) (pd_var 14)))) pda_nil)) (pd_var 3)))))
  (pss_consD (pds_set (i := 5) sc__law_row.nd rfl (by first | exact Or.inl rfl | exact Or.inr rfl) (pd_lstM pda_nil))
  (pss_consD (pds_for (vs := (List.range 17)) rfl (passes_of rfl) (pdi_rg1 T.b_range (pd_callB cd_len T.b_len (by decide +kernel) (pda_cons (pd_ix ixd (pd_var 0) pd_int) pda_nil))) (pdg_name (i := 6) sc__law_row.nd rfl (by first | exact Or.inl rfl | exact Or.inr rfl) (by decide)) (pss_consD (pds_set (i := 7) sc__law_row.nd rfl (by first | exact Or.inl rfl | exact Or.inr rfl) (pd_ix ixd (pd_ix ixd (pd_var 0) pd_int) (pd_var 6)))
  (pss_consD (pds_set (i := 8) sc__law_row.nd rfl (by first | exact Or.inl rfl | exact Or.inr rfl) (pd_fn (ok__law_times T) (hr.mono (by decide)) (pda_cons (pd_ix ixd (pd_var 7) pd_int) (pda_cons (pd_var 4) (pda_cons (pd_var 3) pda_nil)))))
  (pss_consD (pds_set (i := 9) sc__law_row.nd rfl (by first | exact Or.inl rfl | exact Or.inr rfl) (pd_tup (pda_cons (pd_callTy cd_tuple T.b_tuple (by decide +kernel) (pda_cons (pd_fn (ok__law_times T) (hr.mono (by decide)) (pda_cons (pd_ix ixd (pd_var 7) pd_int) (pda_cons (pd_var 4) (pda_cons (pd_var 3) pda_nil)))) pda_nil)) (pda_cons (pd_callTy cd_tuple T.b_tuple (by decide +kernel) (pda_cons (pd_fn (ok__law_times T) (hr.mono (by decide)) (pda_cons (pd_ix ixd (pd_var 7) pd_int) (pda_cons (pd_var 4) (pda_cons (pd_var 3) pda_nil)))) pda_nil)) pda_nil))))
  (pss_consD (pds_for (vs := (List.range 17)) rfl (passes_of rfl) (pdi_seq (pd_op opd_add (pd_lc (own := [("row", 15)]) rfl sc__law_row.nd (pdi_seq (pd_var 1)) (blkOk_by (N := N__law_row_) (sc := defScope s__law_row) (by decide +kernel)) (fun _ _ _ _ _ => (pdg_name (i := 15) sc__law_row.nd rfl (by first | exact Or.inl rfl | exact Or.inr rfl) (by decide))) (fun _ _ _ _ _ => pdts_nil) (fun _ _ _ _ _ => (pd_ix ixd (pd_ix ixd (pd_var 15) pd_int) (pd_var 6)))) (pd_lst (pda_cons (pd_var 9) pda_nil)))) (pdg_name (i := 10) sc__law_row.nd rfl (by first | exact Or.inl rfl | exact Or.inr rfl) (by decide)) (pss_consD (pds_set (i := 11) sc__law_row.nd rfl (by first | exact Or.inl rfl | exact Or.inr rfl) (pd_fn (ok__law_dot T) (hr.mono (by decide)) (pda_cons (pd_var 8) (pda_cons (pd_ix ixd (pd_var 10) pd_int) (pda_cons (pd_var 3) pda_nil)))))
  (pss_oneD (by first | exact pds_setLc (i := 4) rfl sc__law_row.nd rfl rfl (sw_true rfl rfl rfl (by decide +kernel)) (own := [("k", 14)]) (pdi_rg1 T.b_range (pd_callB cd_len T.b_len (by decide +kernel) (pda_cons (pd_var 4) pda_nil))) (blkOk_by (N := N__law_row_) (sc := defScope s__law_row) (by decide +kernel)) (fun _ _ _ _ _ => (pdg_name (i := 14) sc__law_row.nd rfl (by first | exact Or.inl rfl | exact Or.inr rfl) (by decide))) (fun _ _ _ _ _ => pdts_nil) (fun _ _ _ _ _ => (pd_op opd_mod (pd_callTy cd_int T.b_int (by decide +kernel) (pda_cons (pd_op opd_add (pd_ix ixd (pd_var 4) (pd_var 14)) (pd_op opd_mul (pd_var 11) (pd_ix ixd (pd_ix ixd (pd_var 10) pd_int) (pd_var 14)))) pda_nil)) (pd_var 3))) | exact pds_set (i := 4) sc__law_row.nd rfl (by first | exact Or.inl rfl | exact Or.inr rfl) (pd_lc (own := [("k", 14)]) rfl sc__law_row.nd (pdi_rg1 T.b_range (pd_callB cd_len T.b_len (by decide +kernel) (pda_cons (pd_var 4) pda_nil))) (blkOk_by (N := N__law_row_) (sc := defScope s__law_row) (by decide +kernel)) (fun _ _ _ _ _ => (pdg_name (i := 14) sc__law_row.nd rfl (by first | exact Or.inl rfl | exact Or.inr rfl) (by decide))) (fun _ _ _ _ _ => pdts_nil) (fun _ _ _ _ _ => (pd_op opd_mod (pd_callTy cd_int T.b_int (by decide +kernel) (pda_cons (pd_op opd_add (pd_ix ixd (pd_var 4) (pd_var 14)) (pd_op opd_mul (pd_var 11) (pd_ix ixd (pd_ix ixd (pd_var 10) pd_int) (pd_var 14)))) pda_nil)) (pd_var 3))))))))
  (pss_consD (by first | exact pds_setLc (i := 12) rfl sc__law_row.nd rfl rfl (sw_true rfl rfl rfl (by decide +kernel)) (own := [("one", 16)]) (pdi_seq (pd_fn (ok__law_times T) (hr.mono (by decide)) (pda_cons (pd_ix ixd (pd_var 7) pd_int) (pda_cons (pd_var 4) (pda_cons (pd_var 3) pda_nil))))) (blkOk_by (N := N__law_row_) (sc := defScope s__law_row) (by decide +kernel)) (fun _ _ _ _ _ => (pdg_name (i := 16) sc__law_row.nd rfl (by first | exact Or.inl rfl | exact Or.inr rfl) (by decide))) (fun _ _ _ _ _ => pdts_nil) (fun _ _ _ _ _ => (pd_op opd_mul (pd_var 16) (pd_var 16))) | exact pds_set (i := 12) sc__law_row.nd rfl (by first | exact Or.inl rfl | exact Or.inr rfl) (pd_lc (own := [("one", 16)]) rfl sc__law_row.nd (pdi_seq (pd_fn (ok__law_times T) (hr.mono (by decide)) (pda_cons (pd_ix ixd (pd_var 7) pd_int) (pda_cons (pd_var 4) (pda_cons (pd_var 3) pda_nil))))) (blkOk_by (N := N__law_row_) (sc := defScope s__law_row) (by decide +kernel)) (fun _ _ _ _ _ => (pdg_name (i := 16) sc__law_row.nd rfl (by first | exact Or.inl rfl | exact Or.inr rfl) (by decide))) (fun _ _ _ _ _ => pdts_nil) (fun _ _ _ _ _ => (pd_op opd_mul (pd_var 16) (pd_var 16)))))
  (pss_consD (pds_set (i := 13) sc__law_row.nd rfl (by first | exact Or.inl rfl | exact Or.inr rfl) (pd_fn (ok__law_times T) (hr.mono (by decide)) (pda_cons (pd_ix ixd (pd_var 7) pd_int) (pda_cons (pd_var 12) (pda_cons (pd_var 3) pda_nil)))))
  (pss_consD (by first | exact pds_setLc (i := 4) rfl sc__law_row.nd rfl rfl (sw_true rfl rfl rfl (by decide +kernel)) (own := [("k", 14)]) (pdi_rg1 T.b_range (pd_callB cd_len T.b_len (by decide +kernel) (pda_cons (pd_var 4) pda_nil))) (blkOk_by (N := N__law_row_) (sc := defScope s__law_row) (by decide +kernel)) (fun _ _ _ _ _ => (pdg_name (i := 14) sc__law_row.nd rfl (by first | exact Or.inl rfl | exact Or.inr rfl) (by decide))) (fun _ _ _ _ _ => pdts_nil) (fun _ _ _ _ _ => (pd_op opd_mod (pd_callTy cd_int T.b_int (by decide +kernel) (pda_cons (pd_op opd_add (pd_ix ixd (pd_var 4) (pd_var 14)) (pd_ix ixd (pd_var 13) (pd_var 14))) pda_nil)) (pd_var 3))) | exact pds_set (i := 4) sc__law_row.nd rfl (by first | exact Or.inl rfl | exact Or.inr rfl) (pd_lc (own := [("k", 14)]) rfl sc__law_row.nd (pdi_rg1 T.b_range (pd_callB cd_len T.b_len (by decide +kernel) (pda_cons (pd_var 4) pda_nil))) (blkOk_by (N := N__law_row_) (sc := defScope s__law_row) (by decide +kernel)) (fun _ _ _ _ _ => (pdg_name (i := 14) sc__law_row.nd rfl (by first | exact Or.inl rfl | exact Or.inr rfl) (by decide))) (fun _ _ _ _ _ => pdts_nil) (fun _ _ _ _ _ => (pd_op opd_mod (pd_callTy cd_int T.b_int (by decide +kernel) (pda_cons (pd_op opd_add (pd_ix ixd (pd_var 4) (pd_var 14)) (pd_ix ixd (pd_var 13) (pd_var 14))) pda_nil)) (pd_var 3)))))
  (pss_oneD (pds_drop (pd_lm PySem.F.slot_list_append PySem.F.type_list_append md_append (pd_var 5) (pda_cons (pd_var 9) pda_nil))))))))))))
  (pss_oneD (pds_ret (pd_tup (pda_cons (pd_callTy cd_tuple T.b_tuple (by decide +kernel) (pda_cons (pd_var 5) pda_nil)) (pda_cons (pd_callTy cd_tuple T.b_tuple (by decide +kernel) (pda_cons (pd_lc (own := [("one", 16)]) rfl sc__law_row.nd (pdi_seq (pd_ix ixd (pd_var 0) pd_int)) (blkOk_by (N := N__law_row_) (sc := defScope s__law_row) (by decide +kernel)) (fun _ _ _ _ _ => (pdg_name (i := 16) sc__law_row.nd rfl (by first | exact Or.inl rfl | exact Or.inr rfl) (by decide))) (fun _ _ _ _ _ => pdts_nil) (fun _ _ _ _ _ => (pd_op opd_add (pd_fn (ok__law_dot T) (hr.mono (by decide)) (pda_cons (pd_var 16) (pda_cons (pd_var 4) (pda_cons (pd_var 3) pda_nil)))) pd_int))) pda_nil)) pda_nil)))))))))) (rd__law_row c)
theorem ok__law_rows (T : Txt mg c) : FnC P w c.K mg base 4 "_law_rows" ["net", "letters"] (sp__law_rows c) :=
  FnC.mk T.d__law_rows sc__law_rows (by decide) (len__law_rows c) (fun f cdv A outer s H E hr => (pss_consD (pds_set (i := 2) sc__law_rows.nd rfl (by first | exact Or.inl rfl | exact Or.inr rfl) (pd_lstM pda_nil))
  (pss_consD (pds_for (vs := (List.range 4)) rfl (passes_of rfl) (pdi_seq (pd_var 1)) (pdg_name (i := 3) sc__law_rows.nd rfl (by first | exact Or.inl rfl | exact Or.inr rfl) (by decide)) (pss_oneD (pds_drop (pd_lm PySem.F.slot_list_append PySem.F.type_list_append md_append (pd_var 2) (pda_cons (pd_fn (ok__law_row T) (hr.mono (by decide)) (pda_cons (pd_var 0) (pda_cons (pd_var 2) (pda_cons (pd_var 3) pda_nil)))) pda_nil)))))
  (pss_oneD (pds_ret (pd_var 2)))))) (rd__law_rows c)
theorem ok__law_after (T : Txt mg c) : FnC P w c.K mg base 1 "_law_after" ["rule", "text"] (sp__law_after c) :=
  FnC.mk T.d__law_after sc__law_after (by decide) (len__law_after c) (fun f cdv A outer s H E hr => (pss_consD (pds_set (i := 2) sc__law_after.nd rfl (by first | exact Or.inl rfl | exact Or.inr rfl) (pd_ix ixd (pd_var 0) pd_int))
  (pss_consD (pds_for (vs := (List.range 4)) rfl (passes_of rfl) (pdi_seq (pd_var 1)) (pdg_name (i := 3) sc__law_after.nd rfl (by first | exact Or.inl rfl | exact Or.inr rfl) (by decide)) (pss_oneD (pds_if (pdt_cmp opd_notN (pd_var 2) pd_non (nomark _)) (pss_oneD (pds_set (i := 2) sc__law_after.nd rfl (by first | exact Or.inl rfl | exact Or.inr rfl) (pd_ix ixd (pd_ix ixd (pd_ix ixd (pd_var 0) pd_int) (pd_var 2)) (pd_var 3)))) pss_nilD)))
  (pss_oneD (pds_ret (pd_var 2)))))) (rd__law_after c)
theorem ok__law_counted (T : Txt mg c) : FnC P w c.K mg base 2 "_law_counted" ["weights", "rule", "text"] (sp__law_counted c) :=
  FnC.mk T.d__law_counted sc__law_counted (by decide) (len__law_counted c) (fun f cdv A outer s H E hr => (pss_consD (pds_set (i := 3) sc__law_counted.nd rfl (by first | exact Or.inl rfl | exact Or.inr rfl) (pd_callTy cd_listM T.b_list (by decide +kernel) (pda_cons (pd_var 0) pda_nil)))
  (pss_consD (pds_if (pdt_cmp opd_notN (pd_var 1) pd_non (nomark _)) (pss_consD (pds_set (i := 4) sc__law_counted.nd rfl (by first | exact Or.inl rfl | exact Or.inr rfl) (pd_fn (ok__law_after T) (hr.mono (by decide)) (pda_cons (pd_var 1) (pda_cons (pd_var 2) pda_nil))))
  (pss_oneD (pds_for (vs := (List.range 6)) rfl (passes_of rfl) (pdi_rg1 T.b_range (pd_callB cd_len T.b_len (by decide +kernel) (pda_cons (pd_var 0) pda_nil))) (pdg_name (i := 5) sc__law_counted.nd rfl (by first | exact Or.inl rfl | exact Or.inr rfl) (by decide)) (pss_oneD (pds_if (PDw.pt (pdw_or (pdt_cmp opd_isN (pd_var 4) pd_non (nomark _)) (pdw_or1 (pdt_cmp opd_isN (pd_ix ixd (pd_ix ixd (pd_ix ixd (pd_var 1) pd_int) (pd_var 4)) (pd_var 5)) pd_non (nomark _))))) (pss_oneD (pds_setI (pd_var 3) (pd_var 5) pd_int)) pss_nilD))))) pss_nilD)
  (pss_oneD (pds_ret (pd_var 3)))))) (rd__law_counted c)
theorem ok__law_choice (T : Txt mg c) : FnC P w c.K mg base 3 "_law_choice" ["weights", "rule", "tape", "text"] (sp__law_choice c) :=
  FnC.mk T.d__law_choice sc__law_choice (by decide) (len__law_choice c) (fun f cdv A outer s H E hr => (pss_consD (pds_set (i := 4) sc__law_choice.nd rfl (by first | exact Or.inl rfl | exact Or.inr rfl) (pd_fn (ok__law_counted T) (hr.mono (by decide)) (pda_cons (pd_var 0) (pda_cons (pd_var 1) (pda_cons (pd_var 3) pda_nil)))))
  (pss_consD (pds_if (pdt_cmp (opd_eq hr.units) (pd_callB (cd_sum rfl) T.b_sum (by decide +kernel) (pda_cons (pd_var 4) pda_nil)) pd_int (nomark _)) (pss_oneD (pds_ret pd_non)) pss_nilD)
  (pss_consD (pds_if (pdt_cmp (opd_eq hr.units) (pd_callB cd_len T.b_len (by decide +kernel) (pda_cons (pd_var 2) pda_nil)) pd_int (nomark _)) (pss_oneD (pds_ret (pd_lm PySem.F.slot_list_index PySem.F.type_list_index (md_index hr.units) (pd_var 4) (pda_cons (pd_callB (cd_maxL rfl) T.b_max (by decide +kernel) (pda_cons (pd_var 4) pda_nil)) pda_nil)))) pss_nilD)
  (pss_consD (pds_set (i := 5) sc__law_choice.nd rfl (by first | exact Or.inl rfl | exact Or.inr rfl) (pd_op opd_mod (pd_callTy cd_int T.b_int (by decide +kernel) (pda_cons (pd_ix ixd (pd_var 2) (pd_op opd_mod (pd_callTy cd_int T.b_int (by decide +kernel) (pda_cons (pd_callB cd_len T.b_len (by decide +kernel) (pda_cons (pd_var 3) pda_nil)) pda_nil)) (pd_callB cd_len T.b_len (by decide +kernel) (pda_cons (pd_var 2) pda_nil)))) pda_nil)) (pd_callB (cd_sum rfl) T.b_sum (by decide +kernel) (pda_cons (pd_var 4) pda_nil))))
  (pss_consD (pds_set (i := 6) sc__law_choice.nd rfl (by first | exact Or.inl rfl | exact Or.inr rfl) pd_int)
  (pss_consD (pds_for (vs := (List.range 8)) rfl (passes_of rfl) (pdi_rg1 T.b_range (pd_callB cd_len T.b_len (by decide +kernel) (pda_cons (pd_var 4) pda_nil))) (pdg_name (i := 7) sc__law_choice.nd rfl (by first | exact Or.inl rfl | exact Or.inr rfl) (by decide)) (pss_oneD (pds_if (pdt_cmp opd_ge (pd_var 5) (pd_callB (cd_sum rfl) T.b_sum (by decide +kernel) (pda_cons (pd_slice (pd_var 4) pdo_none (pdo_some (pd_op opd_add (pd_var 7) pd_int))) pda_nil)) (nomark _)) (pss_oneD (pds_set (i := 6) sc__law_choice.nd rfl (by first | exact Or.inl rfl | exact Or.inr rfl) (pd_op opd_add (pd_var 7) pd_int))) pss_nilD)))
  (pss_oneD (pds_ret (pd_var 6)))))))))) (rd__law_choice c)
theorem ok__law_rule (T : Txt mg c) : FnC P w c.K mg base 1 "_law_rule" ["numbers", "k", "letters"] (sp__law_rule c) :=
  FnC.mk T.d__law_rule sc__law_rule (by decide) (len__law_rule c) (fun f cdv A outer s H E hr => (pss_consD (pds_if (pdt_cmp opd_gt (pd_op opd_mod (pd_callTy cd_int T.b_int (by decide +kernel) (pda_cons (pd_ix ixd (pd_var 0) (pd_var 1)) pda_nil)) pd_int) pd_int (nomark _)) (pss_oneD (pds_ret pd_non)) pss_nilD)
  (pss_consD (pds_set (i := 3) sc__law_rule.nd rfl (by first | exact Or.inl rfl | exact Or.inr rfl) (pd_op opd_add pd_int (pd_op opd_mod (pd_callTy cd_int T.b_int (by decide +kernel) (pda_cons (pd_ix ixd (pd_var 0) (pd_op opd_add (pd_var 1) pd_int)) pda_nil)) pd_int)))
  (pss_consD (pds_set (i := 4) sc__law_rule.nd rfl (by first | exact Or.inl rfl | exact Or.inr rfl) (pd_lstM pda_nil))
  (pss_consD (pds_for (vs := (List.range 9)) rfl (passes_of rfl) (pdi_rg1 T.b_range (pd_var 3)) (pdg_name (i := 5) sc__law_rule.nd rfl (by first | exact Or.inl rfl | exact Or.inr rfl) (by decide)) (pss_consD (pds_set (i := 6) sc__law_rule.nd rfl (by first | exact Or.inl rfl | exact Or.inr rfl) (pd_lstM pda_nil))
  (pss_consD (pds_for (vs := (List.range 9)) rfl (passes_of rfl) (pdi_rg1 T.b_range (pd_var 2)) (pdg_name (i := 7) sc__law_rule.nd rfl (by first | exact Or.inl rfl | exact Or.inr rfl) (by decide)) (pss_consD (pds_set (i := 8) sc__law_rule.nd rfl (by first | exact Or.inl rfl | exact Or.inr rfl) (pd_ix ixd (pd_var 0) (pd_op opd_add (pd_op opd_add (pd_op opd_add (pd_var 1) pd_int) (pd_op opd_mul (pd_var 5) (pd_var 2))) (pd_var 7))))
  (pss_oneD (pds_drop (pd_lm PySem.F.slot_list_append PySem.F.type_list_append md_append (pd_var 6) (pda_cons (pd_ix ixd (pd_lst (pda_cons (pd_op opd_mod (pd_callTy cd_int T.b_int (by decide +kernel) (pda_cons (pd_var 8) pda_nil)) (pd_var 3)) (pda_cons (pd_op opd_mod (pd_callTy cd_int T.b_int (by decide +kernel) (pda_cons (pd_var 8) pda_nil)) (pd_var 3)) (pda_cons (pd_op opd_mod (pd_callTy cd_int T.b_int (by decide +kernel) (pda_cons (pd_var 8) pda_nil)) (pd_var 3)) (pda_cons pd_non pda_nil))))) (pd_op opd_mod (pd_callTy cd_int T.b_int (by decide +kernel) (pda_cons (pd_op opd_div (pd_var 8) pd_int) pda_nil)) pd_int)) pda_nil))))))
  (pss_oneD (pds_drop (pd_lm PySem.F.slot_list_append PySem.F.type_list_append md_append (pd_var 4) (pda_cons (pd_callTy cd_tuple T.b_tuple (by decide +kernel) (pda_cons (pd_var 6) pda_nil)) pda_nil)))))))
  (pss_oneD (pds_ret (pd_tup (pda_cons (pd_op opd_mod (pd_callTy cd_int T.b_int (by decide +kernel) (pda_cons (pd_ix ixd (pd_var 0) (pd_op opd_add (pd_var 1) pd_int)) pda_nil)) (pd_var 3)) (pda_cons (pd_callTy cd_tuple T.b_tuple (by decide +kernel) (pda_cons (pd_var 4) pda_nil)) pda_nil)))))))))) (rd__law_rule c)
theorem ok__law_stops (T : Txt mg c) : FnC P w c.K mg base 1 "_law_stops" ["numbers", "k", "letters"] (sp__law_stops c) :=
  FnC.mk T.d__law_stops sc__law_stops (by decide) (len__law_stops c) (fun f cdv A outer s H E hr => (pss_consD (pds_set (i := 3) sc__law_stops.nd rfl (by first | exact Or.inl rfl | exact Or.inr rfl) (pd_lstM pda_nil))
  (pss_consD (pds_for (vs := (List.range 7)) rfl (passes_of rfl) (pdi_rg1 T.b_range (pd_ix ixd (pd_lst (pda_cons pd_int (pda_cons pd_int (pda_cons pd_int (pda_cons pd_int (pda_cons pd_int (pda_cons pd_int pda_nil))))))) (pd_op opd_mod (pd_callTy cd_int T.b_int (by decide +kernel) (pda_cons (pd_ix ixd (pd_var 0) (pd_var 1)) pda_nil)) pd_int))) (pdg_name (i := 4) sc__law_stops.nd rfl (by first | exact Or.inl rfl | exact Or.inr rfl) (by decide)) (pss_consD (pds_set (i := 5) sc__law_stops.nd rfl (by first | exact Or.inl rfl | exact Or.inr rfl) (pd_lstM pda_nil))
  (pss_consD (pds_for (vs := (List.range 7)) rfl (passes_of rfl) (pdi_rg1 T.b_range (pd_op opd_add pd_int (pd_op opd_mod (pd_callTy cd_int T.b_int (by decide +kernel) (pda_cons (pd_ix ixd (pd_var 0) (pd_op opd_add (pd_op opd_add (pd_var 1) pd_int) (pd_op opd_mul pd_int (pd_var 4)))) pda_nil)) pd_int))) (pdg_name (i := 6) sc__law_stops.nd rfl (by first | exact Or.inl rfl | exact Or.inr rfl) (by decide)) (pss_oneD (pds_drop (pd_lm PySem.F.slot_list_append PySem.F.type_list_append md_append (pd_var 5) (pda_cons (pd_op opd_mod (pd_callTy cd_int T.b_int (by decide +kernel) (pda_cons (pd_ix ixd (pd_var 0) (pd_op opd_add (pd_op opd_add (pd_op opd_add (pd_var 1) pd_int) (pd_op opd_mul pd_int (pd_var 4))) (pd_var 6))) pda_nil)) (pd_var 2)) pda_nil)))))
  (pss_oneD (pds_drop (pd_lm PySem.F.slot_list_append PySem.F.type_list_append md_append (pd_var 3) (pda_cons (pd_callTy cd_tuple T.b_tuple (by decide +kernel) (pda_cons (pd_var 5) pda_nil)) pda_nil)))))))
  (pss_oneD (pds_ret (pd_callTy cd_tuple T.b_tuple (by decide +kernel) (pda_cons (pd_var 3) pda_nil))))))) (rd__law_stops c)
theorem ok__law_tape (T : Txt mg c) : FnC P w c.K mg base 1 "_law_tape" ["numbers", "k"] (sp__law_tape c) :=
  FnC.mk T.d__law_tape sc__law_tape (by decide) (len__law_tape c) (fun f cdv A outer s H E hr => (pss_consD (pds_set (i := 2) sc__law_tape.nd rfl (by first | exact Or.inl rfl | exact Or.inr rfl) (pd_lstM pda_nil))
  (pss_consD (pds_for (vs := (List.range 4)) rfl (passes_of rfl) (pdi_rg1 T.b_range (pd_ix ixd (pd_lst (pda_cons pd_int (pda_cons pd_int (pda_cons pd_int (pda_cons pd_int (pda_cons (pd_op opd_mod (pd_callTy cd_int T.b_int (by decide +kernel) (pda_cons (pd_ix ixd (pd_var 0) (pd_var 1)) pda_nil)) pd_int) pda_nil)))))) (pd_op opd_mod (pd_callTy cd_int T.b_int (by decide +kernel) (pda_cons (pd_op opd_div (pd_ix ixd (pd_var 0) (pd_var 1)) pd_int) pda_nil)) pd_int))) (pdg_name (i := 3) sc__law_tape.nd rfl (by first | exact Or.inl rfl | exact Or.inr rfl) (by decide)) (pss_oneD (pds_drop (pd_lm PySem.F.slot_list_append PySem.F.type_list_append md_append (pd_var 2) (pda_cons (pd_op opd_add (pd_op opd_mul (pd_ix ixd (pd_var 0) (pd_op opd_add (pd_op opd_add (pd_var 1) pd_int) (pd_op opd_mul pd_int (pd_var 3)))) pd_int) (pd_ix ixd (pd_var 0) (pd_op opd_add (pd_op opd_add (pd_var 1) pd_int) (pd_op opd_mul pd_int (pd_var 3))))) pda_nil)))))
  (pss_oneD (pds_ret (pd_callTy cd_tuple T.b_tuple (by decide +kernel) (pda_cons (pd_var 2) pda_nil))))))) (rd__law_tape c)
theorem ok__law_ask (T : Txt mg c) : FnC P w c.K mg base 2 "_law_ask" ["numbers", "letters"] (sp__law_ask c) :=
  FnC.mk T.d__law_ask sc__law_ask (by decide) (len__law_ask c) (fun f cdv A outer s H E hr => (pss_consD (pds_set (i := 2) sc__law_ask.nd rfl (by first | exact Or.inl rfl | exact Or.inr rfl) (pd_lstM pda_nil))
  (pss_consD (pds_for (vs := (List.range 6)) rfl (passes_of rfl) (pdi_rg1 T.b_range (pd_ix ixd (pd_lst (pda_cons pd_int (pda_cons pd_int (pda_cons pd_int (pda_cons (pd_op opd_add pd_int (pd_op opd_mod (pd_callTy cd_int T.b_int (by decide +kernel) (pda_cons (pd_ix ixd (pd_var 0) pd_int) pda_nil)) pd_int)) pda_nil))))) (pd_op opd_mod (pd_callTy cd_int T.b_int (by decide +kernel) (pda_cons (pd_ix ixd (pd_var 0) pd_int) pda_nil)) pd_int))) (pdg_name (i := 3) sc__law_ask.nd rfl (by first | exact Or.inl rfl | exact Or.inr rfl) (by decide)) (pss_oneD (pds_drop (pd_lm PySem.F.slot_list_append PySem.F.type_list_append md_append (pd_var 2) (pda_cons (pd_op opd_mod (pd_callTy cd_int T.b_int (by decide +kernel) (pda_cons (pd_ix ixd (pd_var 0) (pd_op opd_add pd_int (pd_var 3))) pda_nil)) (pd_var 1)) pda_nil)))))
  (pss_consD (pds_set (i := 4) sc__law_ask.nd rfl (by first | exact Or.inl rfl | exact Or.inr rfl) (pd_ix ixd (pd_lst (pda_cons pd_int (pda_cons pd_int (pda_cons pd_int (pda_cons (pd_op opd_add pd_int (pd_op opd_mod (pd_callTy cd_int T.b_int (by decide +kernel) (pda_cons (pd_ix ixd (pd_var 0) pd_int) pda_nil)) pd_int)) pda_nil))))) (pd_op opd_mod (pd_callTy cd_int T.b_int (by decide +kernel) (pda_cons (pd_ix ixd (pd_var 0) pd_int) pda_nil)) pd_int)))
  (pss_consD (pds_set (i := 5) sc__law_ask.nd rfl (by first | exact Or.inl rfl | exact Or.inr rfl) (pd_fn (ok__law_stops T) (hr.mono (by decide)) (pda_cons (pd_var 0) (pda_cons pd_int (pda_cons (pd_var 1) pda_nil)))))
  (pss_oneD (pds_ret (pd_tup (pda_cons (pd_callTy cd_tuple T.b_tuple (by decide +kernel) (pda_cons (pd_var 2) pda_nil)) (pda_cons (pd_var 4) (pda_cons (pd_var 5) (pda_cons (pd_fn (ok__law_tape T) (hr.mono (by decide)) (pda_cons (pd_var 0) (pda_cons pd_int pda_nil))) (pda_cons (pd_fn (ok__law_rule T) (hr.mono (by decide)) (pda_cons (pd_var 0) (pda_cons pd_int (pda_cons (pd_var 1) pda_nil)))) pda_nil))))))))))))) (rd__law_ask c)
theorem ok__law_ends (T : Txt mg c) : FnC P w c.K mg base 1 "_law_ends" ["text", "stop"] (sp__law_ends c) :=
  FnC.mk T.d__law_ends sc__law_ends (by decide) (len__law_ends c) (fun f cdv A outer s H E hr => (pss_oneD (pds_ret (pd_and (pd_cmp opd_le (pd_callB cd_len T.b_len (by decide +kernel) (pda_cons (pd_var 1) pda_nil)) (pd_callB cd_len T.b_len (by decide +kernel) (pda_cons (pd_var 0) pda_nil)) (nomark _)) (pd_one (pd_cmp (opd_eq hr.units) (pd_callTy cd_tuple T.b_tuple (by decide +kernel) (pda_cons (pd_slice (pd_var 0) (pdo_some (pd_op opd_sub (pd_callB cd_len T.b_len (by decide +kernel) (pda_cons (pd_var 0) pda_nil)) (pd_callB cd_len T.b_len (by decide +kernel) (pda_cons (pd_var 1) pda_nil)))) pdo_none) pda_nil)) (pd_callTy cd_tuple T.b_tuple (by decide +kernel) (pda_cons (pd_var 1) pda_nil)) (nomark _))))))) (rd__law_ends c)
theorem ok__law_stopped (T : Txt mg c) : FnC P w c.K mg base 2 "_law_stopped" ["text", "stops"] (sp__law_stopped c) :=
  FnC.mk T.d__law_stopped sc__law_stopped (by decide) (len__law_stopped c) (fun f cdv A outer s H E hr => (pss_consD (pds_set (i := 2) sc__law_stopped.nd rfl (by first | exact Or.inl rfl | exact Or.inr rfl) pd_int)
  (pss_consD (pds_for (vs := (List.range 4)) rfl (passes_of rfl) (pdi_seq (pd_var 1)) (pdg_name (i := 3) sc__law_stopped.nd rfl (by first | exact Or.inl rfl | exact Or.inr rfl) (by decide)) (pss_oneD (pds_if (pdt_val (pd_fn (ok__law_ends T) (hr.mono (by decide)) (pda_cons (pd_var 0) (pda_cons (pd_var 3) pda_nil)))) (pss_oneD (pds_set (i := 2) sc__law_stopped.nd rfl (by first | exact Or.inl rfl | exact Or.inr rfl) (pd_callB (cd_max2 rfl) T.b_max (by decide +kernel) (pda_cons (pd_var 2) (pda_cons (pd_callB cd_len T.b_len (by decide +kernel) (pda_cons (pd_var 3) pda_nil)) pda_nil))))) pss_nilD)))
  (pss_oneD (pds_ret (pd_var 2)))))) (rd__law_stopped c)
theorem ok__law_written (T : Txt mg c) : FnC P w c.K mg base 5 "_law_written" ["net", "end", "ask", "begun"] (sp__law_written c) :=
  FnC.mk T.d__law_written sc__law_written (by decide) (len__law_written c) (fun f cdv A outer s H E hr => (pss_consD (pds_set (i := 4) sc__law_written.nd rfl (by first | exact Or.inl rfl | exact Or.inr rfl) (pd_fn (ok__law_rows T) (hr.mono (by decide)) (pda_cons (pd_var 0) (pda_cons (pd_op opd_add (pd_callTy cd_list T.b_list (by decide +kernel) (pda_cons (pd_ix ixd (pd_var 2) pd_int) pda_nil)) (pd_callTy cd_list T.b_list (by decide +kernel) (pda_cons (pd_var 3) pda_nil))) pda_nil))))
  (pss_consD (pds_set (i := 5) sc__law_written.nd rfl (by first | exact Or.inl rfl | exact Or.inr rfl) (pd_callTy cd_listM T.b_list (by decide +kernel) (pda_cons (pd_var 3) pda_nil)))
  (pss_consD (pds_for (vs := (List.range 9)) rfl (passes_of rfl) (pdi_rg1 T.b_range pd_int) (pdg_name (i := 6) sc__law_written.nd rfl (by first | exact Or.inl rfl | exact Or.inr rfl) (by decide)) (pss_consD (pds_set (i := 7) sc__law_written.nd rfl (by first | exact Or.inl rfl | exact Or.inr rfl) (pd_fn (ok__law_choice T) (hr.mono (by decide)) (pda_cons (pd_ix ixd (pd_ix ixd (pd_var 4) (pd_un und_neg pd_int)) pd_int) (pda_cons (pd_ix ixd (pd_var 2) pd_int) (pda_cons (pd_ix ixd (pd_var 2) pd_int) (pda_cons (pd_var 5) pda_nil))))))
  (pss_consD (pds_if (pdt_cmp opd_isN (pd_var 7) pd_non (nomark _)) (pss_oneD (pds_ret (pd_tup (pda_cons (pd_callTy cd_tuple T.b_tuple (by decide +kernel) (pda_cons (pd_var 5) pda_nil)) (pda_cons pd_str pda_nil))))) pss_nilD)
  (pss_consD (pds_if (pdt_cmp (opd_eq hr.units) (pd_var 7) (pd_var 1) (nomark _)) (pss_oneD (pds_ret (pd_tup (pda_cons (pd_callTy cd_tuple T.b_tuple (by decide +kernel) (pda_cons (pd_var 5) pda_nil)) (pda_cons pd_str pda_nil))))) pss_nilD)
  (pss_consD (pds_drop (pd_lm PySem.F.slot_list_append PySem.F.type_list_append md_append (pd_var 5) (pda_cons (pd_var 7) pda_nil)))
  (pss_consD (pds_set (i := 8) sc__law_written.nd rfl (by first | exact Or.inl rfl | exact Or.inr rfl) (pd_fn (ok__law_stopped T) (hr.mono (by decide)) (pda_cons (pd_var 5) (pda_cons (pd_ix ixd (pd_var 2) pd_int) pda_nil))))
  (pss_consD (pds_if (pdt_cmp opd_gt (pd_var 8) pd_int (nomark _)) (pss_oneD (pds_ret (pd_tup (pda_cons (pd_callTy cd_tuple T.b_tuple (by decide +kernel) (pda_cons (pd_slice (pd_var 5) pdo_none (pdo_some (pd_op opd_sub (pd_callB cd_len T.b_len (by decide +kernel) (pda_cons (pd_var 5) pda_nil)) (pd_var 8)))) pda_nil)) (pda_cons pd_str pda_nil))))) pss_nilD)
  (pss_consD (pds_if (pdt_cmp (opd_eq hr.units) (pd_callB cd_len T.b_len (by decide +kernel) (pda_cons (pd_var 5) pda_nil)) (pd_ix ixd (pd_var 2) pd_int) (nomark _)) (pss_oneD (pds_ret (pd_tup (pda_cons (pd_callTy cd_tuple T.b_tuple (by decide +kernel) (pda_cons (pd_var 5) pda_nil)) (pda_cons pd_str pda_nil))))) pss_nilD)
  (pss_oneD (pds_drop (pd_lm PySem.F.slot_list_append PySem.F.type_list_append md_append (pd_var 4) (pda_cons (pd_fn (ok__law_row T) (hr.mono (by decide)) (pda_cons (pd_var 0) (pda_cons (pd_var 4) (pda_cons (pd_var 7) pda_nil)))) pda_nil))))))))))))
  (pss_oneD (pds_ret (pd_tup (pda_cons (pd_callTy cd_tuple T.b_tuple (by decide +kernel) (pda_cons (pd_var 5) pda_nil)) (pda_cons pd_str pda_nil))))))))) (rd__law_written c)
theorem ok__law_made (T : Txt mg c) : FnC P w c.K mg base 5 "_law_made" ["ask", "lists"] (sp__law_made c) :=
  FnC.mk T.d__law_made sc__law_made (by decide) (len__law_made c) (fun f cdv A outer s H E hr => (pss_consD (pds_set (i := 2) sc__law_made.nd rfl (by first | exact Or.inl rfl | exact Or.inr rfl) pd_non)
  (pss_consD (pds_if (pdt_cmp opd_notN (pd_ix ixd (pd_var 0) pd_int) pd_non (nomark _)) (pss_oneD (pds_set (i := 2) sc__law_made.nd rfl (by first | exact Or.inl rfl | exact Or.inr rfl) (pd_frz (pd_mk (N := N_Rule) (ok_Rule_init T) T.mk_Rule (by decide +kernel) (by decide) (hr.mono (by decide)) (pda_cons (pd_ix ixd (pd_ix ixd (pd_var 0) pd_int) pd_int) (pda_cons (pd_ix ixd (pd_lst (pda_cons (pd_ix ixd (pd_ix ixd (pd_var 0) pd_int) pd_int) (pda_cons (pd_lc (own := [("row", 3)]) rfl sc__law_made.nd (pdi_seq (pd_ix ixd (pd_ix ixd (pd_var 0) pd_int) pd_int)) (blkOk_by (N := N__law_made_) (sc := defScope s__law_made) (by decide +kernel)) (fun _ _ _ _ _ => (pdg_name (i := 3) sc__law_made.nd rfl (by first | exact Or.inl rfl | exact Or.inr rfl) (by decide))) (fun _ _ _ _ _ => pdts_nil) (fun _ _ _ _ _ => (pd_callTy cd_list T.b_list (by decide +kernel) (pda_cons (pd_var 3) pda_nil)))) pda_nil))) (pd_callTy cd_int T.b_int (by decide +kernel) (pda_cons (pd_var 1) pda_nil))) pda_nil)))))) pss_nilD)
  (pss_consD (pds_if (pdt_val (pd_var 1)) (pss_oneD (pds_ret (pd_frz (pd_mkK (N := N_Ask) (okK_Ask_init_3_stops_tape_rule T) T.mk_Ask (by decide +kernel) (by decide) (hr.mono (by decide)) (pda_cons (pd_callTy cd_list T.b_list (by decide +kernel) (pda_cons (pd_ix ixd (pd_var 0) pd_int) pda_nil)) (pda_cons (pd_ix ixd (pd_var 0) pd_int) pda_nil)) (pdk_cons (pd_lc (own := [("stop", 4)]) rfl sc__law_made.nd (pdi_seq (pd_ix ixd (pd_var 0) pd_int)) (blkOk_by (N := N__law_made_) (sc := defScope s__law_made) (by decide +kernel)) (fun _ _ _ _ _ => (pdg_name (i := 4) sc__law_made.nd rfl (by first | exact Or.inl rfl | exact Or.inr rfl) (by decide))) (fun _ _ _ _ _ => pdts_nil) (fun _ _ _ _ _ => (pd_callTy cd_list T.b_list (by decide +kernel) (pda_cons (pd_var 4) pda_nil)))) (pdk_cons (pd_callTy cd_list T.b_list (by decide +kernel) (pda_cons (pd_ix ixd (pd_var 0) pd_int) pda_nil)) (pdk_cons (pd_var 2) pdk_nil))))))) pss_nilD)
  (pss_oneD (pds_ret (pd_frz (pd_mkK (N := N_Ask) (okK_Ask_init_3_stops_tape_rule T) T.mk_Ask (by decide +kernel) (by decide) (hr.mono (by decide)) (pda_cons (pd_ix ixd (pd_var 0) pd_int) (pda_cons (pd_ix ixd (pd_var 0) pd_int) pda_nil)) (pdk_cons (pd_ix ixd (pd_var 0) pd_int) (pdk_cons (pd_ix ixd (pd_var 0) pd_int) (pdk_cons (pd_var 2) pdk_nil))))))))))) (rd__law_made c)
theorem ok__law_odd (T : Txt mg c) : FnC P w c.K mg base 1 "_law_odd" ["numbers", "k", "letters"] (sp__law_odd c) :=
  FnC.mk T.d__law_odd sc__law_odd (by decide) (len__law_odd c) (fun f cdv A outer s H E hr => (pss_consD (pds_set (i := 3) sc__law_odd.nd rfl (by first | exact Or.inl rfl | exact Or.inr rfl) (pd_lst (pda_cons (pd_var 2) (pda_cons (pd_un und_neg pd_int) (pda_cons (pd_op opd_add (pd_op opd_add (pd_var 2) pd_int) (pd_ix ixd (pd_var 0) (pd_op opd_add (pd_var 1) pd_int))) (pda_cons (pd_op opd_pow pd_int pd_int) (pda_cons pd_bl (pda_cons pd_bl (pda_cons pd_non (pda_cons pd_str (pda_cons (pd_tup (pda_cons pd_int pda_nil)) (pda_cons (pd_lst (pda_cons pd_int pda_nil)) (pda_cons (pd_tup (pda_cons pd_int (pda_cons (pd_lst (pda_cons pd_int pda_nil)) pda_nil))) pda_nil)))))))))))))
  (pss_consD (pds_set (i := 3) sc__law_odd.nd rfl (by first | exact Or.inl rfl | exact Or.inr rfl) (pd_op opd_add (pd_var 3) (pd_lst (pda_cons (pd_op opd_mul (pd_op opd_pow pd_int pd_int) (pd_op opd_pow pd_int pd_int)) (pda_cons (pd_un und_neg pd_int) (pda_cons (pd_op opd_sub (pd_op opd_sub (pd_un und_neg (pd_var 2)) pd_int) (pd_ix ixd (pd_var 0) (pd_op opd_add (pd_var 1) pd_int))) (pda_cons (pd_op opd_sub pd_int (pd_op opd_pow pd_int pd_int)) pda_nil)))))))
  (pss_oneD (pds_ret (pd_ix ixd (pd_var 3) (pd_op opd_mod (pd_callTy cd_int T.b_int (by decide +kernel) (pda_cons (pd_ix ixd (pd_var 0) (pd_var 1)) pda_nil)) pd_int))))))) (rd__law_odd c)
theorem ok__law_put (T : Txt mg c) : FnC P w c.K mg base 1 "_law_put" ["row", "place", "value"] (sp__law_put c) :=
  FnC.mk T.d__law_put sc__law_put (by decide) (len__law_put c) (fun f cdv A outer s H E hr => (pss_oneD (pds_ret (pd_op opd_add (pd_op opd_add (pd_callTy cd_tuple T.b_tuple (by decide +kernel) (pda_cons (pd_slice (pd_var 0) pdo_none (pdo_some (pd_var 1))) pda_nil)) (pd_tup (pda_cons (pd_var 2) pda_nil))) (pd_callTy cd_tuple T.b_tuple (by decide +kernel) (pda_cons (pd_slice (pd_var 0) (pdo_some (pd_op opd_add (pd_var 1) pd_int)) pdo_none) pda_nil)))))) (rd__law_put c)
theorem ok__law_spoilt (T : Txt mg c) : FnC P w c.K mg base 2 "_law_spoilt" ["numbers", "ask", "begun", "letters"] (sp__law_spoilt c) :=
  FnC.mk T.d__law_spoilt sc__law_spoilt (by decide) (len__law_spoilt c) (fun f cdv A outer s H E hr => (pss_consD (pds_set (i := 4) sc__law_spoilt.nd rfl (by first | exact Or.inl rfl | exact Or.inr rfl) (pd_ix ixd (pd_var 1) pd_int))
  (pss_consD (pds_set (i := 5) sc__law_spoilt.nd rfl (by first | exact Or.inl rfl | exact Or.inr rfl) (pd_ix ixd (pd_var 1) pd_int))
  (pss_consD (pds_for (vs := (List.range 11)) rfl (passes_of rfl) (pdi_rg1 T.b_range pd_int) (pdg_name (i := 6) sc__law_spoilt.nd rfl (by first | exact Or.inl rfl | exact Or.inr rfl) (by decide)) (pss_consD (pds_set (i := 7) sc__law_spoilt.nd rfl (by first | exact Or.inl rfl | exact Or.inr rfl) (pd_fn (ok__law_odd T) (hr.mono (by decide)) (pda_cons (pd_var 0) (pda_cons (pd_op opd_add pd_int (pd_op opd_mul pd_int (pd_var 6))) (pda_cons (pd_var 3) pda_nil)))))
  (pss_consD (pds_set (i := 8) sc__law_spoilt.nd rfl (by first | exact Or.inl rfl | exact Or.inr rfl) (pd_callTy cd_int T.b_int (by decide +kernel) (pda_cons (pd_ix ixd (pd_var 0) (pd_op opd_add pd_int (pd_op opd_mul pd_int (pd_var 6)))) pda_nil)))
  (pss_consD (pds_set (i := 9) sc__law_spoilt.nd rfl (by first | exact Or.inl rfl | exact Or.inr rfl) (pd_op opd_mod (pd_callTy cd_int T.b_int (by decide +kernel) (pda_cons (pd_var 8) pda_nil)) pd_int))
  (pss_consD (pds_if (pdt_cmp (opd_eq hr.units) (pd_var 9) pd_int (nomark _)) (pss_oneD (pds_set (i := 4) sc__law_spoilt.nd rfl (by first | exact Or.inl rfl | exact Or.inr rfl) (pd_fn (ok__law_put T) (hr.mono (by decide)) (pda_cons (pd_var 4) (pda_cons (pd_op opd_mod (pd_callTy cd_int T.b_int (by decide +kernel) (pda_cons (pd_ix ixd (pd_var 0) (pd_op opd_add pd_int (pd_op opd_mul pd_int (pd_var 6)))) pda_nil)) (pd_callB cd_len T.b_len (by decide +kernel) (pda_cons (pd_var 4) pda_nil))) (pda_cons (pd_var 7) pda_nil)))))) pss_nilD)
  (pss_consD (pds_if (PDw.pt (pdw_and (pdt_cmp (opd_eq hr.units) (pd_var 9) pd_int (nomark _)) (pdw_and1 (pdt_cmp opd_gt (pd_callB cd_len T.b_len (by decide +kernel) (pda_cons (pd_var 2) pda_nil)) pd_int (nomark _))))) (pss_oneD (pds_set (i := 2) sc__law_spoilt.nd rfl (by first | exact Or.inl rfl | exact Or.inr rfl) (pd_fn (ok__law_put T) (hr.mono (by decide)) (pda_cons (pd_var 2) (pda_cons (pd_op opd_mod (pd_callTy cd_int T.b_int (by decide +kernel) (pda_cons (pd_ix ixd (pd_var 0) (pd_op opd_add pd_int (pd_op opd_mul pd_int (pd_var 6)))) pda_nil)) (pd_callB cd_len T.b_len (by decide +kernel) (pda_cons (pd_var 2) pda_nil))) (pda_cons (pd_var 7) pda_nil)))))) pss_nilD)
  (pss_oneD (pds_if (PDw.pt (pdw_and (pdt_cmp opd_gt (pd_var 9) pd_int (nomark _)) (pdw_and1 (pdt_cmp opd_gt (pd_callB cd_len T.b_len (by decide +kernel) (pda_cons (pd_var 5) pda_nil)) pd_int (nomark _))))) (pss_consD (pds_set (i := 10) sc__law_spoilt.nd rfl (by first | exact Or.inl rfl | exact Or.inr rfl) (pd_op opd_mod (pd_callTy cd_int T.b_int (by decide +kernel) (pda_cons (pd_ix ixd (pd_var 0) (pd_op opd_add pd_int (pd_op opd_mul pd_int (pd_var 6)))) pda_nil)) (pd_callB cd_len T.b_len (by decide +kernel) (pda_cons (pd_var 5) pda_nil))))
  (pss_oneD (pds_set (i := 5) sc__law_spoilt.nd rfl (by first | exact Or.inl rfl | exact Or.inr rfl) (pd_fn (ok__law_put T) (hr.mono (by decide)) (pda_cons (pd_var 5) (pda_cons (pd_var 10) (pda_cons (pd_fn (ok__law_put T) (hr.mono (by decide)) (pda_cons (pd_ix ixd (pd_var 5) (pd_var 10)) (pda_cons (pd_op opd_mod (pd_callTy cd_int T.b_int (by decide +kernel) (pda_cons (pd_op opd_div (pd_var 8) pd_int) pda_nil)) (pd_callB cd_len T.b_len (by decide +kernel) (pda_cons (pd_ix ixd (pd_var 5) (pd_var 10)) pda_nil))) (pda_cons (pd_var 7) pda_nil)))) pda_nil))))))) pss_nilD))))))))
  (pss_oneD (pds_ret (pd_tup (pda_cons (pd_tup (pda_cons (pd_var 4) (pda_cons (pd_ix ixd (pd_var 1) pd_int) (pda_cons (pd_var 5) (pda_cons (pd_ix ixd (pd_var 1) pd_int) (pda_cons (pd_ix ixd (pd_var 1) pd_int) pda_nil)))))) (pda_cons (pd_var 2) pda_nil))))))))) (rd__law_spoilt c)
theorem ok__law_first_bad (T : Txt mg c) : FnC P w c.K mg base 1 "_law_first_bad" ["ask", "begun", "letters"] (sp__law_first_bad c) :=
  FnC.mk T.d__law_first_bad sc__law_first_bad (by decide) (len__law_first_bad c) (fun f cdv A outer s H E hr => (pss_consD (pds_set (i := 3) sc__law_first_bad.nd rfl (by first | exact Or.inl rfl | exact Or.inr rfl) (pd_lstM pda_nil))
  (pss_consD (pds_for (vs := (List.range 6)) rfl (passes_of rfl) (pdi_seq (pd_op opd_add (pd_op opd_add (pd_tup (pda_cons (pd_ix ixd (pd_var 0) pd_int) pda_nil)) (pd_callTy cd_tuple T.b_tuple (by decide +kernel) (pda_cons (pd_ix ixd (pd_var 0) pd_int) pda_nil))) (pd_tup (pda_cons (pd_var 1) pda_nil)))) (pdg_name (i := 4) sc__law_first_bad.nd rfl (by first | exact Or.inl rfl | exact Or.inr rfl) (by decide)) (pss_oneD (pds_for (vs := (List.range 6)) rfl (passes_of rfl) (pdi_seq (pd_var 4)) (pdg_name (i := 5) sc__law_first_bad.nd rfl (by first | exact Or.inl rfl | exact Or.inr rfl) (by decide)) (pss_oneD (pds_if (PDw.pt (pdw_or (pdt_not (pdt_val (pd_isi (T := "int") (pd_var 5) (pe_bltn rfl T.b_int (by decide +kernel) rfl) T.b_isinstance))) (pdw_or (pdt_val (pd_isi (T := "bool") (pd_var 5) (pe_bltn rfl T.b_bool (by decide +kernel) rfl) T.b_isinstance)) (pdw_or1 (pdt_not (pdt_chain opd_le opd_lt pd_int (pd_var 5) (pd_var 2))))))) (pss_oneD (pds_drop (pd_lm PySem.F.slot_list_append PySem.F.type_list_append md_append (pd_var 3) (pda_cons (pd_var 5) pda_nil)))) pss_nilD)))))
  (pss_oneD (pds_ret (pd_slice (pd_var 3) pdo_none (pdo_some pd_int))))))) (rd__law_first_bad c)
theorem ok__law_refuses (T : Txt mg c) : FnGC P w c.K mg base 7 "_law_refuses" ["net", "ask", "begun", "odd"] (sp__law_refuses c) :=
  FnGC.mk T.d__law_refuses sc__law_refuses (by decide) (fun _ _ _ _ _ h => h) (len__law_refuses c) (fun f cdv A outer s H E hr gd => (pss_consD (pds_set (i := 4) sc__law_refuses.nd rfl (by first | exact Or.inl rfl | exact Or.inr rfl) (pd_lstM pda_nil))
  (pss_consD (pds_try (i := 5) (ws := fun a dd C => (wSeq (wIf (wTest (wIsE c.K a dd C c.InvalidLetter (wVar 5))) (wDrop (wMt oAppend (wVar 4) (wCons (wCB oRepr (wCons (wExF c.K a dd C "letter" (wVar 5)) wNil)) wNil))) wNext)
  (wSeq (wIf (wTest (wIsET c.K a dd C [c.InvalidNumber, c.NoHouse, c.NoRequest, c.NoRoom, c.NotAlone, c.NotHeld, c.TooLarge] (wVar 5))) (wDrop (wMt oAppend (wVar 4) (wCons (wC (.str "other")) wNil))) wNext)
  (wIf (wNot (wTest (wIsEB c.K a dd C "ValueError" (wVar 5)))) (wDrop (wMt oAppend (wVar 4) (wCons (wC (.str "other")) wNil))) wNext)))) (by rfl) (by rfl) sc__law_refuses.nd (by rfl) (by rfl) T.g_ServeError (by rfl) (by decide) (fun pn xe pass => (pss_oneD (pds_drop (pd_fcK (okK_written_2_begun T) (hr.mono (by decide)) (pda_cons (pd_var 0) (pda_cons (pd_var 1) pda_nil)) (pdk_cons (pd_var 2) pdk_nil))))) (fun a dd C oe pn hz hf => (pss_consD (pds_if (pdt_val (pd_isE (T := c.InvalidLetter) hz hf (pd_var 5) (pe_cls T.g_InvalidLetter) T.b_isinstance)) (pss_oneD (pds_drop (pd_lm PySem.F.slot_list_append PySem.F.type_list_append md_append (pd_var 4) (pda_cons (pd_callB (cd_repr (by exact gd) (by exact hr.units)) T.b_repr (by decide +kernel) (pda_cons (pd_exf (f := "letter") hz hf (pd_var 5)) pda_nil)) pda_nil)))) pss_nilD)
  (pss_consD (pds_if (pdt_val (pd_isET (Ts := [c.InvalidNumber, c.NoHouse, c.NoRequest, c.NoRoom, c.NotAlone, c.NotHeld, c.TooLarge]) hz hf (pd_var 5) (pa_refs (pe_cls T.g_InvalidNumber) (pa_refs (pe_cls T.g_NoHouse) (pa_refs (pe_cls T.g_NoRequest) (pa_refs (pe_cls T.g_NoRoom) (pa_refs (pe_cls T.g_NotAlone) (pa_refs (pe_cls T.g_NotHeld) (pa_refs (pe_cls T.g_TooLarge) pa_refs0))))))) T.b_isinstance (by show 7 ≤ sizeLine; decide))) (pss_oneD (pds_drop (pd_lm PySem.F.slot_list_append PySem.F.type_list_append md_append (pd_var 4) (pda_cons pd_str pda_nil)))) pss_nilD)
  (pss_oneD (pds_if (pdt_not (pdt_val (pd_isEB (T := "ValueError") hz hf (pd_var 5) (pe_bltn (by rfl) T.b_ValueError (by decide +kernel) rfl) T.b_isinstance))) (pss_oneD (pds_drop (pd_lm PySem.F.slot_list_append PySem.F.type_list_append md_append (pd_var 4) (pda_cons pd_str pda_nil)))) pss_nilD))))))
  (pss_oneD (pds_ret (pd_cmp (opd_eq hr.units) (pd_var 4) (pd_lst (pda_cons (pd_callB (cd_repr (by exact gd) (by exact hr.units)) T.b_repr (by decide +kernel) (pda_cons (pd_var 3) pda_nil)) pda_nil)) (nomark _))))))) (rd__law_refuses c)
theorem ok__law_is_kept (T : Txt mg c) : FnC P w c.K mg base 10 "_law_is_kept" ["asked", "ask"] (sp__law_is_kept c) :=
  FnC.mk T.d__law_is_kept sc__law_is_kept (by decide) (len__law_is_kept c) (fun f cdv A outer s H E hr => (pss_consD (pds_if (pdt_not (pdt_val (pd_fn (ok__law_same T) (hr.mono (by decide)) (pda_cons (pd_tup (pda_cons (pd_fld (N := N_Ask) (i := 0) T.cl_Ask T.na_Ask_prompt rfl (pd_var 0)) (pda_cons (pd_fld (N := N_Ask) (i := 1) T.cl_Ask T.na_Ask_most rfl (pd_var 0)) (pda_cons (pd_fld (N := N_Ask) (i := 2) T.cl_Ask T.na_Ask_stops rfl (pd_var 0)) (pda_cons (pd_fld (N := N_Ask) (i := 3) T.cl_Ask T.na_Ask_tape rfl (pd_var 0)) pda_nil))))) (pda_cons (pd_slice (pd_var 1) pdo_none (pdo_some pd_int)) pda_nil))))) (pss_oneD (pds_ret pd_bl)) pss_nilD)
  (pss_consD (pds_if (pdt_cmp opd_isN (pd_ix ixd (pd_var 1) pd_int) pd_non (nomark _)) (pss_oneD (pds_ret (pd_cmp opd_isN (pd_fld (N := N_Ask) (i := 4) T.cl_Ask T.na_Ask_rule rfl (pd_var 0)) pd_non (nomark _)))) pss_nilD)
  (pss_oneD (pds_ret (pd_fn (ok__law_same T) (hr.mono (by decide)) (pda_cons (pd_tup (pda_cons (pd_fld (N := N_Rule) (i := 0) T.cl_Rule T.na_Rule_start rfl (pd_fld (N := N_Ask) (i := 4) T.cl_Ask T.na_Ask_rule rfl (pd_var 0))) (pda_cons (pd_fld (N := N_Rule) (i := 1) T.cl_Rule T.na_Rule_steps rfl (pd_fld (N := N_Ask) (i := 4) T.cl_Ask T.na_Ask_rule rfl (pd_var 0))) pda_nil))) (pda_cons (pd_ix ixd (pd_var 1) pd_int) pda_nil)))))))) (rd__law_is_kept c)
theorem okF_law (T : Txt mg c) {f : Addr} {fd : FuncData} (F : Fun c.K "law" "law" s_law f fd) : FnG P w c.K mg base 11 f fd ["script"] (sp_law c) :=
  fnG_mk F sc_law (by decide) (len_law c) (fun f cdv A outer s H E hr gd => (pss_consD (pds_for (vs := (List.range 21)) rfl (passes_of rfl) (pdi_rg1 T.b_range (pd_callB (cd_min2 rfl) T.b_min (by decide +kernel) (pda_cons (pd_callB cd_len T.b_len (by decide +kernel) (pda_cons (pd_var 0) pda_nil)) (pda_cons pd_int pda_nil)))) (pdg_name (i := 1) sc_law.nd rfl (by first | exact Or.inl rfl | exact Or.inr rfl) (by decide)) (pss_consD (pds_set (i := 2) sc_law.nd rfl (by first | exact Or.inl rfl | exact Or.inr rfl) (pd_fn (ok__law_numbers T) (hr.mono (by decide)) (pda_cons (pd_ix ixd (pd_var 0) (pd_var 1)) (pda_cons (pd_var 1) (pda_cons pd_int pda_nil)))))
  (pss_consD (pds_set (i := 3) sc_law.nd rfl (by first | exact Or.inl rfl | exact Or.inr rfl) (pd_lst (pda_cons pd_int (pda_cons pd_int (pda_cons pd_int (pda_cons pd_int (pda_cons pd_int (pda_cons pd_int (pda_cons pd_int (pda_cons pd_int (pda_cons pd_int (pda_cons pd_int (pda_cons pd_int (pda_cons pd_int (pda_cons pd_int (pda_cons pd_int (pda_cons pd_int (pda_cons pd_int (pda_cons pd_int (pda_cons pd_int (pda_cons pd_int (pda_cons pd_int (pda_cons pd_int (pda_cons pd_int (pda_cons pd_int (pda_cons pd_int (pda_cons pd_int pda_nil)))))))))))))))))))))))))))
  (pss_consD (pds_set (i := 4) sc_law.nd rfl (by first | exact Or.inl rfl | exact Or.inr rfl) (pd_ix ixd (pd_op opd_add (pd_var 3) (pd_lst (pda_cons pd_int (pda_cons pd_int (pda_cons pd_int (pda_cons pd_int (pda_cons pd_int pda_nil))))))) (pd_op opd_mod (pd_callTy cd_int T.b_int (by decide +kernel) (pda_cons (pd_ix ixd (pd_var 2) pd_int) pda_nil)) pd_int)))
  (pss_consD (pds_set (i := 5) sc_law.nd rfl (by first | exact Or.inl rfl | exact Or.inr rfl) (pd_ix ixd (pd_lst (pda_cons pd_int (pda_cons pd_int (pda_cons pd_int (pda_cons pd_int (pda_cons pd_int (pda_cons pd_int (pda_cons pd_int (pda_cons (pd_op opd_add pd_int (pd_op opd_mod (pd_callTy cd_int T.b_int (by decide +kernel) (pda_cons (pd_ix ixd (pd_var 2) pd_int) pda_nil)) pd_int)) pda_nil))))))))) (pd_op opd_mod (pd_callTy cd_int T.b_int (by decide +kernel) (pda_cons (pd_op opd_div (pd_ix ixd (pd_var 2) pd_int) pd_int) pda_nil)) pd_int)))
  (pss_consD (pds_set (i := 6) sc_law.nd rfl (by first | exact Or.inl rfl | exact Or.inr rfl) (pd_op opd_add pd_int (pd_op opd_mod (pd_callTy cd_int T.b_int (by decide +kernel) (pda_cons (pd_ix ixd (pd_var 2) pd_int) pda_nil)) pd_int)))
  (pss_consD (pds_set (i := 7) sc_law.nd rfl (by first | exact Or.inl rfl | exact Or.inr rfl) (pd_ix ixd (pd_lst (pda_cons pd_int (pda_cons pd_int (pda_cons pd_int (pda_cons pd_int (pda_cons pd_int (pda_cons pd_int pda_nil))))))) (pd_op opd_mod (pd_callTy cd_int T.b_int (by decide +kernel) (pda_cons (pd_ix ixd (pd_var 2) pd_int) pda_nil)) pd_int)))
  (pss_consD (pds_set (i := 8) sc_law.nd rfl (by first | exact Or.inl rfl | exact Or.inr rfl) (pd_fn (ok__law_net T) (hr.mono (by decide)) (pda_cons (pd_slice (pd_var 2) (pdo_some pd_int) pdo_none) (pda_cons (pd_var 5) (pda_cons (pd_var 6) (pda_cons (pd_var 7) (pda_cons (pd_var 4) pda_nil)))))))
  (pss_consD (pds_set (i := 9) sc_law.nd rfl (by first | exact Or.inl rfl | exact Or.inr rfl) (pd_ix ixd (pd_lst (pda_cons pd_non (pda_cons (pd_op opd_mod (pd_callTy cd_int T.b_int (by decide +kernel) (pda_cons (pd_ix ixd (pd_var 2) pd_int) pda_nil)) (pd_var 5)) pda_nil))) (pd_op opd_mod (pd_callTy cd_int T.b_int (by decide +kernel) (pda_cons (pd_ix ixd (pd_var 2) pd_int) pda_nil)) pd_int)))
  (pss_consD (pds_set (i := 10) sc_law.nd rfl (by first | exact Or.inl rfl | exact Or.inr rfl) (pd_frz (pd_mk (N := N_Net) (ok_Net_init T) T.mk_Net (by decide +kernel) (by decide) (hr.mono (by decide)) (pda_cons (pd_var 4) (pda_cons (pd_ix ixd (pd_var 8) pd_int) (pda_cons (pd_ix ixd (pd_var 8) pd_int) (pda_cons (pd_ix ixd (pd_var 8) pd_int) (pda_cons (pd_ix ixd (pd_var 8) pd_int) (pda_cons (pd_var 9) pda_nil)))))))))
  (pss_consD (pds_set (i := 11) sc_law.nd rfl (by first | exact Or.inl rfl | exact Or.inr rfl) (pd_fn (ok__law_ask T) (hr.mono (by decide)) (pda_cons (pd_var 2) (pda_cons (pd_var 5) pda_nil))))
  (pss_consD (pds_set (i := 12) sc_law.nd rfl (by first | exact Or.inl rfl | exact Or.inr rfl) (pd_fn (ok__law_written T) (hr.mono (by decide)) (pda_cons (pd_var 8) (pda_cons (pd_var 9) (pda_cons (pd_var 11) (pda_cons (pd_tup pda_nil) pda_nil))))))
  (pss_consD (pds_set (i := 13) sc_law.nd rfl (by first | exact Or.inl rfl | exact Or.inr rfl) (pd_cmp (opd_eq hr.units) (pd_op opd_mod (pd_callTy cd_int T.b_int (by decide +kernel) (pda_cons (pd_ix ixd (pd_var 2) pd_int) pda_nil)) pd_int) pd_int (nomark _)))
  (pss_consD (pds_set (i := 14) sc_law.nd rfl (by first | exact Or.inl rfl | exact Or.inr rfl) (pd_fn (ok__law_made T) (hr.mono (by decide)) (pda_cons (pd_var 11) (pda_cons (pd_var 13) pda_nil))))
  (pss_consD (pds_if (PDw.pt (pdw_or (pdt_not (pdt_val (pd_fn (ok__law_same T) (hr.mono (by decide)) (pda_cons (pd_fnD (ok_written T) (hr.mono (by decide)) (pda_cons (pd_var 10) (pda_cons (pd_var 14) pda_nil))) (pda_cons (pd_var 12) pda_nil))))) (pdw_or1 (pdt_not (pdt_val (pd_fn (ok__law_is_kept T) (hr.mono (by decide)) (pda_cons (pd_var 14) (pda_cons (pd_var 11) pda_nil)))))))) (pss_oneD (pds_ret pd_bl)) pss_nilD)
  (pss_consD (pds_set (i := 15) sc_law.nd rfl (by first | exact Or.inl rfl | exact Or.inr rfl) (pd_tup (pda_cons (pd_ix ixd (pd_var 11) pd_int) (pda_cons (pd_op opd_add pd_int (pd_op opd_mod (pd_callTy cd_int T.b_int (by decide +kernel) (pda_cons (pd_ix ixd (pd_var 2) pd_int) pda_nil)) pd_int)) (pda_cons (pd_ix ixd (pd_var 11) pd_int) (pda_cons (pd_ix ixd (pd_var 11) pd_int) (pda_cons (pd_ix ixd (pd_var 11) pd_int) pda_nil)))))))
  (pss_consD (pds_if (pdt_cmp (opd_eq hr.units) (pd_op opd_mod (pd_callTy cd_int T.b_int (by decide +kernel) (pda_cons (pd_ix ixd (pd_var 2) pd_int) pda_nil)) pd_int) pd_int (nomark _)) (pss_consD (pds_if (pdt_not (pdt_val (pd_fn (ok__law_same T) (hr.mono (by decide)) (pda_cons (pd_fnD (ok_written T) (hr.mono (by decide)) (pda_cons (pd_var 10) (pda_cons (pd_fn (ok__law_made T) (hr.mono (by decide)) (pda_cons (pd_var 15) (pda_cons (pd_var 13) pda_nil))) pda_nil))) (pda_cons (pd_fn (ok__law_written T) (hr.mono (by decide)) (pda_cons (pd_var 8) (pda_cons (pd_var 9) (pda_cons (pd_var 15) (pda_cons (pd_tup pda_nil) pda_nil))))) pda_nil))))) (pss_oneD (pds_ret pd_bl)) pss_nilD)
  (pss_oneD (pds_if (pdt_not (pdt_val (pd_fn (ok__law_same T) (hr.mono (by decide)) (pda_cons (pd_fnD (ok_written T) (hr.mono (by decide)) (pda_cons (pd_var 10) (pda_cons (pd_var 14) pda_nil))) (pda_cons (pd_var 12) pda_nil))))) (pss_oneD (pds_ret pd_bl)) pss_nilD))) pss_nilD)
  (pss_consD (pds_set (i := 16) sc_law.nd rfl (by first | exact Or.inl rfl | exact Or.inr rfl) (pd_tup pda_nil))
  (pss_consD (pds_if (pdt_cmp (opd_eq hr.units) (pd_op opd_mod (pd_callTy cd_int T.b_int (by decide +kernel) (pda_cons (pd_ix ixd (pd_var 2) pd_int) pda_nil)) pd_int) pd_int (nomark _)) (pss_oneD (pds_set (i := 16) sc_law.nd rfl (by first | exact Or.inl rfl | exact Or.inr rfl) (pd_callTy cd_tuple T.b_tuple (by decide +kernel) (pda_cons (pd_lc (own := [("k", 20)]) rfl sc_law.nd (pdi_rg1 T.b_range (pd_op opd_mod (pd_callTy cd_int T.b_int (by decide +kernel) (pda_cons (pd_ix ixd (pd_var 2) pd_int) pda_nil)) (pd_callB (cd_min2 rfl) T.b_min (by decide +kernel) (pda_cons pd_int (pda_cons (pd_ix ixd (pd_var 11) pd_int) pda_nil))))) (blkOk_by (N := N_law_) (sc := defScope s_law) (by decide +kernel)) (fun _ _ _ _ _ => (pdg_name (i := 20) sc_law.nd rfl (by first | exact Or.inl rfl | exact Or.inr rfl) (by decide))) (fun _ _ _ _ _ => pdts_nil) (fun _ _ _ _ _ => (pd_op opd_mod (pd_callTy cd_int T.b_int (by decide +kernel) (pda_cons (pd_ix ixd (pd_var 2) (pd_op opd_add pd_int (pd_var 20))) pda_nil)) (pd_var 5)))) pda_nil)))) pss_nilD)
  (pss_consD (pds_if (pdt_cmp (opd_eq hr.units) (pd_op opd_mod (pd_callTy cd_int T.b_int (by decide +kernel) (pda_cons (pd_ix ixd (pd_var 2) pd_int) pda_nil)) pd_int) pd_int (nomark _)) (pss_consD (pds_set (i := 16) sc_law.nd rfl (by first | exact Or.inl rfl | exact Or.inr rfl) (pd_slice (pd_ix ixd (pd_var 12) pd_int) pdo_none (pdo_some (pd_op opd_mod (pd_callTy cd_int T.b_int (by decide +kernel) (pda_cons (pd_ix ixd (pd_var 2) pd_int) pda_nil)) (pd_op opd_add (pd_callB cd_len T.b_len (by decide +kernel) (pda_cons (pd_ix ixd (pd_var 12) pd_int) pda_nil)) pd_int)))))
  (pss_oneD (pds_set (i := 16) sc_law.nd rfl (by first | exact Or.inl rfl | exact Or.inr rfl) (pd_slice (pd_var 16) pdo_none (pdo_some (pd_op opd_sub (pd_ix ixd (pd_var 11) pd_int) pd_int)))))) pss_nilD)
  (pss_consD (pds_set (i := 17) sc_law.nd rfl (by first | exact Or.inl rfl | exact Or.inr rfl) (pd_var 16))
  (pss_consD (pds_if (pdt_cmp (opd_eq hr.units) (pd_op opd_mod (pd_callTy cd_int T.b_int (by decide +kernel) (pda_cons (pd_ix ixd (pd_var 2) pd_int) pda_nil)) pd_int) pd_int (nomark _)) (pss_oneD (pds_set (i := 17) sc_law.nd rfl (by first | exact Or.inl rfl | exact Or.inr rfl) (pd_callTy cd_list T.b_list (by decide +kernel) (pda_cons (pd_var 16) pda_nil)))) pss_nilD)
  (pss_consD (pds_if (pdt_not (pdt_val (pd_fn (ok__law_same T) (hr.mono (by decide)) (pda_cons (pd_fcK (okK_written_2_begun T) (hr.mono (by decide)) (pda_cons (pd_var 10) (pda_cons (pd_fn (ok__law_made T) (hr.mono (by decide)) (pda_cons (pd_var 11) (pda_cons (pd_not (pd_var 13)) pda_nil))) pda_nil)) (pdk_cons (pd_var 17) pdk_nil)) (pda_cons (pd_fn (ok__law_written T) (hr.mono (by decide)) (pda_cons (pd_var 8) (pda_cons (pd_var 9) (pda_cons (pd_var 11) (pda_cons (pd_var 16) pda_nil))))) pda_nil))))) (pss_oneD (pds_ret pd_bl)) pss_nilD)
  (pss_consD (pds_if (pdt_cmp (opd_ne hr.units) (pd_callTy cd_list T.b_list (by decide +kernel) (pda_cons (pd_var 17) pda_nil)) (pd_callTy cd_list T.b_list (by decide +kernel) (pda_cons (pd_var 16) pda_nil)) (nomark _)) (pss_oneD (pds_ret pd_bl)) pss_nilD)
  (pss_consD (pds_set (i := 18) sc_law.nd rfl (by first | exact Or.inl rfl | exact Or.inr rfl) (pd_fn (ok__law_spoilt T) (hr.mono (by decide)) (pda_cons (pd_var 2) (pda_cons (pd_var 11) (pda_cons (pd_var 16) (pda_cons (pd_var 5) pda_nil))))))
  (pss_consD (pds_set (i := 19) sc_law.nd rfl (by first | exact Or.inl rfl | exact Or.inr rfl) (pd_fn (ok__law_first_bad T) (hr.mono (by decide)) (pda_cons (pd_ix ixd (pd_var 18) pd_int) (pda_cons (pd_ix ixd (pd_var 18) pd_int) (pda_cons (pd_var 5) pda_nil)))))
  (pss_oneD (pds_if (pdt_cmp opd_gt (pd_callB cd_len T.b_len (by decide +kernel) (pda_cons (pd_var 19) pda_nil)) pd_int (nomark _)) (pss_consD (pds_set (i := 17) sc_law.nd rfl (by first | exact Or.inl rfl | exact Or.inr rfl) (pd_ix ixd (pd_lst (pda_cons (pd_ix ixd (pd_var 18) pd_int) (pda_cons (pd_callTy cd_list T.b_list (by decide +kernel) (pda_cons (pd_ix ixd (pd_var 18) pd_int) pda_nil)) pda_nil))) (pd_op opd_mod (pd_callTy cd_int T.b_int (by decide +kernel) (pda_cons (pd_ix ixd (pd_var 2) pd_int) pda_nil)) pd_int)))
  (pss_consD (pds_if (pdt_not (pdt_val (pd_fnG (ok__law_refuses T) (hr.mono (by decide)) gd (pda_cons (pd_var 10) (pda_cons (pd_fn (ok__law_made T) (hr.mono (by decide)) (pda_cons (pd_ix ixd (pd_var 18) pd_int) (pda_cons (pd_var 13) pda_nil))) (pda_cons (pd_var 17) (pda_cons (pd_ix ixd (pd_var 19) pd_int) pda_nil))))))) (pss_oneD (pds_ret pd_bl)) pss_nilD)
  (pss_oneD (pds_if (PDw.pt (pdw_or (pdt_not (pdt_val (pd_fn (ok__law_same T) (hr.mono (by decide)) (pda_cons (pd_fnD (ok_written T) (hr.mono (by decide)) (pda_cons (pd_var 10) (pda_cons (pd_var 14) pda_nil))) (pda_cons (pd_var 12) pda_nil))))) (pdw_or1 (pdt_not (pdt_val (pd_fn (ok__law_is_kept T) (hr.mono (by decide)) (pda_cons (pd_var 14) (pda_cons (pd_var 11) pda_nil)))))))) (pss_oneD (pds_ret pd_bl)) pss_nilD)))) pss_nilD))))))))))))))))))))))))))))
  (pss_oneD (pds_ret pd_bl)))) (rd_law c)
end
end K07
set_option Elab.async false
set_option linter.all false
set_option maxRecDepth 100000
set_option maxHeartbeats 4000000
namespace K07
open PySem PySem.Spec PyProof.Rows L2 DL
abbrev spEnd : Ctr := DL.spScript
theorem spEnd_at {K : PySem.W.Frag} {H : Hp} {a : Addr} {ns : List Int} {E : XK} (hl : ns.length ≤ 63) (hS : SqL K H a (ns.map V.int)) : lSp K spEnd [.ref a] H (fun v _ => v = .bl true) E := spScript_at hl hS
theorem all_mk {l : PySem.W.OpenLaw} {w : World} {K : PySem.W.Frag} {h : Heap} {mg : Str → Option Value} {fa : Addr} (X : K.In h) (G : h.Ns mainGlobals mg) (hfa : mg "law" = some (.ref fa))
    {C0 : Addr}
    {C1 : Addr}
    {C2 : Addr}
    {X_ServeError : Addr}
    {X_InvalidNumber : Addr}
    {X_InvalidLetter : Addr}
    {X_NoHouse : Addr}
    {X_NoRequest : Addr}
    {X_NoRoom : Addr}
    {X_NotAlone : Addr}
    {X_NotHeld : Addr}
    {X_TooLarge : Addr}
    {f1 : Addr} {oc1 kV1 dc1 pm1 cd1 ct1 : Value} {od1 an1 : Option Addr} {sl1 : Array (Option Value)}
    {nm1 q1 : Str} {N1 : Addr} {bs1 : List Value} {sn1 : List Str} {sub1 : List Value} {ab1 : Bool} {col1 : Option Bool} {dd1 : Option Addr} {m01 m11 m21 m31 m51 : Option Value}
    {f2 : Addr} {oc2 kV2 dc2 pm2 cd2 ct2 : Value} {od2 an2 : Option Addr} {sl2 : Array (Option Value)}
    {nm2 q2 : Str} {N2 : Addr} {bs2 : List Value} {sn2 : List Str} {sub2 : List Value} {ab2 : Bool} {col2 : Option Bool} {dd2 : Option Addr} {m02 m12 m22 m32 m52 : Option Value}
    {tk_MOST_LETTERS : _}
    {T_PRIMES : Addr} {oT_PRIMES : Obj}
    {f3 : Addr} {oc3 kV3 dc3 pm3 cd3 ct3 : Value} {od3 an3 : Option Addr} {sl3 : Array (Option Value)}
    {f4 : Addr} {oc4 kV4 dc4 pm4 cd4 ct4 : Value} {od4 an4 : Option Addr} {sl4 : Array (Option Value)}
    {f5 : Addr} {oc5 kV5 dc5 pm5 cd5 ct5 : Value} {od5 an5 : Option Addr} {sl5 : Array (Option Value)}
    {f6 : Addr} {oc6 kV6 dc6 pm6 cd6 ct6 : Value} {od6 an6 : Option Addr} {sl6 : Array (Option Value)}
    {f7 : Addr} {oc7 kV7 dc7 pm7 cd7 ct7 : Value} {od7 an7 : Option Addr} {sl7 : Array (Option Value)}
    {f8 : Addr} {oc8 kV8 dc8 pm8 cd8 ct8 : Value} {od8 an8 : Option Addr} {sl8 : Array (Option Value)}
    {f9 : Addr} {oc9 kV9 dc9 pm9 cd9 ct9 : Value} {od9 an9 : Option Addr} {sl9 : Array (Option Value)}
    {f10 : Addr} {oc10 kV10 dc10 pm10 cd10 ct10 : Value} {od10 an10 : Option Addr} {sl10 : Array (Option Value)}
    {f11 : Addr} {oc11 kV11 dc11 pm11 cd11 ct11 : Value} {od11 an11 : Option Addr} {sl11 : Array (Option Value)}
    {f12 : Addr} {oc12 kV12 dc12 pm12 cd12 ct12 : Value} {od12 an12 : Option Addr} {sl12 : Array (Option Value)}
    {f13 : Addr} {oc13 kV13 dc13 pm13 cd13 ct13 : Value} {od13 an13 : Option Addr} {sl13 : Array (Option Value)}
    {f14 : Addr} {oc14 kV14 dc14 pm14 cd14 ct14 : Value} {od14 an14 : Option Addr} {sl14 : Array (Option Value)}
    {f15 : Addr} {oc15 kV15 dc15 pm15 cd15 ct15 : Value} {od15 an15 : Option Addr} {sl15 : Array (Option Value)}
    {f16 : Addr} {oc16 kV16 dc16 pm16 cd16 ct16 : Value} {od16 an16 : Option Addr} {sl16 : Array (Option Value)}
    {f17 : Addr} {oc17 kV17 dc17 pm17 cd17 ct17 : Value} {od17 an17 : Option Addr} {sl17 : Array (Option Value)}
    {f18 : Addr} {oc18 kV18 dc18 pm18 cd18 ct18 : Value} {od18 an18 : Option Addr} {sl18 : Array (Option Value)}
    {f19 : Addr} {oc19 kV19 dc19 pm19 cd19 ct19 : Value} {od19 an19 : Option Addr} {sl19 : Array (Option Value)}
    {f20 : Addr} {oc20 kV20 dc20 pm20 cd20 ct20 : Value} {od20 an20 : Option Addr} {sl20 : Array (Option Value)}
    {f21 : Addr} {oc21 kV21 dc21 pm21 cd21 ct21 : Value} {od21 an21 : Option Addr} {sl21 : Array (Option Value)}
    {f22 : Addr} {oc22 kV22 dc22 pm22 cd22 ct22 : Value} {od22 an22 : Option Addr} {sl22 : Array (Option Value)}
    {f23 : Addr} {oc23 kV23 dc23 pm23 cd23 ct23 : Value} {od23 an23 : Option Addr} {sl23 : Array (Option Value)}
    {f24 : Addr} {oc24 kV24 dc24 pm24 cd24 ct24 : Value} {od24 an24 : Option Addr} {sl24 : Array (Option Value)}
    {f25 : Addr} {oc25 kV25 dc25 pm25 cd25 ct25 : Value} {od25 an25 : Option Addr} {sl25 : Array (Option Value)}
    {KD26 : Addr}
    {f26 : Addr} {oc26 dc26 pm26 cd26 ct26 : Value} {od26 an26 : Option Addr} {sl26 : Array (Option Value)}
    {T26_0 : Addr} {oT26_0 : Obj}
    {f27 : Addr} {oc27 kV27 dc27 pm27 cd27 ct27 : Value} {od27 an27 : Option Addr} {sl27 : Array (Option Value)}
    {f28 : Addr} {oc28 kV28 dc28 pm28 cd28 ct28 : Value} {od28 an28 : Option Addr} {sl28 : Array (Option Value)}
    {f29 : Addr} {oc29 kV29 dc29 pm29 cd29 ct29 : Value} {od29 an29 : Option Addr} {sl29 : Array (Option Value)}
    {f30 : Addr} {oc30 kV30 dc30 pm30 cd30 ct30 : Value} {od30 an30 : Option Addr} {sl30 : Array (Option Value)}
    {f31 : Addr} {oc31 kV31 dc31 pm31 cd31 ct31 : Value} {od31 an31 : Option Addr} {sl31 : Array (Option Value)}
    {f32 : Addr} {oc32 kV32 dc32 pm32 cd32 ct32 : Value} {od32 an32 : Option Addr} {sl32 : Array (Option Value)}
    {f33 : Addr} {oc33 kV33 dc33 pm33 cd33 ct33 : Value} {od33 an33 : Option Addr} {sl33 : Array (Option Value)}
    {f34 : Addr} {oc34 kV34 dc34 pm34 cd34 ct34 : Value} {od34 an34 : Option Addr} {sl34 : Array (Option Value)}
    {f35 : Addr} {oc35 kV35 dc35 pm35 cd35 ct35 : Value} {od35 an35 : Option Addr} {sl35 : Array (Option Value)}
    {f36 : Addr} {oc36 kV36 dc36 pm36 cd36 ct36 : Value} {od36 an36 : Option Addr} {sl36 : Array (Option Value)}
    {f37 : Addr} {oc37 kV37 dc37 pm37 cd37 ct37 : Value} {od37 an37 : Option Addr} {sl37 : Array (Option Value)}
    {f38 : Addr} {oc38 kV38 dc38 pm38 cd38 ct38 : Value} {od38 an38 : Option Addr} {sl38 : Array (Option Value)}
    {f39 : Addr} {oc39 kV39 dc39 pm39 cd39 ct39 : Value} {od39 an39 : Option Addr} {sl39 : Array (Option Value)}
    {f40 : Addr} {oc40 kV40 dc40 pm40 cd40 ct40 : Value} {od40 an40 : Option Addr} {sl40 : Array (Option Value)}
    {f41 : Addr} {oc41 kV41 dc41 pm41 cd41 ct41 : Value} {od41 an41 : Option Addr} {sl41 : Array (Option Value)}
    {f42 : Addr} {oc42 kV42 dc42 pm42 cd42 ct42 : Value} {od42 an42 : Option Addr} {sl42 : Array (Option Value)}
    {f43 : Addr} {oc43 kV43 dc43 pm43 cd43 ct43 : Value} {od43 an43 : Option Addr} {sl43 : Array (Option Value)}
    {f44 : Addr} {oc44 kV44 dc44 pm44 cd44 ct44 : Value} {od44 an44 : Option Addr} {sl44 : Array (Option Value)}
    {f45 : Addr} {oc45 kV45 dc45 pm45 cd45 ct45 : Value} {od45 an45 : Option Addr} {sl45 : Array (Option Value)}
    {f46 : Addr} {oc46 kV46 dc46 pm46 cd46 ct46 : Value} {od46 an46 : Option Addr} {sl46 : Array (Option Value)}
    {f47 : Addr} {oc47 kV47 dc47 pm47 cd47 ct47 : Value} {od47 an47 : Option Addr} {sl47 : Array (Option Value)}
    {f48 : Addr} {oc48 kV48 dc48 pm48 cd48 ct48 : Value} {od48 an48 : Option Addr} {sl48 : Array (Option Value)}
    {f49 : Addr} {oc49 kV49 dc49 pm49 cd49 ct49 : Value} {od49 an49 : Option Addr} {sl49 : Array (Option Value)}
    {f50 : Addr} {oc50 kV50 dc50 pm50 cd50 ct50 : Value} {od50 an50 : Option Addr} {sl50 : Array (Option Value)}
    {f51 : Addr} {oc51 kV51 dc51 pm51 cd51 ct51 : Value} {od51 an51 : Option Addr} {sl51 : Array (Option Value)}
    {f52 : Addr} {oc52 kV52 dc52 pm52 cd52 ct52 : Value} {od52 an52 : Option Addr} {sl52 : Array (Option Value)}
    (aC0 : PySem.W.nsIn K mainGlobals "Net" = some (some (.ref C0)))
    (aC1 : PySem.W.nsIn K mainGlobals "Ask" = some (some (.ref C1)))
    (aC2 : PySem.W.nsIn K mainGlobals "Rule" = some (some (.ref C2)))
    (aX_ServeError : PySem.W.nsIn K mainGlobals "ServeError" = some (some (.ref X_ServeError)))
    (aX_InvalidNumber : PySem.W.nsIn K mainGlobals "InvalidNumber" = some (some (.ref X_InvalidNumber)))
    (aX_InvalidLetter : PySem.W.nsIn K mainGlobals "InvalidLetter" = some (some (.ref X_InvalidLetter)))
    (aX_NoHouse : PySem.W.nsIn K mainGlobals "NoHouse" = some (some (.ref X_NoHouse)))
    (aX_NoRequest : PySem.W.nsIn K mainGlobals "NoRequest" = some (some (.ref X_NoRequest)))
    (aX_NoRoom : PySem.W.nsIn K mainGlobals "NoRoom" = some (some (.ref X_NoRoom)))
    (aX_NotAlone : PySem.W.nsIn K mainGlobals "NotAlone" = some (some (.ref X_NotAlone)))
    (aX_NotHeld : PySem.W.nsIn K mainGlobals "NotHeld" = some (some (.ref X_NotHeld)))
    (aX_TooLarge : PySem.W.nsIn K mainGlobals "TooLarge" = some (some (.ref X_TooLarge)))
    (xL1 : K.lookup X_InvalidLetter = some (excClassObj nm1 q1 X_InvalidLetter N1 bs1 [.ref X_ServeError, .type "ValueError", .type "Exception", .type "BaseException", .type "object"] true sn1 sub1 ab1 col1 dd1 m01 m11 m21 m31 m51 "ValueError.__new__"))
    (saX_InvalidLetter : PySem.W.findIn K (.ref X_InvalidLetter) "__setattr__" = some (some (.builtin "object.__setattr__")))
    (kcX_InvalidLetter : PySem.W.keepIn K (.ref X_InvalidLetter) = true)
    (iX_InvalidLetter : PySem.W.findIn K (.ref X_InvalidLetter) "__init__" = some (some (.ref f1)))
    (tfX_InvalidLetter : PySem.W.typeIn K (.ref f1) = some (.type "function"))
    (l1 : K.lookup f1 = some ⟨oc1, od1, .func (PySem.W.fnOf "__init__" "InvalidLetter.__init__" (defArgs (inClass (topS 3) 0)) (defBody (inClass (topS 3) 0)) (defScope (inClass (topS 3) 0)) .none kV1 dc1 pm1 an1 cd1 ct1), sl1⟩)
    (c1 : PySem.W.codeIn K cd1 "InvalidLetter.__init__" = true)
    (k1 : PySem.W.keepIn K (.ref f1) = true)
    (eX_InvalidLetter : PySem.W.subIn K (.ref X_InvalidLetter) (.type "BaseException") = some true)
    (tX_InvalidLetter : PySem.W.typeIn K (.ref X_InvalidLetter) = some (.type "type"))
    (nfX_InvalidLetter_letter : PySem.W.findIn K (.ref X_InvalidLetter) "letter" = some none)
    (xL2 : K.lookup X_InvalidNumber = some (excClassObj nm2 q2 X_InvalidNumber N2 bs2 [.ref X_ServeError, .type "ValueError", .type "Exception", .type "BaseException", .type "object"] true sn2 sub2 ab2 col2 dd2 m02 m12 m22 m32 m52 "ValueError.__new__"))
    (saX_InvalidNumber : PySem.W.findIn K (.ref X_InvalidNumber) "__setattr__" = some (some (.builtin "object.__setattr__")))
    (kcX_InvalidNumber : PySem.W.keepIn K (.ref X_InvalidNumber) = true)
    (iX_InvalidNumber : PySem.W.findIn K (.ref X_InvalidNumber) "__init__" = some (some (.ref f2)))
    (tfX_InvalidNumber : PySem.W.typeIn K (.ref f2) = some (.type "function"))
    (l2 : K.lookup f2 = some ⟨oc2, od2, .func (PySem.W.fnOf "__init__" "InvalidNumber.__init__" (defArgs (inClass (topS 2) 0)) (defBody (inClass (topS 2) 0)) (defScope (inClass (topS 2) 0)) .none kV2 dc2 pm2 an2 cd2 ct2), sl2⟩)
    (c2 : PySem.W.codeIn K cd2 "InvalidNumber.__init__" = true)
    (k2 : PySem.W.keepIn K (.ref f2) = true)
    (eX_InvalidNumber : PySem.W.subIn K (.ref X_InvalidNumber) (.type "BaseException") = some true)
    (tX_InvalidNumber : PySem.W.typeIn K (.ref X_InvalidNumber) = some (.type "type"))
    (nfX_InvalidNumber_number : PySem.W.findIn K (.ref X_InvalidNumber) "number" = some none)
    (cn_MOST_LETTERS : PySem.W.nsIn K mainGlobals "MOST_LETTERS" = some (some (Value.int (30) tk_MOST_LETTERS)))
    (cn_PRIMES : PySem.W.nsIn K mainGlobals "PRIMES" = some (some (.ref T_PRIMES)))
    (cl_PRIMES : K.lookup T_PRIMES = some oT_PRIMES)
    (ct_PRIMES : tupIs oT_PRIMES K_PRIMES = true)
    (eX_ServeError : PySem.W.subIn K (.ref X_ServeError) (.type "BaseException") = some true)
    (icX_ServeError : PySem.W.isClsIn K X_ServeError = true)
    (tX_ServeError : PySem.W.typeIn K (.ref X_ServeError) = some (.type "type"))
    (sub_InvalidLetter_ServeError : PySem.W.subIn K (.ref X_InvalidLetter) (.ref X_ServeError) = some true)
    (ne_InvalidLetter_TooLarge : X_InvalidLetter ≠ X_TooLarge)
    (icX_TooLarge : PySem.W.isClsIn K X_TooLarge = true)
    (tX_TooLarge : PySem.W.typeIn K (.ref X_TooLarge) = some (.type "type"))
    (sub_InvalidLetter_TooLarge : PySem.W.subIn K (.ref X_InvalidLetter) (.ref X_TooLarge) = some false)
    (ne_InvalidLetter_NotHeld : X_InvalidLetter ≠ X_NotHeld)
    (icX_NotHeld : PySem.W.isClsIn K X_NotHeld = true)
    (tX_NotHeld : PySem.W.typeIn K (.ref X_NotHeld) = some (.type "type"))
    (sub_InvalidLetter_NotHeld : PySem.W.subIn K (.ref X_InvalidLetter) (.ref X_NotHeld) = some false)
    (ne_InvalidLetter_NotAlone : X_InvalidLetter ≠ X_NotAlone)
    (icX_NotAlone : PySem.W.isClsIn K X_NotAlone = true)
    (tX_NotAlone : PySem.W.typeIn K (.ref X_NotAlone) = some (.type "type"))
    (sub_InvalidLetter_NotAlone : PySem.W.subIn K (.ref X_InvalidLetter) (.ref X_NotAlone) = some false)
    (ne_InvalidLetter_NoRoom : X_InvalidLetter ≠ X_NoRoom)
    (icX_NoRoom : PySem.W.isClsIn K X_NoRoom = true)
    (tX_NoRoom : PySem.W.typeIn K (.ref X_NoRoom) = some (.type "type"))
    (sub_InvalidLetter_NoRoom : PySem.W.subIn K (.ref X_InvalidLetter) (.ref X_NoRoom) = some false)
    (ne_InvalidLetter_NoRequest : X_InvalidLetter ≠ X_NoRequest)
    (icX_NoRequest : PySem.W.isClsIn K X_NoRequest = true)
    (tX_NoRequest : PySem.W.typeIn K (.ref X_NoRequest) = some (.type "type"))
    (sub_InvalidLetter_NoRequest : PySem.W.subIn K (.ref X_InvalidLetter) (.ref X_NoRequest) = some false)
    (ne_InvalidLetter_NoHouse : X_InvalidLetter ≠ X_NoHouse)
    (icX_NoHouse : PySem.W.isClsIn K X_NoHouse = true)
    (tX_NoHouse : PySem.W.typeIn K (.ref X_NoHouse) = some (.type "type"))
    (sub_InvalidLetter_NoHouse : PySem.W.subIn K (.ref X_InvalidLetter) (.ref X_NoHouse) = some false)
    (ne_InvalidLetter_InvalidNumber : X_InvalidLetter ≠ X_InvalidNumber)
    (icX_InvalidNumber : PySem.W.isClsIn K X_InvalidNumber = true)
    (sub_InvalidLetter_InvalidNumber : PySem.W.subIn K (.ref X_InvalidLetter) (.ref X_InvalidNumber) = some false)
    (subB_InvalidLetter_ValueError : PySem.W.subIn K (.ref X_InvalidLetter) (.type "ValueError") = some true)
    (caX_InvalidLetter : PySem.W.findIn K (.ref X_InvalidLetter) "__class__" = some (some (.builtin "object.__class__")))
    (cgX : PySem.W.specialIn K (.builtin "object.__class__") "__get__" = some (some (.builtin "getset_descriptor.__get__")))
    (ctX : PySem.W.takesIn K (.builtin "object.__class__") = some true)
    (moX_InvalidLetter : PySem.W.mroIn K X_InvalidLetter (.type "object") = some true)
    (icX_InvalidLetter : PySem.W.isClsIn K X_InvalidLetter = true)
    (gaX_InvalidLetter : PySem.W.findIn K (.ref X_InvalidLetter) "__getattribute__" = some (some (.builtin "BaseException.__getattribute__")))
    (ggX_InvalidLetter : PySem.W.findIn K (.ref X_InvalidLetter) "__getattr__" = some none)
    (hdX_InvalidLetter : PySem.W.hasDictIn K X_InvalidLetter = true)
    (a3 : PySem.W.nsIn K mainGlobals "is_between" = some (some (.ref f3)))
    (l3 : K.lookup f3 = some ⟨oc3, od3, .func (PySem.W.fnOf "is_between" "is_between" (defArgs s_is_between) (defBody s_is_between) (defScope s_is_between) .none kV3 dc3 pm3 an3 cd3 ct3), sl3⟩)
    (c3 : PySem.W.codeIn K cd3 "is_between" = true)
    (k3 : PySem.W.keepIn K (.ref f3) = true)
    (a4 : PySem.W.nsIn K mainGlobals "vector_of" = some (some (.ref f4)))
    (l4 : K.lookup f4 = some ⟨oc4, od4, .func (PySem.W.fnOf "vector_of" "vector_of" (defArgs s_vector_of) (defBody s_vector_of) (defScope s_vector_of) .none kV4 dc4 pm4 an4 cd4 ct4), sl4⟩)
    (c4 : PySem.W.codeIn K cd4 "vector_of" = true)
    (k4 : PySem.W.keepIn K (.ref f4) = true)
    (a5 : PySem.W.nsIn K mainGlobals "matrix_of" = some (some (.ref f5)))
    (l5 : K.lookup f5 = some ⟨oc5, od5, .func (PySem.W.fnOf "matrix_of" "matrix_of" (defArgs s_matrix_of) (defBody s_matrix_of) (defScope s_matrix_of) .none kV5 dc5 pm5 an5 cd5 ct5), sl5⟩)
    (c5 : PySem.W.codeIn K cd5 "matrix_of" = true)
    (k5 : PySem.W.keepIn K (.ref f5) = true)
    (a6 : PySem.W.nsIn K mainGlobals "product_sum" = some (some (.ref f6)))
    (l6 : K.lookup f6 = some ⟨oc6, od6, .func (PySem.W.fnOf "product_sum" "product_sum" (defArgs s_product_sum) (defBody s_product_sum) (defScope s_product_sum) .none kV6 dc6 pm6 an6 cd6 ct6), sl6⟩)
    (c6 : PySem.W.codeIn K cd6 "product_sum" = true)
    (k6 : PySem.W.keepIn K (.ref f6) = true)
    (a7 : PySem.W.findIn K (.ref C0) "__init__" = some (some (.ref f7)))
    (i7 : PySem.W.isFn K (.ref f7) = true)
    (l7 : K.lookup f7 = some ⟨oc7, od7, .func (PySem.W.fnOf "__init__" "Net.__init__" (defArgs s_Net_init) (defBody s_Net_init) (defScope s_Net_init) .none kV7 dc7 pm7 an7 cd7 ct7), sl7⟩)
    (c7 : PySem.W.codeIn K cd7 "Net.__init__" = true)
    (k7 : PySem.W.keepIn K (.ref f7) = true)
    (a8 : PySem.W.findIn K (.ref C0) "is_letter" = some (some (.ref f8)))
    (i8 : PySem.W.isFn K (.ref f8) = true)
    (l8 : K.lookup f8 = some ⟨oc8, od8, .func (PySem.W.fnOf "is_letter" "Net.is_letter" (defArgs s_Net_is_letter) (defBody s_Net_is_letter) (defScope s_Net_is_letter) .none kV8 dc8 pm8 an8 cd8 ct8), sl8⟩)
    (c8 : PySem.W.codeIn K cd8 "Net.is_letter" = true)
    (k8 : PySem.W.keepIn K (.ref f8) = true)
    (a9 : PySem.W.findIn K (.ref C0) "rest" = some (some (.ref f9)))
    (i9 : PySem.W.isFn K (.ref f9) = true)
    (l9 : K.lookup f9 = some ⟨oc9, od9, .func (PySem.W.fnOf "rest" "Net.rest" (defArgs s_Net_rest) (defBody s_Net_rest) (defScope s_Net_rest) .none kV9 dc9 pm9 an9 cd9 ct9), sl9⟩)
    (c9 : PySem.W.codeIn K cd9 "Net.rest" = true)
    (k9 : PySem.W.keepIn K (.ref f9) = true)
    (a10 : PySem.W.findIn K (.ref C0) "times" = some (some (.ref f10)))
    (i10 : PySem.W.isFn K (.ref f10) = true)
    (l10 : K.lookup f10 = some ⟨oc10, od10, .func (PySem.W.fnOf "times" "Net.times" (defArgs s_Net_times) (defBody s_Net_times) (defScope s_Net_times) .none kV10 dc10 pm10 an10 cd10 ct10), sl10⟩)
    (c10 : PySem.W.codeIn K cd10 "Net.times" = true)
    (k10 : PySem.W.keepIn K (.ref f10) = true)
    (a11 : PySem.W.findIn K (.ref C0) "plus" = some (some (.ref f11)))
    (i11 : PySem.W.isFn K (.ref f11) = true)
    (l11 : K.lookup f11 = some ⟨oc11, od11, .func (PySem.W.fnOf "plus" "Net.plus" (defArgs s_Net_plus) (defBody s_Net_plus) (defScope s_Net_plus) .none kV11 dc11 pm11 an11 cd11 ct11), sl11⟩)
    (c11 : PySem.W.codeIn K cd11 "Net.plus" = true)
    (k11 : PySem.W.keepIn K (.ref f11) = true)
    (a12 : PySem.W.findIn K (.ref C0) "looked_at" = some (some (.ref f12)))
    (i12 : PySem.W.isFn K (.ref f12) = true)
    (l12 : K.lookup f12 = some ⟨oc12, od12, .func (PySem.W.fnOf "looked_at" "Net.looked_at" (defArgs s_Net_looked_at) (defBody s_Net_looked_at) (defScope s_Net_looked_at) .none kV12 dc12 pm12 an12 cd12 ct12), sl12⟩)
    (c12 : PySem.W.codeIn K cd12 "Net.looked_at" = true)
    (k12 : PySem.W.keepIn K (.ref f12) = true)
    (a13 : PySem.W.findIn K (.ref C0) "row" = some (some (.ref f13)))
    (i13 : PySem.W.isFn K (.ref f13) = true)
    (l13 : K.lookup f13 = some ⟨oc13, od13, .func (PySem.W.fnOf "row" "Net.row" (defArgs s_Net_row) (defBody s_Net_row) (defScope s_Net_row) .none kV13 dc13 pm13 an13 cd13 ct13), sl13⟩)
    (c13 : PySem.W.codeIn K cd13 "Net.row" = true)
    (k13 : PySem.W.keepIn K (.ref f13) = true)
    (a14 : PySem.W.nsIn K mainGlobals "rows_of" = some (some (.ref f14)))
    (l14 : K.lookup f14 = some ⟨oc14, od14, .func (PySem.W.fnOf "rows_of" "rows_of" (defArgs s_rows_of) (defBody s_rows_of) (defScope s_rows_of) .none kV14 dc14 pm14 an14 cd14 ct14), sl14⟩)
    (c14 : PySem.W.codeIn K cd14 "rows_of" = true)
    (k14 : PySem.W.keepIn K (.ref f14) = true)
    (a15 : PySem.W.nsIn K mainGlobals "check_letters" = some (some (.ref f15)))
    (l15 : K.lookup f15 = some ⟨oc15, od15, .func (PySem.W.fnOf "check_letters" "check_letters" (defArgs s_check_letters) (defBody s_check_letters) (defScope s_check_letters) .none kV15 dc15 pm15 an15 cd15 ct15), sl15⟩)
    (c15 : PySem.W.codeIn K cd15 "check_letters" = true)
    (k15 : PySem.W.keepIn K (.ref f15) = true)
    (a16 : PySem.W.nsIn K mainGlobals "stop_length" = some (some (.ref f16)))
    (l16 : K.lookup f16 = some ⟨oc16, od16, .func (PySem.W.fnOf "stop_length" "stop_length" (defArgs s_stop_length) (defBody s_stop_length) (defScope s_stop_length) .none kV16 dc16 pm16 an16 cd16 ct16), sl16⟩)
    (c16 : PySem.W.codeIn K cd16 "stop_length" = true)
    (k16 : PySem.W.keepIn K (.ref f16) = true)
    (a17 : PySem.W.nsIn K mainGlobals "greatest" = some (some (.ref f17)))
    (l17 : K.lookup f17 = some ⟨oc17, od17, .func (PySem.W.fnOf "greatest" "greatest" (defArgs s_greatest) (defBody s_greatest) (defScope s_greatest) .none kV17 dc17 pm17 an17 cd17 ct17), sl17⟩)
    (c17 : PySem.W.codeIn K cd17 "greatest" = true)
    (k17 : PySem.W.keepIn K (.ref f17) = true)
    (a18 : PySem.W.nsIn K mainGlobals "by_number" = some (some (.ref f18)))
    (l18 : K.lookup f18 = some ⟨oc18, od18, .func (PySem.W.fnOf "by_number" "by_number" (defArgs s_by_number) (defBody s_by_number) (defScope s_by_number) .none kV18 dc18 pm18 an18 cd18 ct18), sl18⟩)
    (c18 : PySem.W.codeIn K cd18 "by_number" = true)
    (k18 : PySem.W.keepIn K (.ref f18) = true)
    (a19 : PySem.W.findIn K (.ref C2) "__init__" = some (some (.ref f19)))
    (i19 : PySem.W.isFn K (.ref f19) = true)
    (l19 : K.lookup f19 = some ⟨oc19, od19, .func (PySem.W.fnOf "__init__" "Rule.__init__" (defArgs s_Rule_init) (defBody s_Rule_init) (defScope s_Rule_init) .none kV19 dc19 pm19 an19 cd19 ct19), sl19⟩)
    (c19 : PySem.W.codeIn K cd19 "Rule.__init__" = true)
    (k19 : PySem.W.keepIn K (.ref f19) = true)
    (a20 : PySem.W.findIn K (.ref C2) "after" = some (some (.ref f20)))
    (i20 : PySem.W.isFn K (.ref f20) = true)
    (l20 : K.lookup f20 = some ⟨oc20, od20, .func (PySem.W.fnOf "after" "Rule.after" (defArgs s_Rule_after) (defBody s_Rule_after) (defScope s_Rule_after) .none kV20 dc20 pm20 an20 cd20 ct20), sl20⟩)
    (c20 : PySem.W.codeIn K cd20 "Rule.after" = true)
    (k20 : PySem.W.keepIn K (.ref f20) = true)
    (a21 : PySem.W.findIn K (.ref C2) "lets" = some (some (.ref f21)))
    (i21 : PySem.W.isFn K (.ref f21) = true)
    (l21 : K.lookup f21 = some ⟨oc21, od21, .func (PySem.W.fnOf "lets" "Rule.lets" (defArgs s_Rule_lets) (defBody s_Rule_lets) (defScope s_Rule_lets) .none kV21 dc21 pm21 an21 cd21 ct21), sl21⟩)
    (c21 : PySem.W.codeIn K cd21 "Rule.lets" = true)
    (k21 : PySem.W.keepIn K (.ref f21) = true)
    (a22 : PySem.W.findIn K (.ref C1) "__init__" = some (some (.ref f22)))
    (i22 : PySem.W.isFn K (.ref f22) = true)
    (l22 : K.lookup f22 = some ⟨oc22, od22, .func (PySem.W.fnOf "__init__" "Ask.__init__" (defArgs s_Ask_init) (defBody s_Ask_init) (defScope s_Ask_init) .none kV22 dc22 pm22 an22 cd22 ct22), sl22⟩)
    (c22 : PySem.W.codeIn K cd22 "Ask.__init__" = true)
    (k22 : PySem.W.keepIn K (.ref f22) = true)
    (a23 : PySem.W.findIn K (.ref C1) "let_weights" = some (some (.ref f23)))
    (i23 : PySem.W.isFn K (.ref f23) = true)
    (l23 : K.lookup f23 = some ⟨oc23, od23, .func (PySem.W.fnOf "let_weights" "Ask.let_weights" (defArgs s_Ask_let_weights) (defBody s_Ask_let_weights) (defScope s_Ask_let_weights) .none kV23 dc23 pm23 an23 cd23 ct23), sl23⟩)
    (c23 : PySem.W.codeIn K cd23 "Ask.let_weights" = true)
    (k23 : PySem.W.keepIn K (.ref f23) = true)
    (a24 : PySem.W.findIn K (.ref C1) "choice" = some (some (.ref f24)))
    (i24 : PySem.W.isFn K (.ref f24) = true)
    (l24 : K.lookup f24 = some ⟨oc24, od24, .func (PySem.W.fnOf "choice" "Ask.choice" (defArgs s_Ask_choice) (defBody s_Ask_choice) (defScope s_Ask_choice) .none kV24 dc24 pm24 an24 cd24 ct24), sl24⟩)
    (c24 : PySem.W.codeIn K cd24 "Ask.choice" = true)
    (k24 : PySem.W.keepIn K (.ref f24) = true)
    (a25 : PySem.W.nsIn K mainGlobals "next_text" = some (some (.ref f25)))
    (l25 : K.lookup f25 = some ⟨oc25, od25, .func (PySem.W.fnOf "next_text" "next_text" (defArgs s_next_text) (defBody s_next_text) (defScope s_next_text) .none kV25 dc25 pm25 an25 cd25 ct25), sl25⟩)
    (c25 : PySem.W.codeIn K cd25 "next_text" = true)
    (k25 : PySem.W.keepIn K (.ref f25) = true)
    (a26 : PySem.W.nsIn K mainGlobals "written" = some (some (.ref f26)))
    (l26 : K.lookup f26 = some ⟨oc26, od26, .func (PySem.W.fnOf "written" "written" (defArgs s_written) (defBody s_written) (defScope s_written) .none (.ref KD26) dc26 pm26 an26 cd26 ct26), sl26⟩)
    (c26 : PySem.W.codeIn K cd26 "written" = true)
    (k26 : PySem.W.keepIn K (.ref f26) = true)
    (nT26_0 : PySem.W.nsIn K KD26 "begun" = some (some (.ref T26_0)))
    (lT26_0 : K.lookup T26_0 = some oT26_0)
    (tT26_0 : tupIs oT26_0 [] = true)
    (a27 : PySem.W.nsIn K mainGlobals "_law_numbers" = some (some (.ref f27)))
    (l27 : K.lookup f27 = some ⟨oc27, od27, .func (PySem.W.fnOf "_law_numbers" "_law_numbers" (defArgs s__law_numbers) (defBody s__law_numbers) (defScope s__law_numbers) .none kV27 dc27 pm27 an27 cd27 ct27), sl27⟩)
    (c27 : PySem.W.codeIn K cd27 "_law_numbers" = true)
    (k27 : PySem.W.keepIn K (.ref f27) = true)
    (a28 : PySem.W.nsIn K mainGlobals "_law_same" = some (some (.ref f28)))
    (l28 : K.lookup f28 = some ⟨oc28, od28, .func (PySem.W.fnOf "_law_same" "_law_same" (defArgs s__law_same) (defBody s__law_same) (defScope s__law_same) .none kV28 dc28 pm28 an28 cd28 ct28), sl28⟩)
    (c28 : PySem.W.codeIn K cd28 "_law_same" = true)
    (k28 : PySem.W.keepIn K (.ref f28) = true)
    (a29 : PySem.W.nsIn K mainGlobals "_law_vector" = some (some (.ref f29)))
    (l29 : K.lookup f29 = some ⟨oc29, od29, .func (PySem.W.fnOf "_law_vector" "_law_vector" (defArgs s__law_vector) (defBody s__law_vector) (defScope s__law_vector) .none kV29 dc29 pm29 an29 cd29 ct29), sl29⟩)
    (c29 : PySem.W.codeIn K cd29 "_law_vector" = true)
    (k29 : PySem.W.keepIn K (.ref f29) = true)
    (a30 : PySem.W.nsIn K mainGlobals "_law_net" = some (some (.ref f30)))
    (l30 : K.lookup f30 = some ⟨oc30, od30, .func (PySem.W.fnOf "_law_net" "_law_net" (defArgs s__law_net) (defBody s__law_net) (defScope s__law_net) .none kV30 dc30 pm30 an30 cd30 ct30), sl30⟩)
    (c30 : PySem.W.codeIn K cd30 "_law_net" = true)
    (k30 : PySem.W.keepIn K (.ref f30) = true)
    (a31 : PySem.W.nsIn K mainGlobals "_law_dot" = some (some (.ref f31)))
    (l31 : K.lookup f31 = some ⟨oc31, od31, .func (PySem.W.fnOf "_law_dot" "_law_dot" (defArgs s__law_dot) (defBody s__law_dot) (defScope s__law_dot) .none kV31 dc31 pm31 an31 cd31 ct31), sl31⟩)
    (c31 : PySem.W.codeIn K cd31 "_law_dot" = true)
    (k31 : PySem.W.keepIn K (.ref f31) = true)
    (a32 : PySem.W.nsIn K mainGlobals "_law_times" = some (some (.ref f32)))
    (l32 : K.lookup f32 = some ⟨oc32, od32, .func (PySem.W.fnOf "_law_times" "_law_times" (defArgs s__law_times) (defBody s__law_times) (defScope s__law_times) .none kV32 dc32 pm32 an32 cd32 ct32), sl32⟩)
    (c32 : PySem.W.codeIn K cd32 "_law_times" = true)
    (k32 : PySem.W.keepIn K (.ref f32) = true)
    (a33 : PySem.W.nsIn K mainGlobals "_law_row" = some (some (.ref f33)))
    (l33 : K.lookup f33 = some ⟨oc33, od33, .func (PySem.W.fnOf "_law_row" "_law_row" (defArgs s__law_row) (defBody s__law_row) (defScope s__law_row) .none kV33 dc33 pm33 an33 cd33 ct33), sl33⟩)
    (c33 : PySem.W.codeIn K cd33 "_law_row" = true)
    (k33 : PySem.W.keepIn K (.ref f33) = true)
    (a34 : PySem.W.nsIn K mainGlobals "_law_rows" = some (some (.ref f34)))
    (l34 : K.lookup f34 = some ⟨oc34, od34, .func (PySem.W.fnOf "_law_rows" "_law_rows" (defArgs s__law_rows) (defBody s__law_rows) (defScope s__law_rows) .none kV34 dc34 pm34 an34 cd34 ct34), sl34⟩)
    (c34 : PySem.W.codeIn K cd34 "_law_rows" = true)
    (k34 : PySem.W.keepIn K (.ref f34) = true)
    (a35 : PySem.W.nsIn K mainGlobals "_law_after" = some (some (.ref f35)))
    (l35 : K.lookup f35 = some ⟨oc35, od35, .func (PySem.W.fnOf "_law_after" "_law_after" (defArgs s__law_after) (defBody s__law_after) (defScope s__law_after) .none kV35 dc35 pm35 an35 cd35 ct35), sl35⟩)
    (c35 : PySem.W.codeIn K cd35 "_law_after" = true)
    (k35 : PySem.W.keepIn K (.ref f35) = true)
    (a36 : PySem.W.nsIn K mainGlobals "_law_counted" = some (some (.ref f36)))
    (l36 : K.lookup f36 = some ⟨oc36, od36, .func (PySem.W.fnOf "_law_counted" "_law_counted" (defArgs s__law_counted) (defBody s__law_counted) (defScope s__law_counted) .none kV36 dc36 pm36 an36 cd36 ct36), sl36⟩)
    (c36 : PySem.W.codeIn K cd36 "_law_counted" = true)
    (k36 : PySem.W.keepIn K (.ref f36) = true)
    (a37 : PySem.W.nsIn K mainGlobals "_law_choice" = some (some (.ref f37)))
    (l37 : K.lookup f37 = some ⟨oc37, od37, .func (PySem.W.fnOf "_law_choice" "_law_choice" (defArgs s__law_choice) (defBody s__law_choice) (defScope s__law_choice) .none kV37 dc37 pm37 an37 cd37 ct37), sl37⟩)
    (c37 : PySem.W.codeIn K cd37 "_law_choice" = true)
    (k37 : PySem.W.keepIn K (.ref f37) = true)
    (a38 : PySem.W.nsIn K mainGlobals "_law_rule" = some (some (.ref f38)))
    (l38 : K.lookup f38 = some ⟨oc38, od38, .func (PySem.W.fnOf "_law_rule" "_law_rule" (defArgs s__law_rule) (defBody s__law_rule) (defScope s__law_rule) .none kV38 dc38 pm38 an38 cd38 ct38), sl38⟩)
    (c38 : PySem.W.codeIn K cd38 "_law_rule" = true)
    (k38 : PySem.W.keepIn K (.ref f38) = true)
    (a39 : PySem.W.nsIn K mainGlobals "_law_stops" = some (some (.ref f39)))
    (l39 : K.lookup f39 = some ⟨oc39, od39, .func (PySem.W.fnOf "_law_stops" "_law_stops" (defArgs s__law_stops) (defBody s__law_stops) (defScope s__law_stops) .none kV39 dc39 pm39 an39 cd39 ct39), sl39⟩)
    (c39 : PySem.W.codeIn K cd39 "_law_stops" = true)
    (k39 : PySem.W.keepIn K (.ref f39) = true)
    (a40 : PySem.W.nsIn K mainGlobals "_law_tape" = some (some (.ref f40)))
    (l40 : K.lookup f40 = some ⟨oc40, od40, .func (PySem.W.fnOf "_law_tape" "_law_tape" (defArgs s__law_tape) (defBody s__law_tape) (defScope s__law_tape) .none kV40 dc40 pm40 an40 cd40 ct40), sl40⟩)
    (c40 : PySem.W.codeIn K cd40 "_law_tape" = true)
    (k40 : PySem.W.keepIn K (.ref f40) = true)
    (a41 : PySem.W.nsIn K mainGlobals "_law_ask" = some (some (.ref f41)))
    (l41 : K.lookup f41 = some ⟨oc41, od41, .func (PySem.W.fnOf "_law_ask" "_law_ask" (defArgs s__law_ask) (defBody s__law_ask) (defScope s__law_ask) .none kV41 dc41 pm41 an41 cd41 ct41), sl41⟩)
    (c41 : PySem.W.codeIn K cd41 "_law_ask" = true)
    (k41 : PySem.W.keepIn K (.ref f41) = true)
    (a42 : PySem.W.nsIn K mainGlobals "_law_ends" = some (some (.ref f42)))
    (l42 : K.lookup f42 = some ⟨oc42, od42, .func (PySem.W.fnOf "_law_ends" "_law_ends" (defArgs s__law_ends) (defBody s__law_ends) (defScope s__law_ends) .none kV42 dc42 pm42 an42 cd42 ct42), sl42⟩)
    (c42 : PySem.W.codeIn K cd42 "_law_ends" = true)
    (k42 : PySem.W.keepIn K (.ref f42) = true)
    (a43 : PySem.W.nsIn K mainGlobals "_law_stopped" = some (some (.ref f43)))
    (l43 : K.lookup f43 = some ⟨oc43, od43, .func (PySem.W.fnOf "_law_stopped" "_law_stopped" (defArgs s__law_stopped) (defBody s__law_stopped) (defScope s__law_stopped) .none kV43 dc43 pm43 an43 cd43 ct43), sl43⟩)
    (c43 : PySem.W.codeIn K cd43 "_law_stopped" = true)
    (k43 : PySem.W.keepIn K (.ref f43) = true)
    (a44 : PySem.W.nsIn K mainGlobals "_law_written" = some (some (.ref f44)))
    (l44 : K.lookup f44 = some ⟨oc44, od44, .func (PySem.W.fnOf "_law_written" "_law_written" (defArgs s__law_written) (defBody s__law_written) (defScope s__law_written) .none kV44 dc44 pm44 an44 cd44 ct44), sl44⟩)
    (c44 : PySem.W.codeIn K cd44 "_law_written" = true)
    (k44 : PySem.W.keepIn K (.ref f44) = true)
    (a45 : PySem.W.nsIn K mainGlobals "_law_made" = some (some (.ref f45)))
    (l45 : K.lookup f45 = some ⟨oc45, od45, .func (PySem.W.fnOf "_law_made" "_law_made" (defArgs s__law_made) (defBody s__law_made) (defScope s__law_made) .none kV45 dc45 pm45 an45 cd45 ct45), sl45⟩)
    (c45 : PySem.W.codeIn K cd45 "_law_made" = true)
    (k45 : PySem.W.keepIn K (.ref f45) = true)
    (a46 : PySem.W.nsIn K mainGlobals "_law_odd" = some (some (.ref f46)))
    (l46 : K.lookup f46 = some ⟨oc46, od46, .func (PySem.W.fnOf "_law_odd" "_law_odd" (defArgs s__law_odd) (defBody s__law_odd) (defScope s__law_odd) .none kV46 dc46 pm46 an46 cd46 ct46), sl46⟩)
    (c46 : PySem.W.codeIn K cd46 "_law_odd" = true)
    (k46 : PySem.W.keepIn K (.ref f46) = true)
    (a47 : PySem.W.nsIn K mainGlobals "_law_put" = some (some (.ref f47)))
    (l47 : K.lookup f47 = some ⟨oc47, od47, .func (PySem.W.fnOf "_law_put" "_law_put" (defArgs s__law_put) (defBody s__law_put) (defScope s__law_put) .none kV47 dc47 pm47 an47 cd47 ct47), sl47⟩)
    (c47 : PySem.W.codeIn K cd47 "_law_put" = true)
    (k47 : PySem.W.keepIn K (.ref f47) = true)
    (a48 : PySem.W.nsIn K mainGlobals "_law_spoilt" = some (some (.ref f48)))
    (l48 : K.lookup f48 = some ⟨oc48, od48, .func (PySem.W.fnOf "_law_spoilt" "_law_spoilt" (defArgs s__law_spoilt) (defBody s__law_spoilt) (defScope s__law_spoilt) .none kV48 dc48 pm48 an48 cd48 ct48), sl48⟩)
    (c48 : PySem.W.codeIn K cd48 "_law_spoilt" = true)
    (k48 : PySem.W.keepIn K (.ref f48) = true)
    (a49 : PySem.W.nsIn K mainGlobals "_law_first_bad" = some (some (.ref f49)))
    (l49 : K.lookup f49 = some ⟨oc49, od49, .func (PySem.W.fnOf "_law_first_bad" "_law_first_bad" (defArgs s__law_first_bad) (defBody s__law_first_bad) (defScope s__law_first_bad) .none kV49 dc49 pm49 an49 cd49 ct49), sl49⟩)
    (c49 : PySem.W.codeIn K cd49 "_law_first_bad" = true)
    (k49 : PySem.W.keepIn K (.ref f49) = true)
    (a50 : PySem.W.nsIn K mainGlobals "_law_refuses" = some (some (.ref f50)))
    (l50 : K.lookup f50 = some ⟨oc50, od50, .func (PySem.W.fnOf "_law_refuses" "_law_refuses" (defArgs s__law_refuses) (defBody s__law_refuses) (defScope s__law_refuses) .none kV50 dc50 pm50 an50 cd50 ct50), sl50⟩)
    (c50 : PySem.W.codeIn K cd50 "_law_refuses" = true)
    (k50 : PySem.W.keepIn K (.ref f50) = true)
    (a51 : PySem.W.nsIn K mainGlobals "_law_is_kept" = some (some (.ref f51)))
    (l51 : K.lookup f51 = some ⟨oc51, od51, .func (PySem.W.fnOf "_law_is_kept" "_law_is_kept" (defArgs s__law_is_kept) (defBody s__law_is_kept) (defScope s__law_is_kept) .none kV51 dc51 pm51 an51 cd51 ct51), sl51⟩)
    (c51 : PySem.W.codeIn K cd51 "_law_is_kept" = true)
    (k51 : PySem.W.keepIn K (.ref f51) = true)
    (a52 : PySem.W.nsIn K mainGlobals "law" = some (some (.ref f52)))
    (l52 : K.lookup f52 = some ⟨oc52, od52, .func (PySem.W.fnOf "law" "law" (defArgs s_law) (defBody s_law) (defScope s_law) .none kV52 dc52 pm52 an52 cd52 ct52), sl52⟩)
    (c52 : PySem.W.codeIn K cd52 "law" = true)
    (k52 : PySem.W.keepIn K (.ref f52) = true)
    (pgC0 : PySem.W.plainGet K C0 Str.empty = true)
    (hdC0 : PySem.W.hasDictIn K C0 = true)
    (poC0 : PySem.W.plainOver K C0 = true)
    (saC0 : PySem.W.findIn K (.ref C0) "__setattr__" = some (some (.builtin "object.__setattr__")))
    (mkC0 : PySem.W.makesIn K C0 = true)
    (kcC0 : PySem.W.keepIn K (.ref C0) = true)
    (pgC1 : PySem.W.plainGet K C1 Str.empty = true)
    (hdC1 : PySem.W.hasDictIn K C1 = true)
    (poC1 : PySem.W.plainOver K C1 = true)
    (saC1 : PySem.W.findIn K (.ref C1) "__setattr__" = some (some (.builtin "object.__setattr__")))
    (mkC1 : PySem.W.makesIn K C1 = true)
    (kcC1 : PySem.W.keepIn K (.ref C1) = true)
    (pgC2 : PySem.W.plainGet K C2 Str.empty = true)
    (hdC2 : PySem.W.hasDictIn K C2 = true)
    (poC2 : PySem.W.plainOver K C2 = true)
    (saC2 : PySem.W.findIn K (.ref C2) "__setattr__" = some (some (.builtin "object.__setattr__")))
    (mkC2 : PySem.W.makesIn K C2 = true)
    (kcC2 : PySem.W.keepIn K (.ref C2) = true)
    (z_ValueError : PySem.W.nsIn K mainGlobals "ValueError" = some none)
    (z_abs : PySem.W.nsIn K mainGlobals "abs" = some none)
    (z_bool : PySem.W.nsIn K mainGlobals "bool" = some none)
    (z_enumerate : PySem.W.nsIn K mainGlobals "enumerate" = some none)
    (z_int : PySem.W.nsIn K mainGlobals "int" = some none)
    (z_isinstance : PySem.W.nsIn K mainGlobals "isinstance" = some none)
    (z_len : PySem.W.nsIn K mainGlobals "len" = some none)
    (z_list : PySem.W.nsIn K mainGlobals "list" = some none)
    (z_max : PySem.W.nsIn K mainGlobals "max" = some none)
    (z_min : PySem.W.nsIn K mainGlobals "min" = some none)
    (z_range : PySem.W.nsIn K mainGlobals "range" = some none)
    (z_repr : PySem.W.nsIn K mainGlobals "repr" = some none)
    (z_str : PySem.W.nsIn K mainGlobals "str" = some none)
    (z_sum : PySem.W.nsIn K mainGlobals "sum" = some none)
    (z_tuple : PySem.W.nsIn K mainGlobals "tuple" = some none)
    (z_zip : PySem.W.nsIn K mainGlobals "zip" = some none)
    (na_Net_prime : PySem.W.findIn K (.ref C0) "prime" = some none)
    (na_Net_embed : PySem.W.findIn K (.ref C0) "embed" = some none)
    (na_Net_shift : PySem.W.findIn K (.ref C0) "shift" = some none)
    (na_Net_layers : PySem.W.findIn K (.ref C0) "layers" = some none)
    (na_Net_out : PySem.W.findIn K (.ref C0) "out" = some none)
    (na_Net_end : PySem.W.findIn K (.ref C0) "end" = some none)
    (na_Ask_prompt : PySem.W.findIn K (.ref C1) "prompt" = some none)
    (na_Ask_most : PySem.W.findIn K (.ref C1) "most" = some none)
    (na_Ask_stops : PySem.W.findIn K (.ref C1) "stops" = some none)
    (na_Ask_tape : PySem.W.findIn K (.ref C1) "tape" = some none)
    (na_Ask_rule : PySem.W.findIn K (.ref C1) "rule" = some none)
    (na_Rule_start : PySem.W.findIn K (.ref C2) "start" = some none)
    (na_Rule_steps : PySem.W.findIn K (.ref C2) "steps" = some none)
    : ∃ fd : FuncData, (∀ (s : Shared) (v : Value), BindsTo s fd ⟨[v], []⟩ [("script", v)]) ∧ ∀ base : Heap, K.In base → base.Ns mainGlobals mg → FnG l.prog w K mg base 11 fa fd ["script"] spEnd := by
  have e := hfa.symm.trans (PySem.W.mg_of X G a52)
  cases e
  have T : Txt mg ⟨K, C0, C1, C2, X_ServeError, X_InvalidNumber, X_InvalidLetter, X_NoHouse, X_NoRequest, X_NoRoom, X_NotAlone, X_NotHeld, X_TooLarge, (exm_of eX_ServeError icX_ServeError tX_ServeError sub_InvalidLetter_ServeError), kit_self, (kitn_cons (kit_of ne_InvalidLetter_InvalidNumber icX_InvalidNumber tX_InvalidNumber sub_InvalidLetter_InvalidNumber) (kitn_cons (kit_of ne_InvalidLetter_NoHouse icX_NoHouse tX_NoHouse sub_InvalidLetter_NoHouse) (kitn_cons (kit_of ne_InvalidLetter_NoRequest icX_NoRequest tX_NoRequest sub_InvalidLetter_NoRequest) (kitn_cons (kit_of ne_InvalidLetter_NoRoom icX_NoRoom tX_NoRoom sub_InvalidLetter_NoRoom) (kitn_cons (kit_of ne_InvalidLetter_NotAlone icX_NotAlone tX_NotAlone sub_InvalidLetter_NotAlone) (kitn_cons (kit_of ne_InvalidLetter_NotHeld icX_NotHeld tX_NotHeld sub_InvalidLetter_NotHeld) (kitn_cons (kit_of ne_InvalidLetter_TooLarge icX_TooLarge tX_TooLarge sub_InvalidLetter_TooLarge) kitn_nil))))))), (kit_ty (by decide +kernel) subB_InvalidLetter_ValueError), ⟨icX_InvalidLetter, gaX_InvalidLetter, ggX_InvalidLetter, eX_InvalidLetter, caX_InvalidLetter, cgX, ctX, moX_InvalidLetter⟩, ⟨⟨gaX_InvalidLetter, ggX_InvalidLetter, eX_InvalidLetter, hdX_InvalidLetter⟩, nfX_InvalidLetter_letter⟩⟩ := ⟨PySem.W.mg_none_of X G z_ValueError,
    PySem.W.mg_none_of X G z_abs,
    PySem.W.mg_none_of X G z_bool,
    PySem.W.mg_none_of X G z_enumerate,
    PySem.W.mg_none_of X G z_int,
    PySem.W.mg_none_of X G z_isinstance,
    PySem.W.mg_none_of X G z_len,
    PySem.W.mg_none_of X G z_list,
    PySem.W.mg_none_of X G z_max,
    PySem.W.mg_none_of X G z_min,
    PySem.W.mg_none_of X G z_range,
    PySem.W.mg_none_of X G z_repr,
    PySem.W.mg_none_of X G z_str,
    PySem.W.mg_none_of X G z_sum,
    PySem.W.mg_none_of X G z_tuple,
    PySem.W.mg_none_of X G z_zip,
    ⟨_, _, fun_mk l3 c3 k3, PySem.W.mg_of X G a3, ((fun_mk l3 c3 k3).binds (ps := ["value", "least", "most"]) fun _ _ _ _ _ _ us hl => match us, hl with | [_, _, _], _ => rfl)⟩,
    ⟨_, _, fun_mk l4 c4 k4, PySem.W.mg_of X G a4, ((fun_mk l4 c4 k4).binds (ps := ["numbers"]) fun _ _ _ _ _ _ us hl => match us, hl with | [_], _ => rfl)⟩,
    ⟨_, _, fun_mk l5 c5 k5, PySem.W.mg_of X G a5, ((fun_mk l5 c5 k5).binds (ps := ["rows"]) fun _ _ _ _ _ _ us hl => match us, hl with | [_], _ => rfl)⟩,
    ⟨_, _, fun_mk l6 c6 k6, PySem.W.mg_of X G a6, ((fun_mk l6 c6 k6).binds (ps := ["one", "two"]) fun _ _ _ _ _ _ us hl => match us, hl with | [_, _], _ => rfl)⟩,
    ⟨f7, _, fun_mk l7 c7 k7, ⟨mkC0, a7, i7, kcC0⟩, ((fun_mk l7 c7 k7).binds (ps := ["self", "prime", "embed", "shift", "layers", "out", "end"]) fun _ _ _ _ _ _ us hl => match us, hl with | [_, _, _, _, _, _, _], _ => rfl)⟩,
    ⟨f8, _, fun_mk l8 c8 k8, ⟨a8, i8, k8⟩, ((fun_mk l8 c8 k8).binds (ps := ["self", "value"]) fun _ _ _ _ _ _ us hl => match us, hl with | [_, _], _ => rfl)⟩,
    ⟨f9, _, fun_mk l9 c9 k9, ⟨a9, i9, k9⟩, ((fun_mk l9 c9 k9).binds (ps := ["self", "number"]) fun _ _ _ _ _ _ us hl => match us, hl with | [_, _], _ => rfl)⟩,
    ⟨f10, _, fun_mk l10 c10 k10, ⟨a10, i10, k10⟩, ((fun_mk l10 c10 k10).binds (ps := ["self", "matrix", "vector"]) fun _ _ _ _ _ _ us hl => match us, hl with | [_, _, _], _ => rfl)⟩,
    ⟨f11, _, fun_mk l11 c11 k11, ⟨a11, i11, k11⟩, ((fun_mk l11 c11 k11).binds (ps := ["self", "one", "two"]) fun _ _ _ _ _ _ us hl => match us, hl with | [_, _, _], _ => rfl)⟩,
    ⟨f12, _, fun_mk l12 c12 k12, ⟨a12, i12, k12⟩, ((fun_mk l12 c12 k12).binds (ps := ["self", "query", "pairs"]) fun _ _ _ _ _ _ us hl => match us, hl with | [_, _, _], _ => rfl)⟩,
    ⟨f13, _, fun_mk l13 c13 k13, ⟨a13, i13, k13⟩, ((fun_mk l13 c13 k13).binds (ps := ["self", "rows", "letter"]) fun _ _ _ _ _ _ us hl => match us, hl with | [_, _, _], _ => rfl)⟩,
    ⟨_, _, fun_mk l14 c14 k14, PySem.W.mg_of X G a14, ((fun_mk l14 c14 k14).binds (ps := ["net", "letters"]) fun _ _ _ _ _ _ us hl => match us, hl with | [_, _], _ => rfl)⟩,
    ⟨_, _, fun_mk l15 c15 k15, PySem.W.mg_of X G a15, ((fun_mk l15 c15 k15).binds (ps := ["net", "ask", "begun"]) fun _ _ _ _ _ _ us hl => match us, hl with | [_, _, _], _ => rfl)⟩,
    ⟨_, _, fun_mk l16 c16 k16, PySem.W.mg_of X G a16, ((fun_mk l16 c16 k16).binds (ps := ["stops", "text"]) fun _ _ _ _ _ _ us hl => match us, hl with | [_, _], _ => rfl)⟩,
    ⟨_, _, fun_mk l17 c17 k17, PySem.W.mg_of X G a17, ((fun_mk l17 c17 k17).binds (ps := ["weights"]) fun _ _ _ _ _ _ us hl => match us, hl with | [_], _ => rfl)⟩,
    ⟨_, _, fun_mk l18 c18 k18, PySem.W.mg_of X G a18, ((fun_mk l18 c18 k18).binds (ps := ["weights", "number"]) fun _ _ _ _ _ _ us hl => match us, hl with | [_, _], _ => rfl)⟩,
    ⟨f19, _, fun_mk l19 c19 k19, ⟨mkC2, a19, i19, kcC2⟩, ((fun_mk l19 c19 k19).binds (ps := ["self", "start", "steps"]) fun _ _ _ _ _ _ us hl => match us, hl with | [_, _, _], _ => rfl)⟩,
    ⟨f20, _, fun_mk l20 c20 k20, ⟨a20, i20, k20⟩, ((fun_mk l20 c20 k20).binds (ps := ["self", "text"]) fun _ _ _ _ _ _ us hl => match us, hl with | [_, _], _ => rfl)⟩,
    ⟨f21, _, fun_mk l21 c21 k21, ⟨a21, i21, k21⟩, ((fun_mk l21 c21 k21).binds (ps := ["self", "text", "letter"]) fun _ _ _ _ _ _ us hl => match us, hl with | [_, _, _], _ => rfl)⟩,
    ⟨f23, _, fun_mk l23 c23 k23, ⟨a23, i23, k23⟩, ((fun_mk l23 c23 k23).binds (ps := ["self", "weights", "text"]) fun _ _ _ _ _ _ us hl => match us, hl with | [_, _, _], _ => rfl)⟩,
    ⟨f24, _, fun_mk l24 c24 k24, ⟨a24, i24, k24⟩, ((fun_mk l24 c24 k24).binds (ps := ["self", "weights", "text"]) fun _ _ _ _ _ _ us hl => match us, hl with | [_, _, _], _ => rfl)⟩,
    ⟨_, _, fun_mk l25 c25 k25, PySem.W.mg_of X G a25, ((fun_mk l25 c25 k25).binds (ps := ["net", "ask", "text", "weights"]) fun _ _ _ _ _ _ us hl => match us, hl with | [_, _, _, _], _ => rfl)⟩,
    (by
      obtain ⟨us, h1, h2⟩ := binds0_mk (ps := ["net", "ask", "begun"]) (kws := [("begun", V.ref T26_0)]) l26 c26 k26 2 (by intro z; cases z) rfl (fun q hq => by
        simp only [List.mem_cons, List.not_mem_nil, or_false] at hq
        rcases hq with rfl
        all_goals first | exact ⟨_, nT26_0, rfl⟩) (fun D doc pm an cdv ct us ks h1 h2 => match us, ks, h1, h2 with | [_, _], [_], _, _ => ⟨_, _, _, _, _, _, rfl, rfl, rfl⟩)
      exact ⟨_, _, fun_mk l26 c26 k26, PySem.W.mg_of X G a26, [V.ref T26_0], us, ⟨.ref T26_0, _, rfl, ⟨T26_0, [], rfl, tupIs_sq (ns := []) lT26_0 tT26_0 _, rfl⟩, rfl⟩, h1, h2⟩),
    ⟨_, _, fun_mk l27 c27 k27, PySem.W.mg_of X G a27, ((fun_mk l27 c27 k27).binds (ps := ["cell", "at", "many"]) fun _ _ _ _ _ _ us hl => match us, hl with | [_, _, _], _ => rfl)⟩,
    ⟨_, _, fun_mk l28 c28 k28, PySem.W.mg_of X G a28, ((fun_mk l28 c28 k28).binds (ps := ["actual", "expected"]) fun _ _ _ _ _ _ us hl => match us, hl with | [_, _], _ => rfl)⟩,
    ⟨_, _, fun_mk l29 c29 k29, PySem.W.mg_of X G a29, ((fun_mk l29 c29 k29).binds (ps := ["numbers", "at", "width", "prime"]) fun _ _ _ _ _ _ us hl => match us, hl with | [_, _, _, _], _ => rfl)⟩,
    ⟨_, _, fun_mk l30 c30 k30, PySem.W.mg_of X G a30, ((fun_mk l30 c30 k30).binds (ps := ["numbers", "letters", "width", "many", "prime"]) fun _ _ _ _ _ _ us hl => match us, hl with | [_, _, _, _, _], _ => rfl)⟩,
    ⟨_, _, fun_mk l31 c31 k31, PySem.W.mg_of X G a31, ((fun_mk l31 c31 k31).binds (ps := ["one", "other", "prime"]) fun _ _ _ _ _ _ us hl => match us, hl with | [_, _, _], _ => rfl)⟩,
    ⟨_, _, fun_mk l32 c32 k32, PySem.W.mg_of X G a32, ((fun_mk l32 c32 k32).binds (ps := ["matrix", "vector", "prime"]) fun _ _ _ _ _ _ us hl => match us, hl with | [_, _, _], _ => rfl)⟩,
    ⟨_, _, fun_mk l33 c33 k33, PySem.W.mg_of X G a33, ((fun_mk l33 c33 k33).binds (ps := ["net", "rows", "letter"]) fun _ _ _ _ _ _ us hl => match us, hl with | [_, _, _], _ => rfl)⟩,
    ⟨_, _, fun_mk l34 c34 k34, PySem.W.mg_of X G a34, ((fun_mk l34 c34 k34).binds (ps := ["net", "letters"]) fun _ _ _ _ _ _ us hl => match us, hl with | [_, _], _ => rfl)⟩,
    ⟨_, _, fun_mk l35 c35 k35, PySem.W.mg_of X G a35, ((fun_mk l35 c35 k35).binds (ps := ["rule", "text"]) fun _ _ _ _ _ _ us hl => match us, hl with | [_, _], _ => rfl)⟩,
    ⟨_, _, fun_mk l36 c36 k36, PySem.W.mg_of X G a36, ((fun_mk l36 c36 k36).binds (ps := ["weights", "rule", "text"]) fun _ _ _ _ _ _ us hl => match us, hl with | [_, _, _], _ => rfl)⟩,
    ⟨_, _, fun_mk l37 c37 k37, PySem.W.mg_of X G a37, ((fun_mk l37 c37 k37).binds (ps := ["weights", "rule", "tape", "text"]) fun _ _ _ _ _ _ us hl => match us, hl with | [_, _, _, _], _ => rfl)⟩,
    ⟨_, _, fun_mk l38 c38 k38, PySem.W.mg_of X G a38, ((fun_mk l38 c38 k38).binds (ps := ["numbers", "k", "letters"]) fun _ _ _ _ _ _ us hl => match us, hl with | [_, _, _], _ => rfl)⟩,
    ⟨_, _, fun_mk l39 c39 k39, PySem.W.mg_of X G a39, ((fun_mk l39 c39 k39).binds (ps := ["numbers", "k", "letters"]) fun _ _ _ _ _ _ us hl => match us, hl with | [_, _, _], _ => rfl)⟩,
    ⟨_, _, fun_mk l40 c40 k40, PySem.W.mg_of X G a40, ((fun_mk l40 c40 k40).binds (ps := ["numbers", "k"]) fun _ _ _ _ _ _ us hl => match us, hl with | [_, _], _ => rfl)⟩,
    ⟨_, _, fun_mk l41 c41 k41, PySem.W.mg_of X G a41, ((fun_mk l41 c41 k41).binds (ps := ["numbers", "letters"]) fun _ _ _ _ _ _ us hl => match us, hl with | [_, _], _ => rfl)⟩,
    ⟨_, _, fun_mk l42 c42 k42, PySem.W.mg_of X G a42, ((fun_mk l42 c42 k42).binds (ps := ["text", "stop"]) fun _ _ _ _ _ _ us hl => match us, hl with | [_, _], _ => rfl)⟩,
    ⟨_, _, fun_mk l43 c43 k43, PySem.W.mg_of X G a43, ((fun_mk l43 c43 k43).binds (ps := ["text", "stops"]) fun _ _ _ _ _ _ us hl => match us, hl with | [_, _], _ => rfl)⟩,
    ⟨_, _, fun_mk l44 c44 k44, PySem.W.mg_of X G a44, ((fun_mk l44 c44 k44).binds (ps := ["net", "end", "ask", "begun"]) fun _ _ _ _ _ _ us hl => match us, hl with | [_, _, _, _], _ => rfl)⟩,
    ⟨_, _, fun_mk l45 c45 k45, PySem.W.mg_of X G a45, ((fun_mk l45 c45 k45).binds (ps := ["ask", "lists"]) fun _ _ _ _ _ _ us hl => match us, hl with | [_, _], _ => rfl)⟩,
    ⟨_, _, fun_mk l46 c46 k46, PySem.W.mg_of X G a46, ((fun_mk l46 c46 k46).binds (ps := ["numbers", "k", "letters"]) fun _ _ _ _ _ _ us hl => match us, hl with | [_, _, _], _ => rfl)⟩,
    ⟨_, _, fun_mk l47 c47 k47, PySem.W.mg_of X G a47, ((fun_mk l47 c47 k47).binds (ps := ["row", "place", "value"]) fun _ _ _ _ _ _ us hl => match us, hl with | [_, _, _], _ => rfl)⟩,
    ⟨_, _, fun_mk l48 c48 k48, PySem.W.mg_of X G a48, ((fun_mk l48 c48 k48).binds (ps := ["numbers", "ask", "begun", "letters"]) fun _ _ _ _ _ _ us hl => match us, hl with | [_, _, _, _], _ => rfl)⟩,
    ⟨_, _, fun_mk l49 c49 k49, PySem.W.mg_of X G a49, ((fun_mk l49 c49 k49).binds (ps := ["ask", "begun", "letters"]) fun _ _ _ _ _ _ us hl => match us, hl with | [_, _, _], _ => rfl)⟩,
    ⟨_, _, fun_mk l50 c50 k50, PySem.W.mg_of X G a50, ((fun_mk l50 c50 k50).binds (ps := ["net", "ask", "begun", "odd"]) fun _ _ _ _ _ _ us hl => match us, hl with | [_, _, _, _], _ => rfl)⟩,
    ⟨_, _, fun_mk l51 c51 k51, PySem.W.mg_of X G a51, ((fun_mk l51 c51 k51).binds (ps := ["asked", "ask"]) fun _ _ _ _ _ _ us hl => match us, hl with | [_, _], _ => rfl)⟩,
    ⟨_, _, fun_mk l52 c52 k52, PySem.W.mg_of X G a52, ((fun_mk l52 c52 k52).binds (ps := ["script"]) fun _ _ _ _ _ _ us hl => match us, hl with | [_], _ => rfl)⟩,
    ⟨_, _, fun_mk l26 c26 k26, PySem.W.mg_of X G a26, kb_mk (by decide) fun us ws h1 h2 => match us, ws, h1, h2 with | [_, _], [_], _, _ => rfl⟩,
    ⟨f22, _, fun_mk l22 c22 k22, ⟨mkC1, a22, i22, kcC1⟩, kb_mk (by decide) fun us ws h1 h2 => match us, ws, h1, h2 with | [_, _, _], [_, _, _], _, _ => rfl⟩,
    ⟨T_PRIMES, PySem.W.mg_of X G cn_PRIMES, fun H => tupIs_sq cl_PRIMES ct_PRIMES H⟩,
    ⟨_, PySem.W.mg_of X G cn_MOST_LETTERS, tk_MOST_LETTERS, rfl⟩,
    PySem.W.mg_of X G aX_InvalidLetter,
    PySem.W.mg_of X G aX_InvalidNumber,
    PySem.W.mg_of X G aX_NoHouse,
    PySem.W.mg_of X G aX_NoRequest,
    PySem.W.mg_of X G aX_NoRoom,
    PySem.W.mg_of X G aX_NotAlone,
    PySem.W.mg_of X G aX_NotHeld,
    PySem.W.mg_of X G aX_ServeError,
    PySem.W.mg_of X G aX_TooLarge,
    ⟨⟨⟨nm1, q1, N1, bs1, _, sn1, sub1, ab1, col1, dd1, m01, m11, m21, m31, m51, xL1, by rfl⟩, saX_InvalidLetter, eX_InvalidLetter, tX_InvalidLetter, kcX_InvalidLetter⟩, nfX_InvalidLetter_letter, PySem.W.mg_of X G aX_InvalidLetter, f1, _, fun_mk l1 c1 k1, iX_InvalidLetter, tfX_InvalidLetter, ((fun_mk l1 c1 k1).binds (ps := ["self", "letter"]) fun _ _ _ _ _ _ us hl => match us, hl with | [_, _], _ => rfl)⟩,
    ⟨⟨⟨nm2, q2, N2, bs2, _, sn2, sub2, ab2, col2, dd2, m02, m12, m22, m32, m52, xL2, by rfl⟩, saX_InvalidNumber, eX_InvalidNumber, tX_InvalidNumber, kcX_InvalidNumber⟩, nfX_InvalidNumber_number, PySem.W.mg_of X G aX_InvalidNumber, f2, _, fun_mk l2 c2 k2, iX_InvalidNumber, tfX_InvalidNumber, ((fun_mk l2 c2 k2).binds (ps := ["self", "number"]) fun _ _ _ _ _ _ us hl => match us, hl with | [_, _], _ => rfl)⟩,
    ⟨pgC0, hdC0, poC0, saC0⟩,
    PySem.W.mg_of X G aC0,
    na_Net_prime,
    na_Net_embed,
    na_Net_shift,
    na_Net_layers,
    na_Net_out,
    na_Net_end,
    ⟨pgC1, hdC1, poC1, saC1⟩,
    PySem.W.mg_of X G aC1,
    na_Ask_prompt,
    na_Ask_most,
    na_Ask_stops,
    na_Ask_tape,
    na_Ask_rule,
    ⟨pgC2, hdC2, poC2, saC2⟩,
    PySem.W.mg_of X G aC2,
    na_Rule_start,
    na_Rule_steps⟩
  exact ⟨PySem.W.fnOf "law" "law" (defArgs s_law) (defBody s_law) (defScope s_law) .none kV52 dc52 pm52 an52 cd52 ct52, fun s v => .of_eq rfl, fun base _ _ => okF_law T (fun_mk l52 c52 k52)⟩
end K07
open PySem PySem.W PyProof.Rows in
set_option maxRecDepth 100000 in
set_option maxHeartbeats 0 in
theorem PySem.Challenge.cw_everyasked_k07_whole_what_the_net_writes_holds : PySem.Challenge.rw_everyasked_k07_whole_what_the_net_writes.Holds := by
  w_on; o_law; k_head; (case hw => w_witness2)
  k_fill
  refine DL.walk_G (l := PySem.Challenge.rw_everyasked_k07_whole_what_the_net_writes) (n := 63) (k := 11) (x := "script") (spec := K07.spEnd) rfl (by decide) rfl ⟨rfl, by decide, by decide⟩ (fun w h Y => PySem.W.kIn_of Y) ?F (fun _ H a ns hl hS => K07.spEnd_at hl hS)
  case F =>
    intro w mg fa h KX G hmg
    refine' K07.all_mk KX G hmg ?aC0 ?aC1 ?aC2 ?aX_ServeError ?aX_InvalidNumber ?aX_InvalidLetter ?aX_NoHouse ?aX_NoRequest ?aX_NoRoom ?aX_NotAlone ?aX_NotHeld ?aX_TooLarge ?xL1 ?saX_InvalidLetter ?kcX_InvalidLetter ?iX_InvalidLetter ?tfX_InvalidLetter ?l1 ?c1 ?k1 ?eX_InvalidLetter ?tX_InvalidLetter ?nfX_InvalidLetter_letter ?xL2 ?saX_InvalidNumber ?kcX_InvalidNumber ?iX_InvalidNumber ?tfX_InvalidNumber ?l2 ?c2 ?k2 ?eX_InvalidNumber ?tX_InvalidNumber ?nfX_InvalidNumber_number ?cn_MOST_LETTERS ?cn_PRIMES ?cl_PRIMES ?ct_PRIMES ?eX_ServeError ?icX_ServeError ?tX_ServeError ?sub_InvalidLetter_ServeError ?ne_InvalidLetter_TooLarge ?icX_TooLarge ?tX_TooLarge ?sub_InvalidLetter_TooLarge ?ne_InvalidLetter_NotHeld ?icX_NotHeld ?tX_NotHeld ?sub_InvalidLetter_NotHeld ?ne_InvalidLetter_NotAlone ?icX_NotAlone ?tX_NotAlone ?sub_InvalidLetter_NotAlone ?ne_InvalidLetter_NoRoom ?icX_NoRoom ?tX_NoRoom ?sub_InvalidLetter_NoRoom ?ne_InvalidLetter_NoRequest ?icX_NoRequest ?tX_NoRequest ?sub_InvalidLetter_NoRequest ?ne_InvalidLetter_NoHouse ?icX_NoHouse ?tX_NoHouse ?sub_InvalidLetter_NoHouse ?ne_InvalidLetter_InvalidNumber ?icX_InvalidNumber ?sub_InvalidLetter_InvalidNumber ?subB_InvalidLetter_ValueError ?caX_InvalidLetter ?cgX ?ctX ?moX_InvalidLetter ?icX_InvalidLetter ?gaX_InvalidLetter ?ggX_InvalidLetter ?hdX_InvalidLetter ?a3 ?l3 ?c3 ?k3 ?a4 ?l4 ?c4 ?k4 ?a5 ?l5 ?c5 ?k5 ?a6 ?l6 ?c6 ?k6 ?a7 ?i7 ?l7 ?c7 ?k7 ?a8 ?i8 ?l8 ?c8 ?k8 ?a9 ?i9 ?l9 ?c9 ?k9 ?a10 ?i10 ?l10 ?c10 ?k10 ?a11 ?i11 ?l11 ?c11 ?k11 ?a12 ?i12 ?l12 ?c12 ?k12 ?a13 ?i13 ?l13 ?c13 ?k13 ?a14 ?l14 ?c14 ?k14 ?a15 ?l15 ?c15 ?k15 ?a16 ?l16 ?c16 ?k16 ?a17 ?l17 ?c17 ?k17 ?a18 ?l18 ?c18 ?k18 ?a19 ?i19 ?l19 ?c19 ?k19 ?a20 ?i20 ?l20 ?c20 ?k20 ?a21 ?i21 ?l21 ?c21 ?k21 ?a22 ?i22 ?l22 ?c22 ?k22 ?a23 ?i23 ?l23 ?c23 ?k23 ?a24 ?i24 ?l24 ?c24 ?k24 ?a25 ?l25 ?c25 ?k25 ?a26 ?l26 ?c26 ?k26 ?nT26_0 ?lT26_0 ?tT26_0 ?a27 ?l27 ?c27 ?k27 ?a28 ?l28 ?c28 ?k28 ?a29 ?l29 ?c29 ?k29 ?a30 ?l30 ?c30 ?k30 ?a31 ?l31 ?c31 ?k31 ?a32 ?l32 ?c32 ?k32 ?a33 ?l33 ?c33 ?k33 ?a34 ?l34 ?c34 ?k34 ?a35 ?l35 ?c35 ?k35 ?a36 ?l36 ?c36 ?k36 ?a37 ?l37 ?c37 ?k37 ?a38 ?l38 ?c38 ?k38 ?a39 ?l39 ?c39 ?k39 ?a40 ?l40 ?c40 ?k40 ?a41 ?l41 ?c41 ?k41 ?a42 ?l42 ?c42 ?k42 ?a43 ?l43 ?c43 ?k43 ?a44 ?l44 ?c44 ?k44 ?a45 ?l45 ?c45 ?k45 ?a46 ?l46 ?c46 ?k46 ?a47 ?l47 ?c47 ?k47 ?a48 ?l48 ?c48 ?k48 ?a49 ?l49 ?c49 ?k49 ?a50 ?l50 ?c50 ?k50 ?a51 ?l51 ?c51 ?k51 ?a52 ?l52 ?c52 ?k52 ?pgC0 ?hdC0 ?poC0 ?saC0 ?mkC0 ?kcC0 ?pgC1 ?hdC1 ?poC1 ?saC1 ?mkC1 ?kcC1 ?pgC2 ?hdC2 ?poC2 ?saC2 ?mkC2 ?kcC2 ?z_ValueError ?z_abs ?z_bool ?z_enumerate ?z_int ?z_isinstance ?z_len ?z_list ?z_max ?z_min ?z_range ?z_repr ?z_str ?z_sum ?z_tuple ?z_zip ?na_Net_prime ?na_Net_embed ?na_Net_shift ?na_Net_layers ?na_Net_out ?na_Net_end ?na_Ask_prompt ?na_Ask_most ?na_Ask_stops ?na_Ask_tape ?na_Ask_rule ?na_Rule_start ?na_Rule_steps
    (case aC0 => k_is)
    (case aC1 => k_is)
    (case aC2 => k_is)
    (case aX_ServeError => k_is)
    (case aX_InvalidNumber => k_is)
    (case aX_InvalidLetter => k_is)
    (case aX_NoHouse => k_is)
    (case aX_NoRequest => k_is)
    (case aX_NoRoom => k_is)
    (case aX_NotAlone => k_is)
    (case aX_NotHeld => k_is)
    (case aX_TooLarge => k_is)
    (case xL1 => k_is)
    (case saX_InvalidLetter => k_is)
    (case kcX_InvalidLetter => k_is)
    (case iX_InvalidLetter => k_is)
    (case tfX_InvalidLetter => k_is)
    (case l1 => k_is)
    (case c1 => k_is)
    (case k1 => k_is)
    (case eX_InvalidLetter => k_is)
    (case tX_InvalidLetter => k_is)
    (case nfX_InvalidLetter_letter => k_is)
    (case xL2 => k_is)
    (case saX_InvalidNumber => k_is)
    (case kcX_InvalidNumber => k_is)
    (case iX_InvalidNumber => k_is)
    (case tfX_InvalidNumber => k_is)
    (case l2 => k_is)
    (case c2 => k_is)
    (case k2 => k_is)
    (case eX_InvalidNumber => k_is)
    (case tX_InvalidNumber => k_is)
    (case nfX_InvalidNumber_number => k_is)
    (case cn_MOST_LETTERS => k_is)
    (case cn_PRIMES => k_is)
    (case cl_PRIMES => k_is)
    (case ct_PRIMES => first | rfl | decide +kernel)
    (case eX_ServeError => k_is)
    (case icX_ServeError => k_is)
    (case tX_ServeError => k_is)
    (case sub_InvalidLetter_ServeError => k_is)
    (case ne_InvalidLetter_TooLarge => decide)
    (case icX_TooLarge => k_is)
    (case tX_TooLarge => k_is)
    (case sub_InvalidLetter_TooLarge => k_is)
    (case ne_InvalidLetter_NotHeld => decide)
    (case icX_NotHeld => k_is)
    (case tX_NotHeld => k_is)
    (case sub_InvalidLetter_NotHeld => k_is)
    (case ne_InvalidLetter_NotAlone => decide)
    (case icX_NotAlone => k_is)
    (case tX_NotAlone => k_is)
    (case sub_InvalidLetter_NotAlone => k_is)
    (case ne_InvalidLetter_NoRoom => decide)
    (case icX_NoRoom => k_is)
    (case tX_NoRoom => k_is)
    (case sub_InvalidLetter_NoRoom => k_is)
    (case ne_InvalidLetter_NoRequest => decide)
    (case icX_NoRequest => k_is)
    (case tX_NoRequest => k_is)
    (case sub_InvalidLetter_NoRequest => k_is)
    (case ne_InvalidLetter_NoHouse => decide)
    (case icX_NoHouse => k_is)
    (case tX_NoHouse => k_is)
    (case sub_InvalidLetter_NoHouse => k_is)
    (case ne_InvalidLetter_InvalidNumber => decide)
    (case icX_InvalidNumber => k_is)
    (case sub_InvalidLetter_InvalidNumber => k_is)
    (case subB_InvalidLetter_ValueError => k_is)
    (case caX_InvalidLetter => k_is)
    (case cgX => k_is)
    (case ctX => k_is)
    (case moX_InvalidLetter => k_is)
    (case icX_InvalidLetter => k_is)
    (case gaX_InvalidLetter => k_is)
    (case ggX_InvalidLetter => k_is)
    (case hdX_InvalidLetter => k_is)
    (case a3 => k_is)
    (case l3 => k_is)
    (case c3 => k_is)
    (case k3 => k_is)
    (case a4 => k_is)
    (case l4 => k_is)
    (case c4 => k_is)
    (case k4 => k_is)
    (case a5 => k_is)
    (case l5 => k_is)
    (case c5 => k_is)
    (case k5 => k_is)
    (case a6 => k_is)
    (case l6 => k_is)
    (case c6 => k_is)
    (case k6 => k_is)
    (case a7 => k_is)
    (case i7 => k_is)
    (case l7 => k_is)
    (case c7 => k_is)
    (case k7 => k_is)
    (case a8 => k_is)
    (case i8 => k_is)
    (case l8 => k_is)
    (case c8 => k_is)
    (case k8 => k_is)
    (case a9 => k_is)
    (case i9 => k_is)
    (case l9 => k_is)
    (case c9 => k_is)
    (case k9 => k_is)
    (case a10 => k_is)
    (case i10 => k_is)
    (case l10 => k_is)
    (case c10 => k_is)
    (case k10 => k_is)
    (case a11 => k_is)
    (case i11 => k_is)
    (case l11 => k_is)
    (case c11 => k_is)
    (case k11 => k_is)
    (case a12 => k_is)
    (case i12 => k_is)
    (case l12 => k_is)
    (case c12 => k_is)
    (case k12 => k_is)
    (case a13 => k_is)
    (case i13 => k_is)
    (case l13 => k_is)
    (case c13 => k_is)
    (case k13 => k_is)
    (case a14 => k_is)
    (case l14 => k_is)
    (case c14 => k_is)
    (case k14 => k_is)
    (case a15 => k_is)
    (case l15 => k_is)
    (case c15 => k_is)
    (case k15 => k_is)
    (case a16 => k_is)
    (case l16 => k_is)
    (case c16 => k_is)
    (case k16 => k_is)
    (case a17 => k_is)
    (case l17 => k_is)
    (case c17 => k_is)
    (case k17 => k_is)
    (case a18 => k_is)
    (case l18 => k_is)
    (case c18 => k_is)
    (case k18 => k_is)
    (case a19 => k_is)
    (case i19 => k_is)
    (case l19 => k_is)
    (case c19 => k_is)
    (case k19 => k_is)
    (case a20 => k_is)
    (case i20 => k_is)
    (case l20 => k_is)
    (case c20 => k_is)
    (case k20 => k_is)
    (case a21 => k_is)
    (case i21 => k_is)
    (case l21 => k_is)
    (case c21 => k_is)
    (case k21 => k_is)
    (case a22 => k_is)
    (case i22 => k_is)
    (case l22 => k_is)
    (case c22 => k_is)
    (case k22 => k_is)
    (case a23 => k_is)
    (case i23 => k_is)
    (case l23 => k_is)
    (case c23 => k_is)
    (case k23 => k_is)
    (case a24 => k_is)
    (case i24 => k_is)
    (case l24 => k_is)
    (case c24 => k_is)
    (case k24 => k_is)
    (case a25 => k_is)
    (case l25 => k_is)
    (case c25 => k_is)
    (case k25 => k_is)
    (case a26 => k_is)
    (case l26 => k_is)
    (case c26 => k_is)
    (case k26 => k_is)
    (case nT26_0 => k_is)
    (case lT26_0 => k_is)
    (case tT26_0 => first | rfl | decide +kernel)
    (case a27 => k_is)
    (case l27 => k_is)
    (case c27 => k_is)
    (case k27 => k_is)
    (case a28 => k_is)
    (case l28 => k_is)
    (case c28 => k_is)
    (case k28 => k_is)
    (case a29 => k_is)
    (case l29 => k_is)
    (case c29 => k_is)
    (case k29 => k_is)
    (case a30 => k_is)
    (case l30 => k_is)
    (case c30 => k_is)
    (case k30 => k_is)
    (case a31 => k_is)
    (case l31 => k_is)
    (case c31 => k_is)
    (case k31 => k_is)
    (case a32 => k_is)
    (case l32 => k_is)
    (case c32 => k_is)
    (case k32 => k_is)
    (case a33 => k_is)
    (case l33 => k_is)
    (case c33 => k_is)
    (case k33 => k_is)
    (case a34 => k_is)
    (case l34 => k_is)
    (case c34 => k_is)
    (case k34 => k_is)
    (case a35 => k_is)
    (case l35 => k_is)
    (case c35 => k_is)
    (case k35 => k_is)
    (case a36 => k_is)
    (case l36 => k_is)
    (case c36 => k_is)
    (case k36 => k_is)
    (case a37 => k_is)
    (case l37 => k_is)
    (case c37 => k_is)
    (case k37 => k_is)
    (case a38 => k_is)
    (case l38 => k_is)
    (case c38 => k_is)
    (case k38 => k_is)
    (case a39 => k_is)
    (case l39 => k_is)
    (case c39 => k_is)
    (case k39 => k_is)
    (case a40 => k_is)
    (case l40 => k_is)
    (case c40 => k_is)
    (case k40 => k_is)
    (case a41 => k_is)
    (case l41 => k_is)
    (case c41 => k_is)
    (case k41 => k_is)
    (case a42 => k_is)
    (case l42 => k_is)
    (case c42 => k_is)
    (case k42 => k_is)
    (case a43 => k_is)
    (case l43 => k_is)
    (case c43 => k_is)
    (case k43 => k_is)
    (case a44 => k_is)
    (case l44 => k_is)
    (case c44 => k_is)
    (case k44 => k_is)
    (case a45 => k_is)
    (case l45 => k_is)
    (case c45 => k_is)
    (case k45 => k_is)
    (case a46 => k_is)
    (case l46 => k_is)
    (case c46 => k_is)
    (case k46 => k_is)
    (case a47 => k_is)
    (case l47 => k_is)
    (case c47 => k_is)
    (case k47 => k_is)
    (case a48 => k_is)
    (case l48 => k_is)
    (case c48 => k_is)
    (case k48 => k_is)
    (case a49 => k_is)
    (case l49 => k_is)
    (case c49 => k_is)
    (case k49 => k_is)
    (case a50 => k_is)
    (case l50 => k_is)
    (case c50 => k_is)
    (case k50 => k_is)
    (case a51 => k_is)
    (case l51 => k_is)
    (case c51 => k_is)
    (case k51 => k_is)
    (case a52 => k_is)
    (case l52 => k_is)
    (case c52 => k_is)
    (case k52 => k_is)
    (case pgC0 => k_is)
    (case hdC0 => k_is)
    (case poC0 => k_is)
    (case saC0 => k_is)
    (case mkC0 => k_is)
    (case kcC0 => k_is)
    (case pgC1 => k_is)
    (case hdC1 => k_is)
    (case poC1 => k_is)
    (case saC1 => k_is)
    (case mkC1 => k_is)
    (case kcC1 => k_is)
    (case pgC2 => k_is)
    (case hdC2 => k_is)
    (case poC2 => k_is)
    (case saC2 => k_is)
    (case mkC2 => k_is)
    (case kcC2 => k_is)
    (case z_ValueError => k_is)
    (case z_abs => k_is)
    (case z_bool => k_is)
    (case z_enumerate => k_is)
    (case z_int => k_is)
    (case z_isinstance => k_is)
    (case z_len => k_is)
    (case z_list => k_is)
    (case z_max => k_is)
    (case z_min => k_is)
    (case z_range => k_is)
    (case z_repr => k_is)
    (case z_str => k_is)
    (case z_sum => k_is)
    (case z_tuple => k_is)
    (case z_zip => k_is)
    (case na_Net_prime => k_is)
    (case na_Net_embed => k_is)
    (case na_Net_shift => k_is)
    (case na_Net_layers => k_is)
    (case na_Net_out => k_is)
    (case na_Net_end => k_is)
    (case na_Ask_prompt => k_is)
    (case na_Ask_most => k_is)
    (case na_Ask_stops => k_is)
    (case na_Ask_tape => k_is)
    (case na_Ask_rule => k_is)
    (case na_Rule_start => k_is)
    (case na_Rule_steps => k_is)
