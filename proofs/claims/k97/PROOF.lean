import PyProof.Rows.All
import Wide.All
import OpenK.AllK
import Wide.FinOn
import HandS.ForMost
import HandS.ForExc
import HandS.IsInst
import HandS.Defaults
import HandS.RaiseMore
import HandS.ExcInit
import HandS.ExcField
import HandS.ClsMeth
import HandS.FStr
import HandS.HeadHook1
import HandS.More
import HandS.HeadHook2
import HandS.HeadHook3
import HandS.HeadHook4
import KE.KStateDown
import HandS.Head0
import HandS.Head1
import HandS.Head2
import HandS.HeadEnd
import HandS.Small
import HandS.ReplaceLit
import HandS.ReplaceList
import PySem.Challenge.RW_nowhereleft_k97_texts_of_views_and_paper
set_option Elab.async false
set_option linter.all false
set_option maxRecDepth 100000
set_option maxHeartbeats 4000000
/-! NBa: rules that choose by the values, the heap of a body in parts, steps of a reading. -/
namespace NB
open PySem PySem.Spec PyProof.Rows L2

/-! ### operators by the values -/
section
variable {X : Cx} {K : PySem.W.Frag} {H : Hp} {Q : VK} {i j : Int} {x y : V} {a b : Str} {l p : Addr} {xs zs : List V}
/-- a + b: ints, texts, two lists -/
def rAddG : R2 := fun x y H Q => (∃ i j, x = .int i ∧ y = .int j ∧ Q (.int (i + j)) H) ∨ (∃ i j, x = .str i ∧ y = .str j ∧ i.length + j.length ≤ sizeLine ∧ Q (.str (i ++ j)) H) ∨ rCat x y H Q
theorem op_addG : OpR X (binaryOp .Add) rAddG := op_add.or (op_add_str.or op_cat)
theorem a_addI (h : Q (.int (i + j)) H) : rAddG (.int i) (.int j) H Q := .inl ⟨_, _, rfl, rfl, h⟩
theorem a_addS (hz : a.length + b.length ≤ sizeLine) (h : Q (.str (a ++ b)) H) : rAddG (.str a) (.str b) H Q := .inr (.inl ⟨_, _, rfl, rfl, hz, h⟩)
theorem a_addL (hl : H l = some (.lst xs)) (hp : H p = some (.lst zs)) (hz : xs.length + zs.length ≤ sizeLine) (h : ∀ q, H q = none → Q (.ref q) (upd H q (.lst (xs ++ zs)))) : rAddG (.ref l) (.ref p) H Q :=
  .inr (.inr ⟨_, _, _, _, rfl, rfl, hl, hp, hz, h⟩)
/-- a == b: scalars, data -/
def rEqG (K : PySem.W.Frag) : R2 := fun x y H Q => rEq x y H Q ∨ rEqD K x y H Q
def rNeG (K : PySem.W.Frag) : R2 := fun x y H Q => rNe x y H Q ∨ rNeD K x y H Q
theorem op_eqG (hu : X.A.units + 64 < cLine) : OpR X (compareOp .Eq) (rEqG X.K) := op_eq.or (op_eqD hu)
theorem op_neG (hu : X.A.units + 64 < cLine) : OpR X (compareOp .NotEq) (rNeG X.K) := op_ne.or (op_neD hu)
theorem a_eq (hs : scal x y = true) (h : Q (.bl (decide (x = y))) H) : rEqG K x y H Q := .inl ⟨hs, h⟩
theorem a_ne (hs : scal x y = true) (h : Q (.bl (!decide (x = y))) H) : rNeG K x y H Q := .inl ⟨hs, h⟩
theorem a_eqD {d e : PyData} (hd : Dp K H x d) (he : Dp K H y e) (sd : SeqAt.shaped d = true) (se : SeqAt.shaped e = true) (h : Q (.bl (PyData.eqv d e)) H) : rEqG K x y H Q := .inr ⟨d, e, hd, he, sd, se, h⟩
theorem a_neD {d e : PyData} (hd : Dp K H x d) (he : Dp K H y e) (sd : SeqAt.shaped d = true) (se : SeqAt.shaped e = true) (h : Q (.bl (!PyData.eqv d e)) H) : rNeG K x y H Q := .inr ⟨d, e, hd, he, sd, se, h⟩
/-- a in b: one sign in a text, a flat thing in a list or tuple -/
def rInG (K : PySem.W.Frag) : R2 := fun x y H Q => (∃ (c : Nat) (z : Str), x = .str ⟨#[c]⟩ ∧ y = .str z ∧ Q (.bl (decide (c ∈ z.cps.toList))) H) ∨ rIn K false x y H Q
def rNinG (K : PySem.W.Frag) : R2 := fun x y H Q => (∃ (c : Nat) (z : Str), x = .str ⟨#[c]⟩ ∧ y = .str z ∧ Q (.bl (!decide (c ∈ z.cps.toList))) H) ∨ rIn K true x y H Q
theorem op_inG : OpR X (compareOp .In) (rInG X.K) := op_in_sign.or op_in_seq
theorem op_ninG : OpR X (compareOp .NotIn) (rNinG X.K) := op_notIn_sign.or op_notIn_seq
theorem a_inS {c : Nat} (h : Q (.bl (decide (c ∈ a.cps.toList))) H) : rInG K (.str ⟨#[c]⟩) (.str a) H Q := .inl ⟨_, _, rfl, rfl, h⟩
theorem a_ninS {c : Nat} (h : Q (.bl (!decide (c ∈ a.cps.toList))) H) : rNinG K (.str ⟨#[c]⟩) (.str a) H Q := .inl ⟨_, _, rfl, rfl, h⟩
theorem a_inT (hp : SqT K H p xs) (hx : flatV x = true) (hf : xs.all flatV = true) (h : Q (.bl (inV x xs)) H) : rInG K x (.ref p) H Q := .inr ⟨_, _, rfl, .inr hp, hx, hf, h⟩
theorem a_inL (hp : SqL K H p xs) (hx : flatV x = true) (hf : xs.all flatV = true) (h : Q (.bl (inV x xs)) H) : rInG K x (.ref p) H Q := .inr ⟨_, _, rfl, .inl hp, hx, hf, h⟩
theorem a_ninT (hp : SqT K H p xs) (hx : flatV x = true) (hf : xs.all flatV = true) (h : Q (.bl (!inV x xs)) H) : rNinG K x (.ref p) H Q := .inr ⟨_, _, rfl, .inr hp, hx, hf, h⟩
theorem a_ninL (hp : SqL K H p xs) (hx : flatV x = true) (hf : xs.all flatV = true) (h : Q (.bl (!inV x xs)) H) : rNinG K x (.ref p) H Q := .inr ⟨_, _, rfl, .inl hp, hx, hf, h⟩
/-- x[i] -/
theorem a_ixL {v : V} (hp : SqL K H p xs) (hi : atI xs i = some v) (h : Q v H) : rIx K (.ref p) (.int i) H Q := .inl ⟨_, _, _, _, rfl, rfl, hp, hi, h⟩
theorem a_ixT {v : V} (hp : SqT K H p xs) (hi : atI xs i = some v) (h : Q v H) : rIx K (.ref p) (.int i) H Q := .inr (.inl ⟨_, _, _, _, rfl, rfl, hp, hi, h⟩)
theorem a_ixS {c : Nat} (hz : a.length ≤ sizeLine) (hi : atI a.cps.toList i = some c) (h : Q (.str ⟨#[c]⟩) H) : rIx K (.str a) (.int i) H Q := .inr (.inr ⟨_, _, _, rfl, rfl, hz, hi, h⟩)
/-- x[a:b] -/
def rSlG (K : PySem.W.Frag) : V → Option Int → Option Int → Hp → VK → Prop := fun x lo hi H Q => rSlL K x lo hi H Q ∨ (rSlT K x lo hi H Q ∨ rSlS x lo hi H Q)
theorem sl_G : SlR X (rSlG X.K) := sl_list.or (sl_tup.or sl_str)
theorem a_slL {lo hi : Option Int} (hp : SqL K H p xs) (h : ∀ q, H q = none → Q (.ref q) (upd H q (.lst (cutV xs lo hi)))) : rSlG K (.ref p) lo hi H Q := .inl ⟨_, _, rfl, hp, h⟩
theorem a_slS {lo hi : Option Int} (hz : a.length ≤ sizeLine) (h : Q (.str (cutS a lo hi)) H) : rSlG K (.str a) lo hi H Q := .inr (.inr ⟨_, rfl, hz, h⟩)
/-- len(x), str(x), int(x) -/
def rLenG (K : PySem.W.Frag) : List V → Hp → VK → Prop := fun xs H Q => ∃ x n, xs = [x] ∧ LenV K x H n ∧ Q (.int n) H
theorem call_lenG : CallR X (.builtin "len") (rLenG X.K) := call_len
theorem a_lenS (hz : a.length ≤ sizeLine) (h : Q (.int a.length) H) : rLenG K [.str a] H Q := ⟨_, _, rfl, ⟨hz, rfl⟩, h⟩
theorem a_lenL (hp : SqL K H p xs) (h : Q (.int xs.length) H) : rLenG K [.ref p] H Q := ⟨_, _, rfl, .inl ⟨_, hp, rfl⟩, h⟩
theorem a_lenT (hp : SqT K H p xs) (h : Q (.int xs.length) H) : rLenG K [.ref p] H Q := ⟨_, _, rfl, .inr ⟨_, hp, rfl⟩, h⟩
end

/-! ### the heap of a body: G the ground (what stood, never written here), N what is new and stands for good, L what is written here -/
def ho0 : Hp := fun _ => none
def uni (A B : Hp) : Hp := fun a => match A a with
  | some o => some o
  | none => B a
theorem uni_l {A B : Hp} : Same A (uni A B) := fun a o h => by unfold uni; rw [h]
theorem uni_r {A B : Hp} (d : ∀ a o, B a = some o → A a = none) : Same B (uni A B) := fun a o h => by unfold uni; rw [d a o h]; exact h
structure Own (G N : Hp) (L : List (Addr × HO)) (H : Hp) : Prop where
  g : Same G H
  n : Same N H
  nf : ∀ a o, N a = some o → G a = none
  at_ : ∀ p ∈ L, H p.1 = some p.2
  lg : ∀ p ∈ L, G p.1 = none
  ln : ∀ p ∈ L, N p.1 = none
  nd : (L.map (·.1)).Nodup
section
variable {G N H H' : Hp} {L L' : List (Addr × HO)} {a p : Addr} {o u : HO}
theorem Own.start (H : Hp) : Own H ho0 [] H := ⟨Same.refl H, (fun _ _ h => nomatch h), (fun _ _ h => nomatch h), (fun _ h => nomatch h), (fun _ h => nomatch h), (fun _ h => nomatch h), List.nodup_nil⟩
theorem Own.get (O : Own G N L H) (i : Nat) (h : L[i]? = some (a, o) := by rfl) : H a = some o := O.at_ (a, o) (List.mem_of_getElem? h)
theorem Same.none {A B : Hp} (e : Same A B) (h : B a = none) : A a = none := e.free h
theorem Own.notin (O : Own G N L H) (hp : H p = none) : p ∉ L.map (·.1) := fun h => by
  obtain ⟨q, hq, e⟩ := List.mem_map.mp h
  have := O.at_ q hq
  rw [e, hp] at this
  cases this
/-- all that stood stands: a new object or a callee that writes nothing of ours -/
theorem Own.ext (O : Own G N L H) (s : Same H H') : Own G N L H' :=
  ⟨O.g.trans s, O.n.trans s, O.nf, fun q h => s _ _ (O.at_ q h), O.lg, O.ln, O.nd⟩
theorem same_new (hp : H p = none) : Same H (upd H p o) := fun b u e => by rw [upd_ne (ne_of_none e hp)]; exact e
/-- a new object that is written later -/
theorem Own.new (O : Own G N L H) (hp : H p = none) : Own G N ((p, o) :: L) (upd H p o) :=
  ⟨O.g.trans (same_new hp), O.n.trans (same_new hp), O.nf, fun q h => by
    rcases List.mem_cons.mp h with rfl | h
    · exact upd_same
    · exact same_new hp _ _ (O.at_ q h), fun q h => by
    rcases List.mem_cons.mp h with rfl | h
    · exact O.g.free hp
    · exact O.lg q h, fun q h => by
    rcases List.mem_cons.mp h with rfl | h
    · exact O.n.free hp
    · exact O.ln q h, by
    rw [List.map_cons, List.nodup_cons]
    exact ⟨O.notin hp, O.nd⟩⟩
/-- a new object that stands for good -/
theorem Own.frz (O : Own G N L H) (hp : H p = none) : Own G (upd N p o) L (upd H p o) :=
  ⟨O.g.trans (same_new hp), fun b u e => by
    by_cases hb : b = p
    · subst hb
      rw [upd_same] at e ⊢
      exact e
    · rw [upd_ne hb] at e ⊢
      exact O.n b u e, fun b u e => by
    by_cases hb : b = p
    · subst hb
      exact O.g.free hp
    · rw [upd_ne hb] at e
      exact O.nf b u e, fun q h => same_new hp _ _ (O.at_ q h), O.lg, fun q h => by
    rw [upd_ne (ne_of_none (O.at_ q h) hp)]
    exact O.ln q h, O.nd⟩
/-- a new thing written before that stands for good from here on -/
theorem Own.fix (O : Own G N ((p, o) :: L) H) : Own G (upd N p o) L H := by
  have hp := O.at_ (p, o) List.mem_cons_self
  have hnd := O.nd
  rw [List.map_cons, List.nodup_cons] at hnd
  refine ⟨O.g, fun b u e => ?_, fun b u e => ?_, fun q h => O.at_ q (List.mem_cons_of_mem _ h), fun q h => O.lg q (List.mem_cons_of_mem _ h), fun q h => ?_, hnd.2⟩
  · by_cases hb : b = p
    · subst hb
      rw [upd_same] at e
      cases e
      exact hp
    · rw [upd_ne hb] at e
      exact O.n b u e
  · by_cases hb : b = p
    · subst hb
      exact O.lg (b, o) List.mem_cons_self
    · rw [upd_ne hb] at e
      exact O.nf b u e
  · rw [upd_ne]
    · exact O.ln q (List.mem_cons_of_mem _ h)
    · intro z
      exact hnd.1 (List.mem_map.mpr ⟨q, h, z⟩)
theorem Own.forget (O : Own G N ((p, o) :: L) H) : Own G N L H := by
  have hnd := O.nd
  rw [List.map_cons, List.nodup_cons] at hnd
  exact ⟨O.g, O.n, O.nf, fun q h => O.at_ q (List.mem_cons_of_mem _ h), fun q h => O.lg q (List.mem_cons_of_mem _ h), fun q h => O.ln q (List.mem_cons_of_mem _ h), hnd.2⟩
/-- the i-th thing is written -/
theorem Own.put (O : Own G N L H) (i : Nat) (h : L[i]? = some (a, o) := by rfl) : Own G N (L.set i (a, u)) (upd H a u) := by
  have hm : (a, o) ∈ L := List.mem_of_getElem? h
  have hlen : i < L.length := (List.getElem?_eq_some_iff.mp h).1
  have keys : (L.set i (a, u)).map (·.1) = L.map (·.1) := by
    rw [List.map_set]
    refine List.ext_getElem? fun j => ?_
    by_cases hj : i = j
    · subst hj
      rw [List.getElem?_set_self (by rw [List.length_map]; exact hlen), List.getElem?_map, h]
      rfl
    · rw [List.getElem?_set_ne hj]
  have inL : ∀ q ∈ L.set i (a, u), ∃ r ∈ L, r.1 = q.1 := fun q hq => by
    have : q.1 ∈ (L.set i (a, u)).map (·.1) := List.mem_map.mpr ⟨q, hq, rfl⟩
    rw [keys] at this
    obtain ⟨r, hr, e⟩ := List.mem_map.mp this
    exact ⟨r, hr, e⟩
  refine ⟨fun b v e => ?_, fun b v e => ?_, O.nf, fun q hq => ?_, fun q hq => ?_, fun q hq => ?_, by rw [keys]; exact O.nd⟩
  · rw [upd_ne (ne_of_none e (O.lg _ hm))]
    exact O.g b v e
  · rw [upd_ne (ne_of_none e (O.ln _ hm))]
    exact O.n b v e
  · by_cases hqa : q.1 = a
    · have nd2 : ((L.set i (a, u)).map (·.1)).Nodup := by rw [keys]; exact O.nd
      obtain ⟨j, hj, e⟩ := List.mem_iff_getElem.mp hq
      have hj' : j < ((L.set i (a, u)).map (·.1)).length := by rw [List.length_map]; exact hj
      have hi' : i < ((L.set i (a, u)).map (·.1)).length := by rw [List.length_map, List.length_set]; exact hlen
      have eij : ((L.set i (a, u)).map (·.1))[j] = ((L.set i (a, u)).map (·.1))[i] := by
        rw [List.getElem_map, List.getElem_map, e, List.getElem_set_self]
        exact hqa
      have ij : j = i := (List.getElem_inj nd2).mp eij
      subst ij
      rw [List.getElem_set_self] at e
      rw [← e]
      exact upd_same
    · rw [upd_ne hqa]
      obtain ⟨j, hj, e⟩ := List.mem_iff_getElem.mp hq
      rw [List.getElem_set] at e
      split at e
      · rw [← e] at hqa
        exact absurd rfl hqa
      · rw [← e]
        exact O.at_ _ (List.getElem_mem _)
  · obtain ⟨r, hr, e⟩ := inL q hq
    rw [← e]
    exact O.lg r hr
  · obtain ⟨r, hr, e⟩ := inL q hq
    rw [← e]
    exact O.ln r hr
/-- behind a callee that writes things of ours alone and leaves new things for good -/
theorem Own.call {N' : Hp} (O : Own G N L H) (hk : L'.map (·.1) = L.map (·.1)) (hl : ∀ q ∈ L', H' q.1 = some q.2) (k : ∀ b u, b ∉ L.map (·.1) → H b = some u → H' b = some u) (nn : ∀ b u, N' b = some u → H b = none) (ns : Same N' H') :
    Own G (uni N N') L' H' := by
  have inL : ∀ q ∈ L', ∃ r ∈ L, r.1 = q.1 := fun q hq => by
    have : q.1 ∈ L'.map (·.1) := List.mem_map.mpr ⟨q, hq, rfl⟩
    rw [hk] at this
    obtain ⟨r, hr, e⟩ := List.mem_map.mp this
    exact ⟨r, hr, e⟩
  have off : ∀ {A : Hp} {b : Addr} {u : HO}, (∀ q ∈ L, A q.1 = none) → A b = some u → b ∉ L.map (·.1) := fun {A b u} hA e hb => by
    obtain ⟨r, hr, er⟩ := List.mem_map.mp hb
    have := hA r hr
    rw [er, e] at this
    cases this
  refine ⟨fun b u e => k b u (off O.lg e) (O.g b u e), fun b u e => ?_, fun b u e => ?_, hl, fun q hq => ?_, fun q hq => ?_, by rw [hk]; exact O.nd⟩
  · unfold uni at e
    cases z : N b with
    | some v =>
      rw [z] at e
      cases e
      exact k b _ (off O.ln z) (O.n b _ z)
    | none =>
      rw [z] at e
      exact ns b u e
  · unfold uni at e
    cases z : N b with
    | some v => exact O.nf b v z
    | none =>
      rw [z] at e
      exact O.g.free (nn b u e)
  · obtain ⟨r, hr, e⟩ := inL q hq
    rw [← e]
    exact O.lg r hr
  · obtain ⟨r, hr, e⟩ := inL q hq
    rw [← e]
    unfold uni
    rw [O.ln r hr]
    cases z : N' r.1 with
    | none => rfl
    | some v =>
      have := nn _ _ z
      rw [O.at_ r hr] at this
      cases this
theorem Own.call0 {N' : Hp} (O : Own G N L H) (s : Same H H') (nn : ∀ b u, N' b = some u → H b = none) (ns : Same N' H') : Own G (uni N N') L H' :=
  O.call rfl (fun q h => s _ _ (O.at_ q h)) (fun b u _ e => s b u e) nn ns
theorem Own.call1 {N' : Hp} (O : Own G N L H) (c : Own H N' [] H') : Own G (uni N N') L H' := O.call0 c.g c.nf c.n
theorem Own.uni_new {N' : Hp} (O : Own G N L H) (nn : ∀ b u, N' b = some u → H b = none) : Same N' (uni N N') := fun a o h => by
  unfold uni
  cases e : N a with
  | none => exact h
  | some u =>
    have := nn a o h
    rw [O.n a u e] at this
    cases this
end
/-! ### data -/
theorem Same.sqT {K : PySem.W.Frag} {H H' : Hp} {a : Addr} {xs : List V} (e : Same H H') (h : SqT K H a xs) : SqT K H' a xs := by
  rcases h with (h | ⟨o, h⟩) | h
  · exact .inl (.inl (e _ _ h))
  · exact .inl (.inr ⟨o, e _ _ h⟩)
  · exact .inr h
mutual
theorem dp_mono {K : PySem.W.Frag} {H H' : Hp} (e : Same H H') : ∀ {v : V} {d : PyData}, Dp K H v d → Dp K H' v d
  | _, _, .non => .non
  | _, _, .bl b => .bl b
  | _, _, .int i => .int i
  | _, _, .str x => .str x
  | _, _, .lst h hs => .lst (e.seq h) (dpAll_mono e hs)
  | _, _, .tup h hs => .tup (Same.sqT e h) (dpAll_mono e hs)
theorem dpAll_mono {K : PySem.W.Frag} {H H' : Hp} (e : Same H H') : ∀ {v : List V} {d : List PyData}, DpAll K H v d → DpAll K H' v d
  | _, _, .nil => .nil
  | _, _, .cons h hs => .cons (dp_mono e h) (dpAll_mono e hs)
end
theorem dpAll_get {K : PySem.W.Frag} {H : Hp} : ∀ {xs : List V} {ds : List PyData} {i : Nat} {d : PyData}, DpAll K H xs ds → ds[i]? = some d → ∃ v, xs[i]? = some v ∧ Dp K H v d
  | _, _, _, _, .nil, e => by simp at e
  | _, _, 0, _, .cons h _, e => by simp at e; subst e; exact ⟨_, rfl, h⟩
  | _, _, i + 1, d, .cons _ hs, e => by
    obtain ⟨v, h1, h2⟩ := dpAll_get (i := i) (d := d) hs (by simpa using e)
    exact ⟨v, by simpa using h1, h2⟩
theorem dpAll_get' {K : PySem.W.Frag} {H : Hp} : ∀ {xs : List V} {ds : List PyData} {i : Nat} {v : V}, DpAll K H xs ds → xs[i]? = some v → ∃ d, ds[i]? = some d ∧ Dp K H v d
  | _, _, _, _, .nil, e => by simp at e
  | _, _, 0, _, .cons h _, e => by simp at e; subst e; exact ⟨_, rfl, h⟩
  | _, _, i + 1, d, .cons _ hs, e => by
    obtain ⟨v, h1, h2⟩ := dpAll_get' (i := i) (v := d) hs (by simpa using e)
    exact ⟨v, by simpa using h1, h2⟩
theorem dpAll_len {K : PySem.W.Frag} {H : Hp} : ∀ {xs : List V} {ds : List PyData}, DpAll K H xs ds → xs.length = ds.length
  | _, _, .nil => rfl
  | _, _, .cons _ hs => by rw [List.length_cons, List.length_cons, dpAll_len hs]
theorem dpAll_app {K : PySem.W.Frag} {H : Hp} : ∀ {xs ys : List V} {ds es : List PyData}, DpAll K H xs ds → DpAll K H ys es → DpAll K H (xs ++ ys) (ds ++ es)
  | _, _, _, _, .nil, h => h
  | _, _, _, _, .cons a h, g => .cons a (dpAll_app h g)
theorem dpAll_ints {K : PySem.W.Frag} {H : Hp} : ∀ ns : List Int, DpAll K H (ns.map V.int) (ns.map PyData.int)
  | [] => .nil
  | n :: r => .cons (.int n) (dpAll_ints r)
theorem dpAll_strs {K : PySem.W.Frag} {H : Hp} : ∀ ns : List Str, DpAll K H (ns.map V.str) (ns.map PyData.str)
  | [] => .nil
  | n :: r => .cons (.str n) (dpAll_strs r)
theorem ints_of_dp {K : PySem.W.Frag} {H : Hp} : ∀ {xs : List V} {ns : List Int}, DpAll K H xs (ns.map PyData.int) → xs = ns.map V.int
  | _, [], .nil => rfl
  | _, n :: r, .cons (.int _) h => by rw [ints_of_dp h]; rfl
theorem strs_of_dp {K : PySem.W.Frag} {H : Hp} : ∀ {xs : List V} {ns : List Str}, DpAll K H xs (ns.map PyData.str) → xs = ns.map V.str
  | _, [], .nil => rfl
  | _, n :: r, .cons (.str _) h => by rw [strs_of_dp h]; rfl
end NB

set_option maxRecDepth 100000
set_option maxHeartbeats 4000000
/-! NBb: one lemma a construct: what a reading asks, as a step. -/
namespace NB
open PySem PySem.Spec PyProof.Rows L2 TL
section
variable {X : Cx} {K : PySem.W.Frag}
/-- str(x) of an int, of a text -/
def rStrG : List V → Hp → VK → Prop := fun xs H Q => (∃ i, xs = [.int i] ∧ i.natAbs.log2 < 1920 ∧ Q (.str (toString i)) H) ∨ ∃ z, xs = [.str z] ∧ Q (.str z) H
theorem call_strG : CallR X (.type "str") rStrG := by
  intro pins s σ H xs us Q I r h
  rcases h with h | ⟨z, rfl, q⟩
  · exact call_str_int pins s σ H xs us Q I r h
  · exact SkE.call_str_str pins s σ H _ us Q I r ⟨z, rfl, q⟩
/-- int(x) of an int, of a text -/
def rIntG : List V → Hp → VK → Prop := fun xs H Q => (∃ i, xs = [.int i] ∧ Q (.int i) H) ∨ ∃ a n, xs = [.str a] ∧ PySem.intText? a = some n ∧ a.length ≤ 640 ∧ Q (.int n) H
theorem call_intG : CallR X (.type "int") rIntG := by
  intro pins s σ H xs us Q I r h
  rcases h with ⟨i, e, q⟩ | h
  · exact call_int1 pins s σ H xs us Q I r (.inl ⟨i, e, q⟩)
  · exact call_int_str pins s σ H xs us Q I r h
end
section
variable {K : PySem.W.Frag} {σ : L2.St} {H : Hp} {Q : VK} {v x y : V} {ta tb te : TE} {t u : TT} {i : Nat} {D : Ends} {t1 t2 ts : TS} {g : TG} {tr : TA} {r : R2} {sp : Sp} {dvs vs : List V} {E : XK} {QA : List V → Hp → Prop} {QT : Bool → Hp → Prop}
theorem x_seq (h : t1 { D with nx := t2 D } σ H) : tSeq t1 t2 D σ H := h
theorem x_next (h : D.nx σ H) : tNext D σ H := h
theorem x_asg (h : te σ H fun x H1 => g x σ H1 D.nx) : tAsg te g D σ H := h
theorem x_drop (h : te σ H fun _ H1 => D.nx σ H1) : tDrop te D σ H := h
theorem x_ret (h : te σ H D.rt) : tRet te D σ H := h
theorem x_ifS (h : t σ H fun b H1 => if b = true then t1 D σ H1 else t2 D σ H1) : tIfS t t1 t2 D σ H := h
theorem x_brk (h : D.bk σ H) : tBreak D σ H := h
theorem x_gName {QS : L2.St → Hp → Prop} (h : QS (σ.set i (some v)) H) : gName i v σ H QS := h
theorem x_gNil {QS : L2.St → Hp → Prop} (h : QS σ H) : gNil [] σ H QS := ⟨rfl, h⟩
theorem x_gCons {QS : L2.St → Hp → Prop} {u : TGs} (h : g v σ H fun σ' H' => u vs σ' H' QS) : gCons g u (v :: vs) σ H QS := ⟨_, _, rfl, h⟩
theorem x_gTup {QS : L2.St → Hp → Prop} {n : Nat} {u : TGs} {a : Addr} (ha : SqT K H a vs) (hn : vs.length = n) (h : u vs σ H QS) : gTup K n u (.ref a) σ H QS := ⟨a, vs, rfl, ha, hn, h⟩
theorem x_gSub {QS : L2.St → Hp → Prop} {s : TSet} (h : ta σ H fun o H1 => tb σ H1 fun i H2 => s o i v H2 fun H3 => QS σ H3) : gSub ta tb s v σ H QS := h
theorem x_setL {p : Addr} {xs : List V} {k : Int} {j : Nat} {QH : Hp → Prop} (hp : H p = some (.lst xs)) (hk : ixN xs.length k = some j) (h : QH (upd H p (.lst (xs.set j v)))) : rSetL (.ref p) (.int k) v H QH := ⟨p, xs, k, j, rfl, rfl, hp, hk, h⟩
theorem x_var (h : σ[i]? = some (some v)) (k : Q v H) : tVar i σ H Q := ⟨v, h, k⟩
theorem x_c (h : Q v H) : tC v σ H Q := h
theorem x_op (h : ta σ H fun x H1 => tb σ H1 fun y H2 => r x y H2 Q) : tOp r ta tb σ H Q := h
theorem x_un {r : V → Hp → VK → Prop} (h : ta σ H fun x H1 => r x H1 Q) : tUn r ta σ H Q := h
theorem x_cb {r : List V → Hp → VK → Prop} (h : tr σ H fun vs H1 => r vs H1 Q) : tCB r tr σ H Q := h
theorem x_call (h : tr σ H fun vs H1 => sp (vs ++ dvs) H1 Q E) : tCall sp dvs E tr σ H Q := h
theorem x_call0 (h : tr σ H fun vs H1 => sp vs H1 Q E) : tCall sp [] E tr σ H Q := by
  show tr σ H fun vs H1 => sp (vs ++ []) H1 Q E
  simp only [List.append_nil]
  exact h
theorem x_nil (h : QA [] H) : tNil σ H QA := h
theorem x_cons (h : te σ H fun x H1 => tr σ H1 fun xs H2 => QA (x :: xs) H2) : tCons te tr σ H QA := h
theorem x_tup (h : tr σ H fun xs H1 => xs.length ≤ sizeLine ∧ ∀ p, H1 p = none → Q (.ref p) (upd H1 p (.tup xs))) : tTup tr σ H Q := h
theorem x_lst (h : tr σ H fun xs H1 => xs.length ≤ sizeLine ∧ ∀ p, H1 p = none → Q (.ref p) (upd H1 p (.lst xs))) : tLst tr σ H Q := h
theorem x_test (h : te σ H fun x H' => ∃ k, x = .bl k ∧ QT k H') : tTest te σ H QT := h
theorem x_B (h : te σ H fun x H' => ∃ k, x = .bl k ∧ QT k H') : tB te σ H QT := h
theorem x_bl {k : Bool} {P : Bool → Prop} (h : P k) : ∃ k', V.bl k = .bl k' ∧ P k' := ⟨k, rfl, h⟩
theorem x_and (h : t σ H fun c H1 => if c = true then u σ H1 QT else QT false H1) : tAnd t u σ H QT := h
theorem x_or (h : t σ H fun c H1 => if c = true then QT true H1 else u σ H1 QT) : tOr t u σ H QT := h
theorem x_not (h : t σ H fun c H1 => QT (!c) H1) : tNot t σ H QT := h
theorem x_andV (h : ta σ H fun x H1 => ∃ c, x = .bl c ∧ if c = true then tb σ H1 Q else Q (.bl false) H1) : tAndV ta tb σ H Q := h
theorem x_orV (h : ta σ H fun x H1 => ∃ c, x = .bl c ∧ if c = true then Q (.bl true) H1 else tb σ H1 Q) : tOrV ta tb σ H Q := h
theorem x_notV {c : Bool} (h : ta σ H fun x H1 => ∃ c, x = .bl c ∧ Q (.bl (!c)) H1) : tNotV ta σ H Q := h
theorem x_if (h : t σ H fun c H1 => if c = true then ta σ H1 Q else tb σ H1 Q) : tIf t ta tb σ H Q := h
theorem x_isN (h : ta σ H fun x H1 => Q (.bl (decide (x = .non))) H1) : tIsN ta σ H Q := h
theorem x_notN (h : ta σ H fun x H1 => Q (.bl (!decide (x = .non))) H1) : tNotN ta σ H Q := h
theorem x_sl {r : V → Option Int → Option Int → Hp → VK → Prop} {tl th : TO} (h : te σ H fun x H1 => tl σ H1 fun l H2 => th σ H2 fun u H3 => r x l u H3 Q) : tSl r te tl th σ H Q := h
theorem x_noPart {QO : Option Int → Hp → Prop} (h : QO none H) : tNoPart σ H QO := h
theorem x_part {QO : Option Int → Hp → Prop} (h : te σ H fun x H1 => ∃ i, x = .int i ∧ QO (some i) H1) : tPart te σ H QO := h
theorem x_int {P : Int → Prop} {i : Int} (h : P i) : ∃ j, V.int i = .int j ∧ P j := ⟨i, rfl, h⟩
theorem x_bm {T : String} {r : V → List V → Hp → VK → Prop} (h : ta σ H fun x H1 => tyV K T x H1 ∧ tr σ H1 fun xs H2 => r x xs H2 Q) : tBM K T r ta tr σ H Q := h
theorem x_m1 {r : V → List V → Hp → VK → Prop} (h : ta σ H fun x H1 => (∃ a, x = .str a) ∧ te σ H1 fun y H2 => r x [y] H2 Q) : tM1 r ta te σ H Q := h
theorem x_I0 {f : Int → Int → V} {i j : Int} (h : Q (f i j) H) : rI0 f (.int i) (.int j) H Q := ⟨i, j, rfl, rfl, h⟩
theorem x_I {C : Int → Int → Prop} {f : Int → Int → V} {i j : Int} (hc : C i j) (h : Q (f i j) H) : rI C f (.int i) (.int j) H Q := ⟨i, j, rfl, rfl, hc, h⟩
theorem x_append {l : Addr} {xs : List V} (hl : H l = some (.lst xs)) (hz : xs.length < sizeLine) (h : Q .non (upd H l (.lst (xs ++ [v])))) : rAppend (.ref l) [v] H Q := ⟨l, xs, v, rfl, rfl, hl, hz, h⟩
theorem x_extend {l b : Addr} {xs zs : List V} (hl : H l = some (.lst xs)) (hb : H b = some (.lst zs)) (hz : xs.length + zs.length ≤ sizeLine) (h : Q .non (upd H l (.lst (xs ++ zs)))) : rExtend (.ref l) [V.ref b] H Q := ⟨l, b, xs, zs, rfl, rfl, hl, hb, hz, h⟩
theorem x_tyL {l : Addr} {xs : List V} {R : Prop} (hl : SqL K H l xs) (h : R) : tyV K "list" (.ref l) H ∧ R := ⟨.inl ⟨rfl, _, hl⟩, h⟩
theorem x_tyS {z : Str} {R : Prop} (h : R) : (∃ a, V.str z = .str a) ∧ R := ⟨⟨z, rfl⟩, h⟩
theorem x_strI {n : Int} (hz : n.natAbs.log2 < 1920) (h : Q (.str (toString n)) H) : rStrG [.int n] H Q := .inl ⟨n, rfl, hz, h⟩
theorem x_strS {z : Str} (h : Q (.str z) H) : rStrG [.str z] H Q := .inr ⟨z, rfl, h⟩
theorem x_intI {n : Int} (h : Q (.int n) H) : rIntG [.int n] H Q := .inl ⟨n, rfl, h⟩
theorem x_intS {z : Str} {n : Int} (he : PySem.intText? z = some n) (hz : z.length ≤ 640) (h : Q (.int n) H) : rIntG [.str z] H Q := .inr ⟨z, n, rfl, he, hz, h⟩
theorem x_spl {z s : Str} (hs : (s.length == 0) = false) (hz : z.length + 2 ≤ sizeLine) (h : rNewStrs (Txt.split z s) H Q) :
    ∃ a b, V.str z = .str a ∧ [V.str s] = [.str b] ∧ (b.length == 0) = false ∧ a.length + 2 ≤ sizeLine ∧ rNewStrs (Txt.split a b) H Q := ⟨z, s, rfl, rfl, hs, hz, h⟩
theorem x_joinL {z : Str} {p : Addr} {ys : List Str} (hp : SqL K H p (ys.map V.str)) (hz : (ys.map (·.length)).sum + ys.length * z.length ≤ 16777216) (h : Q (.str (Txt.join z ys)) H) :
    ∃ a p', ∃ ys : List Str, V.str z = .str a ∧ [V.ref p] = [.ref p'] ∧ (SqL K H p' (ys.map V.str) ∨ SqT K H p' (ys.map V.str)) ∧ (ys.map (·.length)).sum + ys.length * a.length ≤ 16777216 ∧ Q (.str (Txt.join a ys)) H :=
  ⟨z, p, ys, rfl, rfl, .inl hp, hz, h⟩
theorem x_allB {p : Addr} {bs : List Bool} (hp : SqL K H p (bs.map V.bl)) (h : Q (.bl (bs.all id)) H) : rAll K [.ref p] H Q := ⟨p, bs, rfl, hp, h⟩
theorem x_forL {i : Nat} {a : Addr} {xs : List V} (Pv : Nat → L2.St → Hp → Prop) (hv : σ[i]? = some (some (.ref a))) (hs : SqL K H a xs) (h0 : Pv 0 σ H) (hl : ∀ i σ H, i ≤ xs.length → Pv i σ H → SqL K H a xs)
    (hst : ∀ i x σ H, xs[i]? = some x → Pv i σ H → g x σ H fun σ2 H2 => ts { D with nx := Pv (i + 1), ct := Pv (i + 1), bk := D.nx } σ2 H2) (hd : ∀ σ H, Pv xs.length σ H → D.nx σ H) : tFor (iList K (tVar i)) g ts D σ H :=
  ⟨_, hv, a, rfl, ⟨_, hs⟩, for_list Pv h0 hl hst hd⟩
theorem x_ite {b : Bool} {A B : Prop} (h1 : b = true → A) (h2 : b = false → B) : if b = true then A else B := by
  cases b with
  | true => exact h1 rfl
  | false => exact h2 rfl
end
theorem sz_lit {n : Nat} (h : n ≤ 1000 := by decide) : n ≤ sizeLine := Nat.le_trans h (by decide)
theorem sz_le {n : Nat} (h : n ≤ 1000000) : n ≤ sizeLine := Nat.le_trans h (by decide)
theorem sz_lt {n : Nat} (h : n < 1000000) : n < sizeLine := Nat.lt_of_lt_of_le h (by decide)
end NB
namespace NB
open PySem PySem.Spec PyProof.Rows L2 TL
/-- over a text, sign by sign -/
theorem for_str {x : Str} {g : TG} {tb : TS} {D : Ends} {σ : L2.St} {H : Hp} (Pv : Nat → L2.St → Hp → Prop) (h0 : Pv 0 σ H)
    (hs : ∀ i c σ H, (tl x)[i]? = some c → Pv i σ H → g (.str ⟨#[c]⟩) σ H fun σ2 H2 => tb { D with nx := Pv (i + 1), ct := Pv (i + 1), bk := D.nx } σ2 H2) (hd : ∀ σ H, Pv (tl x).length σ H → D.nx σ H) :
    ∃ W : Nat → Nat → L2.St → Hp → Prop, (∃ m, W 0 m σ H) ∧ ∀ i m σ H, W i m σ H →
      ((Its x).stop i H ∧ D.nx σ H) ∨ ((Its x).go i H ∧ ∃ N : L2.St → Hp → Prop, (∀ σ' H', N σ' H' → ∃ m', m' < m ∧ W (i + 1) m' σ' H') ∧ ∀ v H', (Its x).yld i H v H' → g v σ H' fun σ2 H2 => tb { D with nx := N, ct := N, bk := D.nx } σ2 H2) := by
  have e : (tl x).length = x.cps.size := by simp [tl]
  refine ⟨fun i m σ H => m = (tl x).length - i ∧ i ≤ (tl x).length ∧ Pv i σ H, ⟨(tl x).length, by simp, Nat.zero_le _, h0⟩, ?_⟩
  rintro i m σ H ⟨rfl, hi, p⟩
  by_cases hlt : i < (tl x).length
  · refine .inr ⟨by rw [e] at hlt; exact hlt, Pv (i + 1), fun σ' H' p' => ⟨(tl x).length - (i + 1), by omega, rfl, hlt, p'⟩, fun v H' y => ?_⟩
    obtain ⟨rfl, c, hc, rfl⟩ := y
    exact hs i c σ _ (by rw [← Array.getElem?_toList] at hc; exact hc) p
  · have e2 : i = (tl x).length := by omega
    subst e2
    exact .inl ⟨Nat.le_of_eq e.symm, hd σ H p⟩
end NB

set_option maxRecDepth 100000
set_option maxHeartbeats 4000000
/-! NBc: an own exception over an own exception class over ValueError, whose __init__ calls its base's and stores fields. -/
namespace NB
open PySem PySem.Spec PyProof.Rows L2 ClX
def oexB (K : PySem.W.Frag) (C : Addr) : Bool := (match K.lookup C with
  | some ⟨.type c, dd, .cls cd, sl⟩ => (match cd.mro, sl.toList with
    | .ref C' :: bm, [k0, k1, k2, k3, some (.builtin n), k5] => decide (c = "type") && (decide (C' = C) && (decide (n = "ValueError.__new__") && (!cd.hasDel && (cd.hasDict && PySem.HandSPX.refsVE bm))))
    | _, _ => false)
  | _ => false) && (He.eqO (PySem.W.findIn K (.ref C) "__setattr__") (some (some (.builtin "object.__setattr__"))) && (decide (PySem.W.subIn K (.ref C) (.type "BaseException") = some true) && (decide (PySem.W.typeIn K (.ref C) = some (.type "type")) && PySem.W.keepIn K (.ref C))))
theorem oexB_ok {K : PySem.W.Frag} {C : Addr} (h : oexB K C = true) : OexC K C := by
  obtain ⟨h1, h⟩ := He.ba h
  obtain ⟨h2, h⟩ := He.ba h
  obtain ⟨h3, h⟩ := He.ba h
  obtain ⟨h4, h5⟩ := He.ba h
  refine ⟨?_, He.eqO_ok h2, of_decide_eq_true h3, of_decide_eq_true h4, h5⟩
  split at h1
  · rename_i c dd cd sl ho
    split at h1
    · rename_i C' bm k0 k1 k2 k3 n k5 hm hs
      obtain ⟨a1, h1⟩ := He.ba h1
      obtain ⟨a2, h1⟩ := He.ba h1
      obtain ⟨a3, h1⟩ := He.ba h1
      obtain ⟨a4, h1⟩ := He.ba h1
      obtain ⟨a5, a6⟩ := He.ba h1
      have e1 := of_decide_eq_true a1
      have e2 := of_decide_eq_true a2
      have e3 := of_decide_eq_true a3
      obtain ⟨nm, bs, mro, ns, qn, hd, sn, sub, ab, col, del⟩ := cd
      dsimp only at hm a4 a5
      have e4 : del = false := by cases del <;> first | rfl | cases a4
      subst e1 e2 e3 e4 a5 hm
      have hsl : sl = #[k0, k1, k2, k3, some (.builtin "ValueError.__new__"), k5] := by
        obtain ⟨l⟩ := sl
        simp only at hs
        rw [hs]
      subst hsl
      exact ⟨nm, qn, ns, bs, bm, sn, sub, ab, col, dd, k0, k1, k2, k3, k5, ho, a6⟩
    · cases h1
  · cases h1
/-- what the base's class must have: B.__init__ is ValueError's -/
def binB (K : PySem.W.Frag) (B : Addr) : Bool := PySem.W.readsIn K B (.type "type") && (He.eqO (PySem.W.specialIn K (.ref B) "__getattribute__") (some (some (.builtin "type.__getattribute__"))) &&
  (match PySem.W.findCls K (.ref B) (.type "type") "__init__" with
    | some (.val (.builtin n)) => decide (n = "ValueError.__init__")
    | _ => false))
structure BaseIn (K : PySem.W.Frag) (B : Addr) : Prop where
  r : CRead K B (.type "type")
  i : PySem.W.findCls K (.ref B) (.type "type") "__init__" = some (.val (.builtin "ValueError.__init__"))
theorem binB_ok {K : PySem.W.Frag} {B : Addr} (h : binB K B = true) : BaseIn K B := by
  obtain ⟨h1, h⟩ := He.ba h
  obtain ⟨h2, h3⟩ := He.ba h
  refine ⟨⟨h1, He.eqO_ok h2⟩, ?_⟩
  split at h3
  · rename_i n e
    rw [e, of_decide_eq_true h3]
  · cases h3
section
variable {X : Cx} {o e : Expr} {es : List Expr} {to te : TE} {ta : TA} {f x : Str} {p p' p1 p2 pos : Pos} {B : Addr}
/-- B.__init__(self, ..), B an own class over ValueError without __init__ -/
theorem pe_bainit {pl : Sem Bool} (hg : Gl X x) (hm : X.mg x = some (.ref B)) (T : BaseIn X.K B) (ha : PA X (e :: es) ta) (hdb : (x == ("__debug__" : Str)) = false := by decide)
    (hc : eval (.Call (.Attribute (.Name x p1) "__init__" p2) (e :: es) [] pos) X.env = (do
      let ov ← eval (.Name x p1) X.env
      standAt p2.atName
      let (f, first) ← holding [ov] (getMethod ov "__init__" pl)
      callWith pos f first (backTo pos (starEach (e :: es) X.env)) (backToKw pos (keywordEach [] X.env))) := by rfl)
    (he : starEach (e :: es) X.env = (false, eval e X.env) :: starEach es X.env := by rfl) (hpl : (backTo pos (starEach es X.env)).any (·.1) = false := by rfl) :
    PE X (.Call (.Attribute (.Name x p1) "__init__" p2) (e :: es) [] pos) (tVeI X.K ta) := by
  refine ⟨fun pins s σ H Q I h => ?_⟩
  refine PySem.W.methodCall_KW (ld_glob I hg hm ?_ hdb) hc
  refine PySem.W.method_cls I.kIn T.r.ga (PySem.W.cls_value I.kIn T.r.rd T.i (by decide +kernel) ?_)
  show wpAny _ _ (callWith pos (Value.builtin "ValueError.__init__") [] (backTo pos (starEach (e :: es) X.env)) []) _ _ _
  refine PyProof.Rows.callWith_method1 (thn (ha.run pos pins _ σ H _ (I.tok _) h) fun us s1 ⟨vs, H1, I1, r1, a, C, ws, ev, hl, T, ea, q⟩ => ?_) he hpl
  subst ev
  cases r1 with
  | @cons _ u0 _ ur ra rw' =>
    obtain rfl : u0 = Value.ref a := ra
    have hlen : ur.length ≤ sizeLine := by
      rw [← Paired.length rw', sizeLine_eq]
      omega
    exact oinit_ok T I1 ea hlen fun s' J => ⟨.non, H1, J, rfl, q⟩
end
end NB

set_option maxRecDepth 100000
set_option maxHeartbeats 4000000
/-! NBd: dicts with text keys and tuples that the top has written. -/
namespace NB
open PySem PySem.Spec PyProof.Rows L2
/-- at a a written tuple of these -/
def tupAt (K : PySem.W.Frag) (a : Addr) (vs : List V) : Bool := match K.lookup a with
  | some ⟨.type c, _, .seq its _, _⟩ => decide (c = "tuple") && (decide (its.size ≤ sizeLine) && He.relAll vs its.toList)
  | _ => false
theorem tupAt_ok {K : PySem.W.Frag} {a : Addr} {vs : List V} (h : tupAt K a vs = true) (H : Hp) : SqT K H a vs := by
  unfold tupAt at h
  split at h
  · rename_i c dd its n sl e
    obtain ⟨h1, h⟩ := He.ba h
    obtain ⟨h2, h3⟩ := He.ba h
    exact .inr ⟨_, its, n, e, congrArg Value.type (of_decide_eq_true h1), rfl, of_decide_eq_true h2, He.relAll_ok h3⟩
  · cases h
/-- what a written dict holds at a text, if it is an object -/
def datAt (K : PySem.W.Frag) (d : Addr) (x : Str) : Addr := match PySem.W.nsIn K d x with
  | some (some (.ref a)) => a
  | _ => 0
def entB : List (Str × V) → List DictEntry → Bool
  | [], [] => true
  | (x, v) :: r, e :: es => (match e.key with
    | .str y _ => decide (x = y)
    | _ => false) && (He.relB v e.val && entB r es)
  | _, _ => false
def kdB (K : PySem.W.Frag) (d : Addr) (kvs : List (Str × V)) : Bool := match K.lookup d with
  | some ⟨_, _, .dict es _, _⟩ => entB kvs es.toList
  | _ => false
/-- the value at a text -/
def valS (kvs : List (Str × V)) (x : Str) : Option V := (kvs.find? fun p => decide (p.1 = x)).map (·.2)
/-- at d a written dict: text keys and values in order -/
structure KDic (K : PySem.W.Frag) (w : World) (d : Addr) (kvs : List (Str × V)) : Prop where
  kd : ∃ es n, KDict K w d es n
  ns : ∀ x, ∃ r, PySem.W.nsIn K d x = some r ∧ RelO (valS kvs x) r
theorem entB_find {x : Str} : ∀ {kvs : List (Str × V)} {es : List DictEntry}, entB kvs es = true → RelO (valS kvs x) ((es.find? (·.key.isStr x)).map (·.val)) ∧ es.any (·.refKey) = false
  | [], [], _ => ⟨True.intro, rfl⟩
  | [], _ :: _, h => by cases h
  | (_, _) :: _, [], h => by cases h
  | (y, v) :: r, e :: es, h => by
    obtain ⟨h1, h2⟩ := He.ba (show ((match e.key with | .str y' _ => decide (y = y') | _ => false) && (He.relB v e.val && entB r es)) = true from h)
    obtain ⟨h3, h4⟩ := He.ba h2
    obtain ⟨ih1, ih2⟩ := entB_find (x := x) h4
    split at h1
    · rename_i z t ek
      have ez := of_decide_eq_true h1
      subst ez
      have hs : e.key.isStr x = decide (y = x) := by
        rw [ek]
        show (y == x) = decide (y = x)
        rw [Bool.eq_iff_iff]
        simp
      refine ⟨?_, ?_⟩
      · unfold valS
        rw [List.find?_cons, List.find?_cons, hs]
        by_cases c : y = x
        · rw [decide_eq_true c]
          exact He.relB_ok h3
        · rw [decide_eq_false c]
          exact ih1
      · rw [List.any_cons, ih2]
        unfold DictEntry.refKey
        rw [ek] <;> rfl
    · cases h1
theorem kdB_ok {K : PySem.W.Frag} {w : World} {d : Addr} {kvs : List (Str × V)} (h : kdB K d kvs = true) (kd : ∃ es n, KDict K w d es n) : KDic K w d kvs := by
  refine ⟨kd, fun x => ?_⟩
  unfold kdB at h
  split at h
  · rename_i es n sl e
    obtain ⟨h1, h2⟩ := entB_find (x := x) h
    unfold PySem.W.nsIn
    rw [e]
    dsimp only
    cases q : es.toList.find? (·.key.isStr x) with
    | some e2 =>
      rw [q] at h1
      exact ⟨_, rfl, h1⟩
    | none =>
      rw [q] at h1
      rw [h2]
      exact ⟨_, rfl, h1⟩
  · cases h
section
variable {X : Cx} {d : Addr} {kvs : List (Str × V)}
def rInK (d : Addr) (kvs : List (Str × V)) : R2 := fun x y H Q => ∃ z : Str, x = .str z ∧ y = .ref d ∧ Q (.bl (valS kvs z).isSome) H
theorem op_inK (D : KDic X.K X.w d kvs) : OpR X (compareOp .In) (rInK d kvs) := by
  intro pins s σ H x y v u Q I rx ry h
  obtain ⟨z, rfl, rfl, q⟩ := h
  obtain ⟨es, n, kd⟩ := D.kd
  obtain ⟨r, e, ro⟩ := D.ns z
  refine op_in_kd kd pins s σ H _ _ v u Q I rx ry ⟨z, r, rfl, rfl, e, ?_⟩
  rw [← RelO.isSome_eq ro]
  exact q
theorem KDic.get (D : KDic X.K X.w d kvs) {x : Str} {v : V} (h : valS kvs x = some v) : KDct X.K X.w d x v := by
  obtain ⟨es, n, kd⟩ := D.kd
  obtain ⟨r, e, ro⟩ := D.ns x
  rw [h] at ro
  cases r with
  | none => exact ro.elim
  | some u => exact ⟨es, n, u, kd.at_, kd.lit, e, ro⟩
end
end NB

set_option maxRecDepth 100000
set_option maxHeartbeats 4000000
/-! NBe: a head's facts, the interpreter's own statics among what is looked at. -/
namespace NB
open PySem PySem.Spec PyProof.Rows L2 He
def frY (g : Addr → Option Obj) (n : Nat) : PySem.W.Frag := frG g (cStatics :: asD g n)
def obsY (n : Nat) (fa : List Fa) (fn : List DefD) (ts : List Tab) (ex : PySem.W.Frag → Bool) (g : Addr → Option Obj) : AlT × Bool := (obsT fa fn ts (frY g n), ex (frY g n))
def valY (fn : List DefD) (ts : List Tab) (w : World) : AlT × Bool := (valT fn ts w, true)
structure SaysY (fa : List Fa) (fn : List DefD) (ts : List Tab) (ex : PySem.W.Frag → Bool) (w : World) (K : PySem.W.Frag) : Prop where
  t : SaysT fa fn ts w K
  ex : ex K = true
theorem saysY_of {n : Nat} {fa : List Fa} {fn : List DefD} {ts : List Tab} {ex : PySem.W.Frag → Bool} {w : World} {g : Addr → Option Obj} (e : obsY n fa fn ts ex g = valY fn ts w) : SaysY fa fn ts ex w (frY g n) :=
  ⟨congrArg (fun z : AlT × Bool => z.1) e, congrArg (fun z : AlT × Bool => z.2) e⟩
def hookY (n : Nat) (fa : List Fa) (fn : List DefD) (ts : List Tab) (ex : PySem.W.Frag → Bool) : PySem.W.Hook where
  α := AlT × Bool
  obs := fun s => obsY n fa fn ts ex s.heap.get?
  val := fun w => valY fn ts w
  says := fun w h => ∃ K : PySem.W.Frag, K.In h ∧ SaysY fa fn ts ex w K
  of := fun _ _ e => ⟨_, frG_in, saysY_of e⟩
  keeps := fun _ _ _ ⟨K, hK, c⟩ k => ⟨K, PySem.W.Frag.In.keeps hK k, c⟩
theorem obsY_eq {n : Nat} {fa : List Fa} {fn : List DefD} {ts : List Tab} {ex : PySem.W.Frag → Bool} {g : Addr → Option Obj} {s : Shared} (h : ∀ a, g a = s.heap.get? a) : obsY n fa fn ts ex g = (hookY n fa fn ts ex).obs s := by
  have e : g = s.heap.get? := funext h
  rw [e] <;> rfl
end NB

set_option maxRecDepth 100000
set_option maxHeartbeats 4000000
namespace K97
open PySem PySem.Spec PyProof.Rows L2 TL NB
def top (i : Nat) : Stmt := PySem.Challenge.pw_nowhereleft_k97_texts_of_views_and_paper.main.body.getD i (.Pass ⟨0, 0, 0, 0⟩)
/-- a def that takes only what is written: where, its statement -/
def dd (x : Str) (st : Stmt) : He.DefD := ⟨(x, none), x, x, defArgs st, defBody st, defScope st, [], []⟩
abbrev s_all_in : Stmt := top 9
abbrev s_name_word : Stmt := top 10
abbrev s_number_word : Stmt := top 11
abbrev s_line_of : Stmt := top 15
abbrev s_pause_lines : Stmt := top 16
abbrev s_view_text : Stmt := top 17
abbrev s_all_numbers : Stmt := top 18
abbrev s_all_names : Stmt := top 19
abbrev s_told_form : Stmt := top 20
abbrev s_moves_form : Stmt := top 21
abbrev s_line_stands : Stmt := top 22
abbrev s_may_follow : Stmt := top 23
abbrev s_view_lines : Stmt := top 24
abbrev s_numbers_of : Stmt := top 25
abbrev s_told_of : Stmt := top 26
abbrev s_fields_of : Stmt := top 27
abbrev s_pause_part : Stmt := top 28
abbrev s_view_from : Stmt := top 29
abbrev s_paper_text : Stmt := top 30
abbrev s_paper_from : Stmt := top 31
abbrev s_law_open : Stmt := top 33
abbrev s_law_pick : Stmt := top 34
abbrev s_law_same : Stmt := top 35
abbrev s_law_keys : Stmt := top 36
abbrev s_law_word : Stmt := top 37
abbrev s_law_copied : Stmt := top 38
abbrev s_law_view_lines : Stmt := top 39
abbrev s_law_paper_lines : Stmt := top 40
abbrev s_law_number : Stmt := top 41
abbrev s_law_numbers : Stmt := top 42
abbrev s_law_fields : Stmt := top 43
abbrev s_law_row : Stmt := top 44
abbrev s_law_read : Stmt := top 45
abbrev s_law_follows : Stmt := top 46
abbrev s_law_order_fault : Stmt := top 47
abbrev s_law_text : Stmt := top 48
abbrev s_law_spoilt : Stmt := top 49
abbrev s_law_holds : Stmt := top 50
abbrev s_law : Stmt := top 51
abbrev s_BadText_init : Stmt := inClass (top 2) 0
def fn : List He.DefD := [dd "all_in" s_all_in, dd "name_word" s_name_word, dd "number_word" s_number_word, dd "line_of" s_line_of, dd "pause_lines" s_pause_lines, dd "view_text" s_view_text, dd "all_numbers" s_all_numbers, dd "all_names" s_all_names, dd "told_form" s_told_form, dd "moves_form" s_moves_form, dd "line_stands" s_line_stands, dd "may_follow" s_may_follow, dd "view_lines" s_view_lines, dd "numbers_of" s_numbers_of, dd "told_of" s_told_of, dd "fields_of" s_fields_of, dd "pause_part" s_pause_part, dd "view_from" s_view_from, dd "paper_text" s_paper_text, dd "paper_from" s_paper_from, dd "_law_open" s_law_open, dd "_law_pick" s_law_pick, dd "_law_same" s_law_same, dd "_law_keys" s_law_keys, dd "_law_word" s_law_word, dd "_law_copied" s_law_copied, dd "_law_view_lines" s_law_view_lines, dd "_law_paper_lines" s_law_paper_lines, dd "_law_number" s_law_number, dd "_law_numbers" s_law_numbers, dd "_law_fields" s_law_fields, dd "_law_row" s_law_row, dd "_law_read" s_law_read, dd "_law_follows" s_law_follows, dd "_law_order_fault" s_law_order_fault, dd "_law_text" s_law_text, dd "_law_spoilt" s_law_spoilt, dd "_law_holds" s_law_holds, dd "law" s_law, ⟨("BadText", some "__init__"), "__init__", "BadText.__init__", defArgs s_BadText_init, defBody s_BadText_init, defScope s_BadText_init, [], []⟩]
def l_KEYS : List Str := (["hall", "worker", "kind", "in", "last", "field", "weak", "end", "tell", "price", "pause", "live", "age", "proc", "of", "nil", "new", "ask", "call", "send", "to", "say", "do", "if", "is", "else", "repeat"] : List Str)
def l_TOP_WORDS : List Str := (["made", "went", "heard", "pause", "gave", "came"] : List Str)
def kv_FOLLOW (K : PySem.W.Frag) : List (Str × V) := [("pause", .ref (datAt K (He.ga K "FOLLOW") "pause")), ("seen", .ref (datAt K (He.ga K "FOLLOW") "seen")), ("cell", .ref (datAt K (He.ga K "FOLLOW") "cell")), ("gone", .ref (datAt K (He.ga K "FOLLOW") "gone")), ("called", .ref (datAt K (He.ga K "FOLLOW") "called")), ("moved", .ref (datAt K (He.ga K "FOLLOW") "moved")), ("sealed", .ref (datAt K (He.ga K "FOLLOW") "sealed"))]
def exL (K : PySem.W.Frag) : List Bool := [tupAt K (He.ga K "KEYS") (l_KEYS.map V.str),
  tupAt K (He.ga K "TOP_WORDS") (l_TOP_WORDS.map V.str),
  kdB K (He.ga K "FOLLOW") (kv_FOLLOW K),
  tupAt K (datAt K (He.ga K "FOLLOW") "pause") ((["seen"] : List Str).map V.str),
  tupAt K (datAt K (He.ga K "FOLLOW") "seen") ((["cell", "seen", "gone"] : List Str).map V.str),
  tupAt K (datAt K (He.ga K "FOLLOW") "cell") ((["cell", "seen", "gone"] : List Str).map V.str),
  tupAt K (datAt K (He.ga K "FOLLOW") "gone") ((["called"] : List Str).map V.str),
  tupAt K (datAt K (He.ga K "FOLLOW") "called") ((["moved"] : List Str).map V.str),
  tupAt K (datAt K (He.ga K "FOLLOW") "moved") ((["sealed"] : List Str).map V.str),
  tupAt K (datAt K (He.ga K "FOLLOW") "sealed") ((["told"] : List Str).map V.str),
  binB K (He.ga K "LeftError"),
  oexB K (He.ga K "BadText"),
  xfB K (He.ga K "BadText"),
  He.eqO (PySem.W.findIn K (.ref (He.ga K "BadText")) "__init__") (some (some (.ref (He.ma K (He.ga K "BadText") "__init__")))) && decide (PySem.W.typeIn K (.ref (He.ma K (He.ga K "BadText") "__init__")) = some (.type "function")),
  decide (PySem.W.exmOne K (.ref (He.ga K "BadText")) (.ref (He.ga K "BadText")) = some true),
  He.eqO (PySem.W.findIn K (.ref (He.ga K "BadText")) "unit") (some none),
  He.eqO (PySem.W.findIn K (.ref (He.ga K "BadText")) "line") (some none),
  He.eqO (PySem.W.findIn K (.ref (He.ga K "BadText")) "column") (some none),
  He.eqO (PySem.W.findIn K (.ref (He.ga K "BadText")) "what") (some none)]
def exF (K : PySem.W.Frag) : Bool := (exL K).all id
def tbs : List He.Tab := [(fun K => He.ga K "FOLLOW", ["pause", "seen", "cell", "gone", "called", "moved", "sealed"])]
def fa : List He.Fa := [.glo "all_in", .glo "name_word", .glo "number_word", .glo "line_of", .glo "pause_lines", .glo "view_text", .glo "all_numbers", .glo "all_names", .glo "told_form", .glo "moves_form", .glo "line_stands", .glo "may_follow", .glo "view_lines", .glo "numbers_of", .glo "told_of", .glo "fields_of", .glo "pause_part", .glo "view_from", .glo "paper_text", .glo "paper_from", .glo "_law_open", .glo "_law_pick", .glo "_law_same", .glo "_law_keys", .glo "_law_word", .glo "_law_copied", .glo "_law_view_lines", .glo "_law_paper_lines", .glo "_law_number", .glo "_law_numbers", .glo "_law_fields", .glo "_law_row", .glo "_law_read", .glo "_law_follows", .glo "_law_order_fault", .glo "_law_text", .glo "_law_spoilt", .glo "_law_holds", .glo "law", .glo "KEYS", .glo "TOP_WORDS", .glo "FOLLOW", .glo "LeftError", .glo "BadText", .free "abs", .free "all", .free "bool", .free "dict", .free "int", .free "isinstance", .free "len", .free "list", .free "min", .free "range", .free "str", .free "tuple", .int "NAME" 16, .int "FIGURES" 9, .str "SMALL" "abcdefghijklmnopqrstuvwxyz", .str "DIGITS" "0123456789"]
/-- what the top has written -/
structure Tx (w : World) (K : PySem.W.Frag) (mg : Str → Option Value) : Prop where
  t : He.SaysT fa fn tbs w K
  ex : exF K = true
  h : ∃ h : Heap, K.In h ∧ h.Ns mainGlobals mg
/-- a def of the top and its promise -/
structure OkF (P : Program) (w : World) (K : PySem.W.Frag) (mg : Str → Option Value) (base : Heap) (CX : CXT) (k : Nat) (x : Str) (ps : List Str) (sp : Sp) : Prop where
  ok : ∃ fd, Binds K fd ps [] ∧ FnOk P w K mg base CX k (He.ga K x) fd ps sp
  g : mg x = some (.ref (He.ga K x))
  kp : PySem.W.keepIn K (.ref (He.ga K x)) = true
section
variable {X : Cx} {CX : CXT} {k j : Nat} {x : Str} {ps : List Str} {sp : Sp} {E : XK} {e : Expr} {es : List Expr} {t : TA} {p pos : Pos}
theorem pe_callO (F : OkF X.prog X.w X.K X.mg X.base CX k x ps sp) (hr : Room k X.A) (hg : Gl X x) (hx : Passes CX X E) (ha : PA X (e :: es) t) (hdb : (x == ("__debug__" : Str)) = false := by decide)
    (he : starEach (e :: es) X.env = (false, eval e X.env) :: starEach es X.env := by rfl) (hpl : (backTo pos (starEach es X.env)).any (·.1) = false := by rfl) : PE X (.Call (.Name x p) (e :: es) [] pos) (tCall sp [] E t) := by
  obtain ⟨fd, hb, hF⟩ := F.ok
  exact pe_call hF hr hg F.g F.kp hb .nil hx ha hdb he hpl
theorem pe_callO0 (F : OkF X.prog X.w X.K X.mg X.base CX k x ps sp) (hr : Room k X.A) (hg : Gl X x) (hx : Passes CX X E) (hdb : (x == ("__debug__" : Str)) = false := by decide) : PE X (.Call (.Name x p) [] [] pos) (tCall sp [] E tNil) := by
  obtain ⟨fd, hb, hF⟩ := F.ok
  exact pe_call0 hF hr hg F.g F.kp hb .nil hx hdb
theorem pe_gint {i : Int} (h : ∃ t, X.mg x = some (.int i t)) (hg : Gl X x) (hd : (x == ("__debug__" : Str)) = false := by decide) : PE X (.Name x pos) (tC (.int i)) := by
  obtain ⟨t, h⟩ := h
  exact pe_glob hg h ⟨t, rfl⟩ hd
theorem pe_gref {a : Addr} (h : X.mg x = some (.ref a)) (hg : Gl X x) (hd : (x == ("__debug__" : Str)) = false := by decide) : PE X (.Name x pos) (tC (.ref a)) := pe_glob hg h rfl hd
theorem pe_gstr {z : Str} (h : ∃ t, X.mg x = some (.str z t)) (hg : Gl X x) (hd : (x == ("__debug__" : Str)) = false := by decide) : PE X (.Name x pos) (tC (.str z)) := by
  obtain ⟨t, h⟩ := h
  exact pe_glob hg h ⟨t, rfl⟩ hd
end
section
variable {w : World} {K : PySem.W.Frag} {mg : Str → Option Value}
theorem Tx.exb (T : Tx w K mg) (i : Nat) {b : Bool} (h : (exL K)[i]? = some b) : b = true := List.all_eq_true.mp T.ex b (List.mem_of_getElem? h)
theorem Tx.fun_ (T : Tx w K mg) {x : Str} {st : Stmt} (i : Nat) (h : fn[i]? = some (dd x st)) : ∃ fd, Fun K x x st (He.ga K x) fd := by
  obtain ⟨fd, hF⟩ := T.t.d.def_ i h
  obtain ⟨oc, od, dV, kV, doc, pm, an, cdv, ct, osl, e, lk, hcd, hD, hK⟩ := hF.ex
  rcases hD with ⟨_, rfl⟩ | ⟨z, _⟩
  · exact ⟨fd, ⟨oc, od, kV, doc, pm, an, cdv, ct, osl, e, lk, hcd⟩, hF.kp⟩
  · exact absurd rfl z
theorem Tx.glo (T : Tx w K mg) {x : Str} (i : Nat) (h : fa[i]? = some (.glo x)) : mg x = some (.ref (He.ga K x)) := by
  obtain ⟨h0, X, G⟩ := T.h
  exact He.glo_ok X G (T.t.d.fact i h)
theorem Tx.free (T : Tx w K mg) {x : Str} (i : Nat) (h : fa[i]? = some (.free x)) : mg x = none := by
  obtain ⟨h0, X, G⟩ := T.h
  exact He.free_ok X G (T.t.d.fact i h)
theorem Tx.int (T : Tx w K mg) {x : Str} {n : Int} (i : Nat) (h : fa[i]? = some (.int x n)) : ∃ t, mg x = some (.int n t) := by
  obtain ⟨h0, X, G⟩ := T.h
  exact He.int_ok X G (T.t.d.fact i h)
theorem Tx.str (T : Tx w K mg) {x z : Str} (i : Nat) (h : fa[i]? = some (.str x z)) : ∃ t, mg x = some (.str z t) := by
  obtain ⟨h0, X, G⟩ := T.h
  exact He.str_ok X G (T.t.d.fact i h)
theorem Tx.g_all_in (T : Tx w K mg) : mg "all_in" = some (.ref (He.ga K "all_in")) := T.glo 0 rfl
theorem Tx.g_name_word (T : Tx w K mg) : mg "name_word" = some (.ref (He.ga K "name_word")) := T.glo 1 rfl
theorem Tx.g_number_word (T : Tx w K mg) : mg "number_word" = some (.ref (He.ga K "number_word")) := T.glo 2 rfl
theorem Tx.g_line_of (T : Tx w K mg) : mg "line_of" = some (.ref (He.ga K "line_of")) := T.glo 3 rfl
theorem Tx.g_pause_lines (T : Tx w K mg) : mg "pause_lines" = some (.ref (He.ga K "pause_lines")) := T.glo 4 rfl
theorem Tx.g_view_text (T : Tx w K mg) : mg "view_text" = some (.ref (He.ga K "view_text")) := T.glo 5 rfl
theorem Tx.g_all_numbers (T : Tx w K mg) : mg "all_numbers" = some (.ref (He.ga K "all_numbers")) := T.glo 6 rfl
theorem Tx.g_all_names (T : Tx w K mg) : mg "all_names" = some (.ref (He.ga K "all_names")) := T.glo 7 rfl
theorem Tx.g_told_form (T : Tx w K mg) : mg "told_form" = some (.ref (He.ga K "told_form")) := T.glo 8 rfl
theorem Tx.g_moves_form (T : Tx w K mg) : mg "moves_form" = some (.ref (He.ga K "moves_form")) := T.glo 9 rfl
theorem Tx.g_line_stands (T : Tx w K mg) : mg "line_stands" = some (.ref (He.ga K "line_stands")) := T.glo 10 rfl
theorem Tx.g_may_follow (T : Tx w K mg) : mg "may_follow" = some (.ref (He.ga K "may_follow")) := T.glo 11 rfl
theorem Tx.g_view_lines (T : Tx w K mg) : mg "view_lines" = some (.ref (He.ga K "view_lines")) := T.glo 12 rfl
theorem Tx.g_numbers_of (T : Tx w K mg) : mg "numbers_of" = some (.ref (He.ga K "numbers_of")) := T.glo 13 rfl
theorem Tx.g_told_of (T : Tx w K mg) : mg "told_of" = some (.ref (He.ga K "told_of")) := T.glo 14 rfl
theorem Tx.g_fields_of (T : Tx w K mg) : mg "fields_of" = some (.ref (He.ga K "fields_of")) := T.glo 15 rfl
theorem Tx.g_pause_part (T : Tx w K mg) : mg "pause_part" = some (.ref (He.ga K "pause_part")) := T.glo 16 rfl
theorem Tx.g_view_from (T : Tx w K mg) : mg "view_from" = some (.ref (He.ga K "view_from")) := T.glo 17 rfl
theorem Tx.g_paper_text (T : Tx w K mg) : mg "paper_text" = some (.ref (He.ga K "paper_text")) := T.glo 18 rfl
theorem Tx.g_paper_from (T : Tx w K mg) : mg "paper_from" = some (.ref (He.ga K "paper_from")) := T.glo 19 rfl
theorem Tx.g_law_open (T : Tx w K mg) : mg "_law_open" = some (.ref (He.ga K "_law_open")) := T.glo 20 rfl
theorem Tx.g_law_pick (T : Tx w K mg) : mg "_law_pick" = some (.ref (He.ga K "_law_pick")) := T.glo 21 rfl
theorem Tx.g_law_same (T : Tx w K mg) : mg "_law_same" = some (.ref (He.ga K "_law_same")) := T.glo 22 rfl
theorem Tx.g_law_keys (T : Tx w K mg) : mg "_law_keys" = some (.ref (He.ga K "_law_keys")) := T.glo 23 rfl
theorem Tx.g_law_word (T : Tx w K mg) : mg "_law_word" = some (.ref (He.ga K "_law_word")) := T.glo 24 rfl
theorem Tx.g_law_copied (T : Tx w K mg) : mg "_law_copied" = some (.ref (He.ga K "_law_copied")) := T.glo 25 rfl
theorem Tx.g_law_view_lines (T : Tx w K mg) : mg "_law_view_lines" = some (.ref (He.ga K "_law_view_lines")) := T.glo 26 rfl
theorem Tx.g_law_paper_lines (T : Tx w K mg) : mg "_law_paper_lines" = some (.ref (He.ga K "_law_paper_lines")) := T.glo 27 rfl
theorem Tx.g_law_number (T : Tx w K mg) : mg "_law_number" = some (.ref (He.ga K "_law_number")) := T.glo 28 rfl
theorem Tx.g_law_numbers (T : Tx w K mg) : mg "_law_numbers" = some (.ref (He.ga K "_law_numbers")) := T.glo 29 rfl
theorem Tx.g_law_fields (T : Tx w K mg) : mg "_law_fields" = some (.ref (He.ga K "_law_fields")) := T.glo 30 rfl
theorem Tx.g_law_row (T : Tx w K mg) : mg "_law_row" = some (.ref (He.ga K "_law_row")) := T.glo 31 rfl
theorem Tx.g_law_read (T : Tx w K mg) : mg "_law_read" = some (.ref (He.ga K "_law_read")) := T.glo 32 rfl
theorem Tx.g_law_follows (T : Tx w K mg) : mg "_law_follows" = some (.ref (He.ga K "_law_follows")) := T.glo 33 rfl
theorem Tx.g_law_order_fault (T : Tx w K mg) : mg "_law_order_fault" = some (.ref (He.ga K "_law_order_fault")) := T.glo 34 rfl
theorem Tx.g_law_text (T : Tx w K mg) : mg "_law_text" = some (.ref (He.ga K "_law_text")) := T.glo 35 rfl
theorem Tx.g_law_spoilt (T : Tx w K mg) : mg "_law_spoilt" = some (.ref (He.ga K "_law_spoilt")) := T.glo 36 rfl
theorem Tx.g_law_holds (T : Tx w K mg) : mg "_law_holds" = some (.ref (He.ga K "_law_holds")) := T.glo 37 rfl
theorem Tx.g_law (T : Tx w K mg) : mg "law" = some (.ref (He.ga K "law")) := T.glo 38 rfl
theorem Tx.g_KEYS (T : Tx w K mg) : mg "KEYS" = some (.ref (He.ga K "KEYS")) := T.glo 39 rfl
theorem Tx.g_TOP_WORDS (T : Tx w K mg) : mg "TOP_WORDS" = some (.ref (He.ga K "TOP_WORDS")) := T.glo 40 rfl
theorem Tx.g_FOLLOW (T : Tx w K mg) : mg "FOLLOW" = some (.ref (He.ga K "FOLLOW")) := T.glo 41 rfl
theorem Tx.g_LeftError (T : Tx w K mg) : mg "LeftError" = some (.ref (He.ga K "LeftError")) := T.glo 42 rfl
theorem Tx.g_BadText (T : Tx w K mg) : mg "BadText" = some (.ref (He.ga K "BadText")) := T.glo 43 rfl
theorem Tx.f_abs (T : Tx w K mg) : mg "abs" = none := T.free 44 rfl
theorem Tx.f_all (T : Tx w K mg) : mg "all" = none := T.free 45 rfl
theorem Tx.f_bool (T : Tx w K mg) : mg "bool" = none := T.free 46 rfl
theorem Tx.f_dict (T : Tx w K mg) : mg "dict" = none := T.free 47 rfl
theorem Tx.f_int (T : Tx w K mg) : mg "int" = none := T.free 48 rfl
theorem Tx.f_isinstance (T : Tx w K mg) : mg "isinstance" = none := T.free 49 rfl
theorem Tx.f_len (T : Tx w K mg) : mg "len" = none := T.free 50 rfl
theorem Tx.f_list (T : Tx w K mg) : mg "list" = none := T.free 51 rfl
theorem Tx.f_min (T : Tx w K mg) : mg "min" = none := T.free 52 rfl
theorem Tx.f_range (T : Tx w K mg) : mg "range" = none := T.free 53 rfl
theorem Tx.f_str (T : Tx w K mg) : mg "str" = none := T.free 54 rfl
theorem Tx.f_tuple (T : Tx w K mg) : mg "tuple" = none := T.free 55 rfl
theorem Tx.i_NAME (T : Tx w K mg) : ∃ t, mg "NAME" = some (.int 16 t) := T.int 56 rfl
theorem Tx.i_FIGURES (T : Tx w K mg) : ∃ t, mg "FIGURES" = some (.int 9 t) := T.int 57 rfl
theorem Tx.t_SMALL (T : Tx w K mg) : ∃ t, mg "SMALL" = some (.str "abcdefghijklmnopqrstuvwxyz" t) := T.str 58 rfl
theorem Tx.t_DIGITS (T : Tx w K mg) : ∃ t, mg "DIGITS" = some (.str "0123456789" t) := T.str 59 rfl
theorem Tx.tup_KEYS (T : Tx w K mg) (H : Hp) : SqT K H (He.ga K "KEYS") (l_KEYS.map V.str) := tupAt_ok (T.exb 0 rfl) H
theorem Tx.tup_TOP_WORDS (T : Tx w K mg) (H : Hp) : SqT K H (He.ga K "TOP_WORDS") (l_TOP_WORDS.map V.str) := tupAt_ok (T.exb 1 rfl) H
theorem Tx.dic_FOLLOW (T : Tx w K mg) : KDic K w (He.ga K "FOLLOW") (kv_FOLLOW K) := kdB_ok (T.exb 2 rfl) (T.t.tab 0 rfl)
theorem Tx.dic_FOLLOW_pause (T : Tx w K mg) (H : Hp) : SqT K H (datAt K (He.ga K "FOLLOW") "pause") ((["seen"] : List Str).map V.str) := tupAt_ok (T.exb 3 rfl) H
theorem Tx.dic_FOLLOW_seen (T : Tx w K mg) (H : Hp) : SqT K H (datAt K (He.ga K "FOLLOW") "seen") ((["cell", "seen", "gone"] : List Str).map V.str) := tupAt_ok (T.exb 4 rfl) H
theorem Tx.dic_FOLLOW_cell (T : Tx w K mg) (H : Hp) : SqT K H (datAt K (He.ga K "FOLLOW") "cell") ((["cell", "seen", "gone"] : List Str).map V.str) := tupAt_ok (T.exb 5 rfl) H
theorem Tx.dic_FOLLOW_gone (T : Tx w K mg) (H : Hp) : SqT K H (datAt K (He.ga K "FOLLOW") "gone") ((["called"] : List Str).map V.str) := tupAt_ok (T.exb 6 rfl) H
theorem Tx.dic_FOLLOW_called (T : Tx w K mg) (H : Hp) : SqT K H (datAt K (He.ga K "FOLLOW") "called") ((["moved"] : List Str).map V.str) := tupAt_ok (T.exb 7 rfl) H
theorem Tx.dic_FOLLOW_moved (T : Tx w K mg) (H : Hp) : SqT K H (datAt K (He.ga K "FOLLOW") "moved") ((["sealed"] : List Str).map V.str) := tupAt_ok (T.exb 8 rfl) H
theorem Tx.dic_FOLLOW_sealed (T : Tx w K mg) (H : Hp) : SqT K H (datAt K (He.ga K "FOLLOW") "sealed") ((["told"] : List Str).map V.str) := tupAt_ok (T.exb 9 rfl) H
theorem Tx.bin_LeftError (T : Tx w K mg) : BaseIn K (He.ga K "LeftError") := binB_ok (T.exb 10 rfl)
theorem Tx.oex_BadText (T : Tx w K mg) : OexC K (He.ga K "BadText") := oexB_ok (T.exb 11 rfl)
theorem Tx.xf_BadText (T : Tx w K mg) : XfC K (He.ga K "BadText") := xfB_ok (T.exb 12 rfl)
theorem Tx.ini_BadText (T : Tx w K mg) : PySem.W.findIn K (.ref (He.ga K "BadText")) "__init__" = some (some (.ref (He.ma K (He.ga K "BadText") "__init__"))) ∧ PySem.W.typeIn K (.ref (He.ma K (He.ga K "BadText") "__init__")) = some (.type "function") := by
  obtain ⟨h1, h2⟩ := He.ba (T.exb 13 rfl)
  exact ⟨He.eqO_ok h1, of_decide_eq_true h2⟩
theorem Tx.exm_BadText (T : Tx w K mg) : PySem.W.exmOne K (.ref (He.ga K "BadText")) (.ref (He.ga K "BadText")) = some true := of_decide_eq_true (T.exb 14 rfl)
theorem Tx.no_BadText_unit (T : Tx w K mg) : PySem.W.findIn K (.ref (He.ga K "BadText")) "unit" = some none := He.eqO_ok (T.exb 15 rfl)
theorem Tx.no_BadText_line (T : Tx w K mg) : PySem.W.findIn K (.ref (He.ga K "BadText")) "line" = some none := He.eqO_ok (T.exb 16 rfl)
theorem Tx.no_BadText_column (T : Tx w K mg) : PySem.W.findIn K (.ref (He.ga K "BadText")) "column" = some none := He.eqO_ok (T.exb 17 rfl)
theorem Tx.no_BadText_what (T : Tx w K mg) : PySem.W.findIn K (.ref (He.ga K "BadText")) "what" = some none := He.eqO_ok (T.exb 18 rfl)
end
section
variable {P : Program} {w : World} {K : PySem.W.Frag} {mg : Str → Option Value} {base : Heap}
/-- a def that lets nothing out: its scope, its binding, its body's walk -/
theorem Tx.def0 (T : Tx w K mg) {x : Str} {st : Stmt} {N ps : List Str} {k : Nat} {sp : Sp} (i : Nat) (hi : fn[i]? = some (dd x st)) (g : mg x = some (.ref (He.ga K x))) (S : FnScope N ps (defScope st))
    (hb : ∀ (kV doc pm : Value) (an : Option Addr) (cdv ct : Value) (us : List Value), us.length = ps.length → bindArgs (PySem.W.fnOf x x (defArgs st) (defBody st) (defScope st) .none kV doc pm an cdv ct) ⟨us, []⟩ = pure (ps.zip us))
    (len : ∀ vs H Q E, sp vs H Q E → vs.length = ps.length)
    (hbody : ∀ (f : Addr) (cdv : Value) (A : Around) (outer : List Env) (s : Shared) (H : Hp) (vs : List V) (Q : VK) (E : XK), Room k (A.deeper (envOfC x (defScope st) s.heap.objs.size f cdv)) → sp vs H Q E →
      ∃ t, PSs (cxOf CX0 P w K mg base N x (defScope st) f cdv A outer s H E).nox (defBody st) t ∧ t { nx := fun _ H' => Q .non H', rt := Q } (start N vs) H) : OkF P w K mg base CX0 (k + 1) x ps sp := by
  obtain ⟨fd, F⟩ := T.fun_ i hi
  exact ⟨⟨fd, F.binds hb, F.ok S len fun cdv A outer s H vs Q E => hbody _ cdv A outer s H vs Q E⟩, g, F.kp⟩
/-- a def that may raise -/
theorem Tx.defX (T : Tx w K mg) {x : Str} {st : Stmt} {N ps : List Str} {k : Nat} {sp : Sp} (i : Nat) (hi : fn[i]? = some (dd x st)) (g : mg x = some (.ref (He.ga K x))) (S : FnScope N ps (defScope st))
    (hb : ∀ (kV doc pm : Value) (an : Option Addr) (cdv ct : Value) (us : List Value), us.length = ps.length → bindArgs (PySem.W.fnOf x x (defArgs st) (defBody st) (defScope st) .none kV doc pm an cdv ct) ⟨us, []⟩ = pure (ps.zip us))
    (len : ∀ vs H Q E, sp vs H Q E → vs.length = ps.length)
    (hbody : ∀ (f : Addr) (cdv : Value) (A : Around) (outer : List Env) (s : Shared) (H : Hp) (vs : List V) (Q : VK) (E : XK), Room k (A.deeper (envOfC x (defScope st) s.heap.objs.size f cdv)) → sp vs H Q E →
      ∃ t, PSs (cxOf (L2.CX P w) P w K mg base N x (defScope st) f cdv A outer s H E) (defBody st) t ∧ t { nx := fun _ H' => Q .non H', rt := Q } (start N vs) H) : OkF P w K mg base (L2.CX P w) (k + 1) x ps sp := by
  obtain ⟨fd, F⟩ := T.fun_ i hi
  exact ⟨⟨fd, F.binds hb, F.okX S len fun cdv A outer s H vs Q E => hbody _ cdv A outer s H vs Q E⟩, g, F.kp⟩
end
end K97

set_option maxRecDepth 100000
set_option maxHeartbeats 0
namespace K97
open PySem PySem.Spec PyProof.Rows L2
def loose : List PySem.Str := (["LeftError", "BadText", "NAME", "FIGURES", "SMALL", "DIGITS", "KEYS", "all_in", "name_word", "number_word", "TOP_WORDS", "FOLLOW", "line_of", "pause_lines", "view_text", "all_numbers", "all_names", "told_form", "moves_form", "line_stands", "may_follow", "view_lines", "numbers_of", "told_of", "fields_of", "pause_part", "view_from", "paper_text", "paper_from", "_law_open"] : List PySem.Str) ++ (["_law_pick", "_law_same", "_law_keys", "_law_word", "_law_copied", "_law_view_lines", "_law_paper_lines", "_law_number", "_law_numbers", "_law_fields", "_law_row", "_law_read", "_law_follows", "_law_order_fault", "_law_text", "_law_spoilt", "_law_holds"] : List PySem.Str)
abbrev R : PySem.W.OpenRow := PySem.W.OpenLaw.row PySem.Challenge.rw_nowhereleft_k97_texts_of_views_and_paper
abbrev hk : PySem.W.Hook := NB.hookY 5 fa fn tbs exF
def ob (s : PySem.W.SharedT) : He.AlT × Bool := NB.obsY 5 fa fn tbs exF (HandSHeadRun.getT s)
theorem ob_eq (s : PySem.W.SharedT) : ob s = hk.obs s.abs := NB.obsY_eq (HandSHeadRun.getT_eq s)
theorem run (w : World) : HandSHeadRun.RunEq R (PySem.W.view R.prog [51]) hk ob 4000 loose w := by
  refine PySem.W.byRow2 "special-get-raises" (P := fun w => HandSHeadRun.RunEq R (PySem.W.view R.prog [51]) hk ob 4000 loose w) (fun w => ?_) (fun w => ?_) w
  · intro os
    kernel_rfl
  · intro os
    kernel_rfl
end K97


set_option maxRecDepth 100000
set_option maxHeartbeats 4000000
/-! NBf: loops and list comprehensions, as steps. -/
namespace NB
open PySem PySem.Spec PyProof.Rows L2 TL
section
variable {K : PySem.W.Frag} {σ : L2.St} {H : Hp} {Q : VK} {tl' : TE} {ta : TA} {wi : TI} {g : TG} {tt : TT} {te : TE} {vs : List Nat} {R : It → Hp → Prop} {a : Addr} {D : Ends} {tb : TS} {xs ys : List V}
/-- the body of a comprehension, its iterator made -/
def LcB (g : TG) (tt : TT) (te : TE) (vs : List Nat) (σ : L2.St) (Q : VK) (J : It) (H1 : Hp) : Prop := ∀ D, H1 D = none → ∃ W : Nat → Nat → Hp → Prop, (∃ m, W 0 m (upd H1 D (.lst []))) ∧ ∀ i m H, W i m H →
  (J.stop i H ∧ Q (.ref D) H) ∨ (J.go i H ∧ ∃ Nx : Hp → Prop, (∀ H', Nx H' → ∃ m', m' < m ∧ W (i + 1) m' H') ∧ ∀ x H', J.yld i H x H' → g x (wipe σ vs) H' fun σ2 H2 => wipe σ2 vs = wipe σ vs ∧ tt σ2 H2 fun b H3 =>
    if b = true then te σ2 H3 fun y H4 => ∃ acc, H4 D = some (.lst acc) ∧ acc.length < sizeLine ∧ Nx (upd H4 D (.lst (acc ++ [y]))) else Nx H3)
/-- the body of a for, its iterator made -/
def ForB (g : TG) (tb : TS) (D : Ends) (σ : L2.St) (J : It) (H1 : Hp) : Prop := ∃ W : Nat → Nat → L2.St → Hp → Prop, (∃ m, W 0 m σ H1) ∧ ∀ i m σ H, W i m σ H →
  (J.stop i H ∧ D.nx σ H) ∨ (J.go i H ∧ ∃ N : L2.St → Hp → Prop, (∀ σ' H', N σ' H' → ∃ m', m' < m ∧ W (i + 1) m' σ' H') ∧ ∀ x H', J.yld i H x H' → g x σ H' fun σ2 H2 => tb { D with nx := N, ct := N, bk := D.nx } σ2 H2)
theorem x_lc (h : wi σ H (LcB g tt te vs σ Q)) : tLc wi g tt te vs σ H Q := h
theorem x_for (h : wi σ H (ForB g tb D σ)) : tFor wi g tb D σ H := h
theorem x_iL (h : tl' σ H fun x H1 => ∃ a, x = .ref a ∧ (∃ xs, SqL K H1 a xs) ∧ R (Itl K a) H1) : iList K tl' σ H R := h
theorem x_ref {P : Addr → Prop} (h : P a) : ∃ a', V.ref a = .ref a' ∧ P a' := ⟨a, rfl, h⟩
theorem x_r1 {j : Int} {P : Int → Prop} (h1 : -(2 ^ 62) ≤ j) (h2 : j < 2 ^ 62) (h : P j) : ∃ j' : Int, ([V.int j] : List V) = [.int j'] ∧ -(2 ^ 62) ≤ j' ∧ j' < 2 ^ 62 ∧ P j' := ⟨j, rfl, h1, h2, h⟩
theorem x_iR1 (h : ta σ H fun vs H1 => ∃ j : Int, vs = [.int j] ∧ -(2 ^ 62) ≤ j ∧ j < 2 ^ 62 ∧ R (Itr 0 j.toNat) H1) : iRng1 ta σ H R := h
theorem x_iR3 (h : ta σ H fun vs H1 => ∃ (i j c : Int) (n : Nat), vs = [.int i, .int j, .int c] ∧ RgC i j c n ∧ R (Itc i c n) H1) : iRng3 ta σ H R := h
theorem x_iS (h : tl' σ H fun v H1 => ∃ x, v = .str x ∧ R (Its x) H1) : iStr tl' σ H R := h
theorem forL (hs : SqL K H a xs) (Pv : Nat → L2.St → Hp → Prop) (h0 : Pv 0 σ H) (hl : ∀ i σ H, i ≤ xs.length → Pv i σ H → SqL K H a xs)
    (hst : ∀ i x σ H, xs[i]? = some x → Pv i σ H → g x σ H fun σ2 H2 => tb { D with nx := Pv (i + 1), ct := Pv (i + 1), bk := D.nx } σ2 H2) (hd : ∀ σ H, Pv xs.length σ H → D.nx σ H) : (∃ xs, SqL K H a xs) ∧ ForB g tb D σ (Itl K a) H :=
  ⟨⟨_, hs⟩, for_list Pv h0 hl hst hd⟩
theorem forR {n : Nat} (Pv : Nat → L2.St → Hp → Prop) (h0 : Pv 0 σ H) (hst : ∀ (i : Nat) σ H, i < n → Pv i σ H → g (.int (0 + i)) σ H fun σ2 H2 => tb { D with nx := Pv (i + 1), ct := Pv (i + 1), bk := D.nx } σ2 H2) (hd : ∀ σ H, Pv n σ H → D.nx σ H) : ForB g tb D σ (Itr 0 n) H :=
  for_range Pv h0 hst hd
theorem forRC {lo c : Int} {n : Nat} (Pv : Nat → L2.St → Hp → Prop) (h0 : Pv 0 σ H) (hst : ∀ (i : Nat) σ H, i < n → Pv i σ H → g (.int (lo + i * c)) σ H fun σ2 H2 => tb { D with nx := Pv (i + 1), ct := Pv (i + 1), bk := D.nx } σ2 H2) (hd : ∀ σ H, Pv n σ H → D.nx σ H) : ForB g tb D σ (Itc lo c n) H :=
  for_rangeC Pv h0 hst hd
/-- a comprehension over an iterator of known items, with an invariant over what is made -/
theorem lc_any {J : It} {n : Nat} (it : Nat → V) (hgo : ∀ i H, i < n → J.go i H) (hst : ∀ H, J.stop n H) (hy : ∀ i H x H', i < n → J.yld i H x H' → H' = H ∧ x = it i)
    (Pv : Addr → Nat → List V → Hp → Prop) (h0 : ∀ D, H D = none → Pv D 0 [] (upd H D (.lst [])))
    (st : ∀ D i acc H2, H D = none → i < n → Pv D i acc H2 → g (it i) (wipe σ vs) H2 fun σ2 H3 => wipe σ2 vs = wipe σ vs ∧ tt σ2 H3 fun b H4 =>
      if b = true then te σ2 H4 fun y H5 => ∃ acc, H5 D = some (.lst acc) ∧ acc.length < sizeLine ∧ ∃ acc', Pv D (i + 1) acc' (upd H5 D (.lst (acc ++ [y]))) else ∃ acc', Pv D (i + 1) acc' H4)
    (k : ∀ D acc H', H D = none → Pv D n acc H' → Q (.ref D) H') : LcB g tt te vs σ Q J H := by
  intro D hD
  refine ⟨fun i m H' => m = n - i ∧ i ≤ n ∧ ∃ acc, Pv D i acc H', ⟨n, by simp, Nat.zero_le _, [], h0 D hD⟩, ?_⟩
  rintro i m H2 ⟨rfl, hi, acc, p⟩
  by_cases hlt : i < n
  · refine .inr ⟨hgo i H2 hlt, fun H' => ∃ acc', Pv D (i + 1) acc' H', fun H' p' => ⟨n - (i + 1), by omega, rfl, hlt, p'⟩, fun x H' y => ?_⟩
    obtain ⟨rfl, rfl⟩ := hy i _ _ _ hlt y
    exact st D i acc _ hD hlt p
  · have e : i = n := by omega
    subst e
    exact .inl ⟨hst _, k D acc H2 hD p⟩
theorem lcR {n : Nat} (Pv : Addr → Nat → List V → Hp → Prop) (h0 : ∀ D, H D = none → Pv D 0 [] (upd H D (.lst [])))
    (st : ∀ D i acc H2, H D = none → i < n → Pv D i acc H2 → g (.int (0 + (i : Int))) (wipe σ vs) H2 fun σ2 H3 => wipe σ2 vs = wipe σ vs ∧ tt σ2 H3 fun b H4 =>
      if b = true then te σ2 H4 fun y H5 => ∃ acc, H5 D = some (.lst acc) ∧ acc.length < sizeLine ∧ ∃ acc', Pv D (i + 1) acc' (upd H5 D (.lst (acc ++ [y]))) else ∃ acc', Pv D (i + 1) acc' H4)
    (k : ∀ D acc H', H D = none → Pv D n acc H' → Q (.ref D) H') : LcB g tt te vs σ Q (Itr 0 n) H :=
  lc_any (fun i => .int (0 + (i : Int))) (fun _ _ h => h) (fun _ => Nat.le_refl _) (fun _ _ _ _ _ y => ⟨y.1, y.2⟩) Pv h0 st k
theorem lcRC {lo c : Int} {n : Nat} (Pv : Addr → Nat → List V → Hp → Prop) (h0 : ∀ D, H D = none → Pv D 0 [] (upd H D (.lst [])))
    (st : ∀ D i acc H2, H D = none → i < n → Pv D i acc H2 → g (.int (lo + (i : Nat) * c)) (wipe σ vs) H2 fun σ2 H3 => wipe σ2 vs = wipe σ vs ∧ tt σ2 H3 fun b H4 =>
      if b = true then te σ2 H4 fun y H5 => ∃ acc, H5 D = some (.lst acc) ∧ acc.length < sizeLine ∧ ∃ acc', Pv D (i + 1) acc' (upd H5 D (.lst (acc ++ [y]))) else ∃ acc', Pv D (i + 1) acc' H4)
    (k : ∀ D acc H', H D = none → Pv D n acc H' → Q (.ref D) H') : LcB g tt te vs σ Q (Itc lo c n) H :=
  lc_any (fun i => .int (lo + (i : Nat) * c)) (fun _ _ h => h) (fun _ => Nat.le_refl _) (fun _ _ _ _ _ y => ⟨y.1, y.2⟩) Pv h0 st k
theorem lcL (hs : SqL K H a xs) (Pv : Addr → Nat → List V → Hp → Prop) (h0 : ∀ D, H D = none → Pv D 0 [] (upd H D (.lst []))) (hl : ∀ D i acc H', H D = none → Pv D i acc H' → SqL K H' a xs)
    (st : ∀ D i x acc H2, H D = none → xs[i]? = some x → Pv D i acc H2 → g x (wipe σ vs) H2 fun σ2 H3 => wipe σ2 vs = wipe σ vs ∧ tt σ2 H3 fun b H4 =>
      if b = true then te σ2 H4 fun y H5 => ∃ acc, H5 D = some (.lst acc) ∧ acc.length < sizeLine ∧ ∃ acc', Pv D (i + 1) acc' (upd H5 D (.lst (acc ++ [y]))) else ∃ acc', Pv D (i + 1) acc' H4)
    (k : ∀ D acc H', H D = none → Pv D xs.length acc H' → Q (.ref D) H') : (∃ xs, SqL K H a xs) ∧ LcB g tt te vs σ Q (Itl K a) H := by
  refine ⟨⟨_, hs⟩, fun D hD => ?_⟩
  refine ⟨fun i m H' => m = xs.length - i ∧ i ≤ xs.length ∧ ∃ acc, Pv D i acc H', ⟨xs.length, by simp, Nat.zero_le _, [], h0 D hD⟩, ?_⟩
  rintro i m H2 ⟨rfl, hi, acc, p⟩
  have q := hl D i acc H2 hD p
  by_cases hlt : i < xs.length
  · refine .inr ⟨⟨xs, xs[i], q, by simp [hlt]⟩, fun H' => ∃ acc', Pv D (i + 1) acc' H', fun H' p' => ⟨xs.length - (i + 1), by omega, rfl, hlt, p'⟩, fun x H' y => ?_⟩
    obtain ⟨e, y⟩ := y
    subst e
    exact st D i x acc _ hD (y xs q) p
  · have e : i = xs.length := by omega
    subst e
    exact .inl ⟨⟨xs, q, Nat.le_refl _⟩, k D acc H2 hD p⟩
theorem lc_put {P : List V → Prop} {acc : List V} {D : Addr} {H5 : Hp} (h : H5 D = some (.lst acc)) (hz : acc.length < 1000000) (p : P acc) : ∃ acc, H5 D = some (.lst acc) ∧ acc.length < sizeLine ∧ P acc := ⟨acc, h, sz_lt hz, p⟩
theorem x_yes {QT : Bool → Hp → Prop} (h : QT true H) : tYes σ H QT := h
/-- pure elements: each in turn makes y of x; what stood stands -/
theorem lcP (hs : SqL K H a xs) (f : V → V) (hz : xs.length ≤ 100000)
    (st : ∀ x H2 (QQ : VK), x ∈ xs → Same H H2 → (∀ H3, Same H2 H3 → QQ (f x) H3) → g x (wipe σ vs) H2 fun σ2 H3 => wipe σ2 vs = wipe σ vs ∧ te σ2 H3 QQ)
    (k : ∀ p H', H p = none → Same H H' → H' p = some (.lst (xs.map f)) → Q (.ref p) H') : (∃ xs, SqL K H a xs) ∧ LcB g tYes te vs σ Q (Itl K a) H := by
  refine ⟨⟨_, hs⟩, fun D hD => ?_⟩
  refine ⟨fun i m H' => m = xs.length - i ∧ i ≤ xs.length ∧ Same H H' ∧ H' D = some (.lst ((xs.take i).map f)), ⟨xs.length, by simp, Nat.zero_le _, same_new hD, by rw [upd_same]; rfl⟩, ?_⟩
  rintro i m H2 ⟨rfl, hi, sm, hd⟩
  have q := sm.seq hs
  by_cases hlt : i < xs.length
  · refine .inr ⟨⟨xs, xs[i], q, by simp [hlt]⟩, fun H' => Same H H' ∧ H' D = some (.lst ((xs.take (i + 1)).map f)), fun H' p' => ⟨xs.length - (i + 1), by omega, rfl, hlt, p'⟩, fun x H' y => ?_⟩
    obtain ⟨e, y⟩ := y
    subst e
    have hx := y xs q
    refine st x _ (fun y H4 => ∃ acc, H4 D = some (.lst acc) ∧ acc.length < sizeLine ∧ Same H (upd H4 D (.lst (acc ++ [y]))) ∧ (upd H4 D (.lst (acc ++ [y]))) D = some (.lst ((xs.take (i + 1)).map f))) (List.mem_of_getElem? hx) sm fun H3 s3 => ?_
    refine ⟨_, s3 _ _ hd, sz_lt ?_, fun b o e => ?_, ?_⟩
    · rw [List.length_map, List.length_take]; omega
    · rw [upd_ne (ne_of_none e hD)]
      exact s3 _ _ (sm _ _ e)
    · rw [upd_same]
      have ex := (List.getElem?_eq_some_iff.mp hx).2
      rw [← List.take_append_getElem hlt, ex, List.map_append]
      rfl
  · have e : i = xs.length := by omega
    subst e
    rw [List.take_length] at hd
    exact .inl ⟨⟨xs, q, Nat.le_refl _⟩, k D H2 hD sm hd⟩
end
end NB

set_option maxRecDepth 100000
set_option maxHeartbeats 4000000
/-! NBg: xs[a:b:c], x[i] op= e of lists. -/
namespace NB
open PySem PySem.Spec PyProof.Rows L2 TL
def pickV (xs : List V) (lo hi st : Option Int) : List V := (sliceRange (sliceBounds lo hi st xs.length).1 (sliceBounds lo hi st xs.length).2.1 (sliceBounds lo hi st xs.length).2.2).filterMap (xs[·]?)
theorem vals_pick {xs : List V} {us : List Value} (r : Vals xs us) : ∀ ix : List Nat, Vals (ix.filterMap (xs[·]?)) (ix.filterMap (us.toArray[·]?))
  | [] => .nil
  | i :: ix => by
    have ih := vals_pick r ix
    rw [List.filterMap_cons, List.filterMap_cons]
    cases e : xs[i]? with
    | none =>
      have e2 := r.none_of e
      rw [List.getElem?_toArray, e2]
      exact ih
    | some x =>
      obtain ⟨u, hu, hr⟩ := r.get e
      rw [List.getElem?_toArray, hu]
      exact .cons hr ih
def tSlStep (K : PySem.W.Frag) (te : TE) (tl' tu ts : TO) : TE := fun σ H Q => te σ H fun x H1 => tl' σ H1 fun lo H2 => tu σ H2 fun hi H3 => ts σ H3 fun st H4 => ∃ a xs, x = .ref a ∧ SqL K H4 a xs ∧ st ≠ some 0 ∧ ∀ p, H4 p = none → Q (.ref p) (upd H4 p (.lst (pickV xs lo hi st)))
theorem x_slStep {K : PySem.W.Frag} {te : TE} {tl' tu ts : TO} {σ : L2.St} {H : Hp} {Q : VK} (h : te σ H fun x H1 => tl' σ H1 fun lo H2 => tu σ H2 fun hi H3 => ts σ H3 fun st H4 => ∃ a xs, x = .ref a ∧ SqL K H4 a xs ∧ st ≠ some 0 ∧ ∀ p, H4 p = none → Q (.ref p) (upd H4 p (.lst (pickV xs lo hi st)))) : tSlStep K te tl' tu ts σ H Q := h
section
variable {X : Cx}
theorem pe_slStep {e : Expr} {te : TE} {lo hi : Option Expr} {st : Expr} {tl' tu ts : TO} {p3 pos : Pos} (he : PE X e te) (hl : PO X lo tl') (hu : PO X hi tu) (hs : PO X (some st) ts) : PE X (.Subscript e (.Slice lo hi (some st) p3) pos) (tSlStep X.K te tl' tu ts) := by
  refine ⟨fun pins s σ H Q I h => ?_⟩
  refine Subscript_ (thn (he.run pins s σ H _ I h) fun v s1 ⟨x, H1, I1, r1, q1⟩ => ?_)
  refine wpAny_Slice (thn (hl.run pins s1 σ H1 _ I1 q1) fun vl s2 ⟨l, H2, I2, pl, q2⟩ => thn (hu.run pins s2 σ H2 _ I2 q2) fun vu s3 ⟨u, H3, I3, pu, q3⟩ => thn (hs.run pins s3 σ H3 _ I3 q3) fun vs s4 ⟨c, H4, I4, ps, q4⟩ => ?_)
  obtain ⟨a, xs, ex, hx, h0, q⟩ := q4
  subst ex
  cases r1
  have I5 : Inv X pins σ H4 { s4 with heap := s4.heap.push { cls := .type "slice", data := .fields #[vl, vu, vs] } } := I4.kept (t' := s4.toks) fun b ob q => Heap.get?_push_of_some _ q
  obtain ⟨its, r, ht, hz⟩ := I5.list hx
  have hlen := r.length
  show wpAny (model X.prog X.w) X.A (subscriptTail e (.Slice lo hi (some st) p3) (.ref a) (.ref s4.heap.objs.size)) (EP X pins σ Q) X.xe { s4 with heap := s4.heap.push { cls := .type "slice", data := .fields #[vl, vu, vs] } }
  refine tail_any (ops := [.ref a, .ref s4.heap.objs.size]) ht.isList.typeIs (PySem.slot_list_getitem.lookup) ?_ (by rfl)
  refine wpAny_getItem_list_slice ht.isList (Heap.IsSliceOf.new _ vl vu vs) pl pu ps h0 ?_ (by rw [List.size_toArray]; omega)
  have hv : Vals (pickV xs l u c) (slicePick its.toArray l u c).toList := by
    unfold pickV slicePick
    rw [List.size_toArray, ← hlen]
    exact vals_pick r _
  refine ⟨.ref _, _, I5.laid (t' := s4.toks) (o := .lst (pickV xs l u c)) (fun b ob q => Heap.get?_push_of_some _ q) (Nat.le_refl _) ?_, rfl, q _ (I5.hok.fresh (Nat.le_refl _))⟩
  refine ⟨?_, _, 0, hv, ?_⟩
  · rw [hv.length]
    have := slicePick_size_le its.toArray l u c
    have e3 : its.toArray.size = its.length := by simp
    have e2 : (slicePick its.toArray l u c).toList.length = (slicePick its.toArray l u c).size := by simp
    omega
  · exact Heap.get?_push_size _ rfl
/-- x[i] of a list, by values -/
def rGetL (K : PySem.W.Frag) : V → V → Hp → VK → Prop := rIxL K
theorem get_list : PGet X (rIxL X.K) := by
  intro pins s σ H o i ov iv Q I ro ri h
  obtain ⟨p, xs, k, z, rfl, rfl, hq, he, q⟩ := h
  obtain rfl : ov = Value.ref p := ro
  obtain ⟨t, rfl⟩ := ri
  obtain ⟨its, r, pl, hz⟩ := I.list hq
  obtain ⟨j, h1, h2, h3, h4, h5⟩ := atI_get he
  obtain ⟨w, ew, rw'⟩ := r.get h2
  have hl := r.length
  have hn := line63
  have fin : EP X pins σ Q w s := ⟨z, H, I, rw', q⟩
  by_cases h0 : 0 ≤ k
  · have hj : k.toNat = j := by
      rw [seqIndex_of h0 h5] at h1
      exact Option.some.inj h1
    exact wpAny_getItem_list pl.isList h0 (by omega) (by rw [hj]; simpa using ew) fin
  · have hj : (k + (its.toArray.size : Int)).toNat = j := by
      rw [seqIndex_neg (by omega) h4] at h1
      rw [List.size_toArray, ← hl]
      exact Option.some.inj h1
    exact wpAny_getItem_list_neg pl.isList (by omega) (by rw [List.size_toArray] <;> omega) (by omega) (by rw [hj]; simpa using ew) fin
end
end NB

set_option maxRecDepth 100000
set_option maxHeartbeats 4000000
/-! NBh: iterators over a list or a tuple, a list that is built up, data taken apart. -/
namespace NB
open PySem PySem.Spec PyProof.Rows L2 TL
def iB (K : PySem.W.Frag) (te : TE) : TI := fun σ H R => te σ H fun x H1 => ∃ a, x = .ref a ∧ (((∃ xs, SqL K H1 a xs) ∧ R (Itl K a) H1) ∨ ((∃ xs, SqT K H1 a xs) ∧ R (Itt K a) H1))
theorem pi_both {X : Cx} {tg l : Expr} {te : TE} (hl : PE X l te) : PI X tg l (iB X.K te) := by
  refine ⟨fun pins s σ H R I h => ?_⟩
  refine thn (hl.run pins s σ H _ I h) fun v s1 ⟨x, H1, I1, r1, q1⟩ => ?_
  obtain ⟨a, e, q⟩ := q1
  subst e
  cases r1
  rcases q with ⟨⟨xs, hq⟩, q⟩ | ⟨⟨xs, hq⟩, q⟩
  · obtain ⟨its, rv, p, hz⟩ := I1.list hq
    refine wpAny_pyIter_list p.isList ?_
    refine ⟨s1.heap.objs.size, [s1.heap.objs.size], _, _, H1, rfl, I1.kept (t' := s1.toks) fun b o e => Heap.get?_push_of_some _ e, turn_list a _, ⟨_, Heap.get?_push_size _ rfl, rfl, rfl⟩, fun b hb => ?_, q⟩
    have e : b = s1.heap.objs.size := by simpa using hb
    subst e
    exact I1.fpOk (Nat.le_refl _) (I1.hok.fresh (Nat.le_refl _))
  · obtain ⟨its, rv, p, hz⟩ := I1.tuple hq
    refine wpAny_pyIter_tuple (show s1.heap.IsTuple a its.toArray from p) ?_
    refine ⟨s1.heap.objs.size, [s1.heap.objs.size], _, _, H1, rfl, I1.kept (t' := s1.toks) fun b o e => Heap.get?_push_of_some _ e, turn_tuple a _, ⟨_, Heap.get?_push_size _ rfl, rfl, rfl⟩, fun b hb => ?_, q⟩
    have e : b = s1.heap.objs.size := by simpa using hb
    subst e
    exact I1.fpOk (Nat.le_refl _) (I1.hok.fresh (Nat.le_refl _))
/-- a tuple as a comprehension's target -/
theorem pg_tupB {X : Cx} {s : Shared} {H : Hp} {sc : Scope} {env : Env} {fp : List Addr} {es : List Expr} {k : Nat} {pos : Pos} {t : TGs} {n : Nat} (hc : (X.blk s H sc env fp).calm = true) (h : PGs (X.blk s H sc env fp) es t)
    (hn : (assignEach es (X.blk s H sc env fp).env).length = n := by rfl) (hst : (assignEach es (X.blk s H sc env fp).env).findIdx? (·.1) = none := by rfl) : PG (X.blk s H sc env fp) (.Tuple es k pos) (gTup X.K n t) := pg_tup hc h hn hst
/-! rules within a comprehension: what is asked speaks of the ground's written part -/
section
variable {X : Cx} {s : Shared} {H : Hp} {sc : Scope} {env : Env} {fp : List Addr}
theorem ix_seqB : IxR (X.blk s H sc env fp) (rIx X.K) := ix_seq
theorem op_inGB : OpR (X.blk s H sc env fp) (compareOp .In) (rInG X.K) := op_inG
theorem op_ninGB : OpR (X.blk s H sc env fp) (compareOp .NotIn) (rNinG X.K) := op_ninG
theorem op_eqGB (hu : (X.blk s H sc env fp).A.units + 64 < cLine) : OpR (X.blk s H sc env fp) (compareOp .Eq) (rEqG X.K) := op_eqG hu
theorem op_neGB (hu : (X.blk s H sc env fp).A.units + 64 < cLine) : OpR (X.blk s H sc env fp) (compareOp .NotEq) (rNeG X.K) := op_neG hu
theorem call_lenGB : CallR (X.blk s H sc env fp) (.builtin "len") (rLenG X.K) := call_lenG
theorem sl_GB : SlR (X.blk s H sc env fp) (rSlG X.K) := sl_G
end
section
variable {K : PySem.W.Frag} {σ : L2.St} {H : Hp} {Q : VK} {g : TG} {tt : TT} {te : TE} {vs : List Nat} {R : It → Hp → Prop} {a : Addr} {D : Ends} {tb : TS} {xs ys : List V}
theorem x_iB (h : te σ H fun x H1 => ∃ a, x = .ref a ∧ (((∃ xs, SqL K H1 a xs) ∧ R (Itl K a) H1) ∨ ((∃ xs, SqT K H1 a xs) ∧ R (Itt K a) H1))) : iB K te σ H R := h
theorem x_iT (h : te σ H fun x H1 => ∃ a, x = .ref a ∧ (∃ xs, SqT K H1 a xs) ∧ R (Itt K a) H1) : iTup K te σ H R := h
theorem forT (hs : SqT K H a xs) (Pv : Nat → L2.St → Hp → Prop) (h0 : Pv 0 σ H) (hl : ∀ i σ H, i ≤ xs.length → Pv i σ H → SqT K H a xs)
    (hst : ∀ i x σ H, xs[i]? = some x → Pv i σ H → g x σ H fun σ2 H2 => tb { D with nx := Pv (i + 1), ct := Pv (i + 1), bk := D.nx } σ2 H2) (hd : ∀ σ H, Pv xs.length σ H → D.nx σ H) : (∃ xs, SqT K H a xs) ∧ ForB g tb D σ (Itt K a) H :=
  ⟨⟨_, hs⟩, for_tup Pv h0 hl hst hd⟩
/-- pure elements, over a tuple -/
theorem lcPT (hs : SqT K H a xs) (f : V → V) (hz : xs.length ≤ 100000)
    (st : ∀ x H2 (QQ : VK), x ∈ xs → Same H H2 → (∀ H3, Same H2 H3 → QQ (f x) H3) → g x (wipe σ vs) H2 fun σ2 H3 => wipe σ2 vs = wipe σ vs ∧ te σ2 H3 QQ)
    (k : ∀ p H', H p = none → Same H H' → H' p = some (.lst (xs.map f)) → Q (.ref p) H') : (∃ xs, SqT K H a xs) ∧ LcB g tYes te vs σ Q (Itt K a) H := by
  refine ⟨⟨_, hs⟩, fun D hD => ?_⟩
  refine ⟨fun i m H' => m = xs.length - i ∧ i ≤ xs.length ∧ Same H H' ∧ H' D = some (.lst ((xs.take i).map f)), ⟨xs.length, by simp, Nat.zero_le _, same_new hD, by rw [upd_same]; rfl⟩, ?_⟩
  rintro i m H2 ⟨rfl, hi, sm, hd⟩
  have q := Same.sqT sm hs
  by_cases hlt : i < xs.length
  · refine .inr ⟨⟨xs, xs[i], q, by simp [hlt]⟩, fun H' => Same H H' ∧ H' D = some (.lst ((xs.take (i + 1)).map f)), fun H' p' => ⟨xs.length - (i + 1), by omega, rfl, hlt, p'⟩, fun x H' y => ?_⟩
    obtain ⟨e, y⟩ := y
    subst e
    have hx := y xs q
    refine st x _ (fun y H4 => ∃ acc, H4 D = some (.lst acc) ∧ acc.length < sizeLine ∧ Same H (upd H4 D (.lst (acc ++ [y]))) ∧ (upd H4 D (.lst (acc ++ [y]))) D = some (.lst ((xs.take (i + 1)).map f))) (List.mem_of_getElem? hx) sm fun H3 s3 => ?_
    refine ⟨_, s3 _ _ hd, sz_lt ?_, fun b o e => ?_, ?_⟩
    · rw [List.length_map, List.length_take]; omega
    · rw [upd_ne (ne_of_none e hD)]
      exact s3 _ _ (sm _ _ e)
    · rw [upd_same]
      have ex := (List.getElem?_eq_some_iff.mp hx).2
      rw [← List.take_append_getElem hlt, ex, List.map_append]
      rfl
  · have e : i = xs.length := by omega
    subst e
    rw [List.take_length] at hd
    exact .inl ⟨⟨xs, q, Nat.le_refl _⟩, k D H2 hD sm hd⟩
theorem lcT (hs : SqT K H a xs) (Pv : Addr → Nat → List V → Hp → Prop) (h0 : ∀ D, H D = none → Pv D 0 [] (upd H D (.lst []))) (hl : ∀ D i acc H', H D = none → Pv D i acc H' → SqT K H' a xs)
    (st : ∀ D i x acc H2, H D = none → xs[i]? = some x → Pv D i acc H2 → g x (wipe σ vs) H2 fun σ2 H3 => wipe σ2 vs = wipe σ vs ∧ tt σ2 H3 fun b H4 =>
      if b = true then te σ2 H4 fun y H5 => ∃ acc, H5 D = some (.lst acc) ∧ acc.length < sizeLine ∧ ∃ acc', Pv D (i + 1) acc' (upd H5 D (.lst (acc ++ [y]))) else ∃ acc', Pv D (i + 1) acc' H4)
    (k : ∀ D acc H', H D = none → Pv D xs.length acc H' → Q (.ref D) H') : (∃ xs, SqT K H a xs) ∧ LcB g tt te vs σ Q (Itt K a) H := by
  refine ⟨⟨_, hs⟩, fun D hD => ?_⟩
  refine ⟨fun i m H' => m = xs.length - i ∧ i ≤ xs.length ∧ ∃ acc, Pv D i acc H', ⟨xs.length, by simp, Nat.zero_le _, [], h0 D hD⟩, ?_⟩
  rintro i m H2 ⟨rfl, hi, acc, p⟩
  have q := hl D i acc H2 hD p
  by_cases hlt : i < xs.length
  · refine .inr ⟨⟨xs, xs[i], q, by simp [hlt]⟩, fun H' => ∃ acc', Pv D (i + 1) acc' H', fun H' p' => ⟨xs.length - (i + 1), by omega, rfl, hlt, p'⟩, fun x H' y => ?_⟩
    obtain ⟨e, y⟩ := y
    subst e
    exact st D i x acc _ hD (y xs q) p
  · have e : i = xs.length := by omega
    subst e
    exact .inl ⟨⟨xs, q, Nat.le_refl _⟩, k D acc H2 hD p⟩
/-- pure elements, over a list or a tuple -/
theorem lcPB (hs : SqL K H a xs ∨ SqT K H a xs) (f : V → V) (hz : xs.length ≤ 100000)
    (st : ∀ x H2 (QQ : VK), x ∈ xs → Same H H2 → (∀ H3, Same H2 H3 → QQ (f x) H3) → g x (wipe σ vs) H2 fun σ2 H3 => wipe σ2 vs = wipe σ vs ∧ te σ2 H3 QQ)
    (k : ∀ p H', H p = none → Same H H' → H' p = some (.lst (xs.map f)) → Q (.ref p) H') :
    ((∃ xs, SqL K H a xs) ∧ LcB g tYes te vs σ Q (Itl K a) H) ∨ ((∃ xs, SqT K H a xs) ∧ LcB g tYes te vs σ Q (Itt K a) H) := by
  rcases hs with hs | hs
  · exact .inl (lcP hs f hz st k)
  · exact .inr (lcPT hs f hz st k)
end
/-! ### a list that is built up over a ground -/
structure Ln (H0 : Hp) (l : Addr) (vs : List V) (H : Hp) : Prop where
  sm : Same H0 H
  at_ : H l = some (.lst vs)
  fr : H0 l = none
section
variable {H0 H1 H H' : Hp} {l p : Addr} {vs ws : List V} {K : PySem.W.Frag}
theorem Ln.new (hp : H p = none) : Ln H p vs (upd H p (.lst vs)) := ⟨same_new hp, upd_same, hp⟩
theorem Ln.ext (h : Ln H0 l vs H) (s : Same H H') : Ln H0 l vs H' := ⟨h.sm.trans s, s _ _ h.at_, h.fr⟩
theorem Ln.put (h : Ln H0 l vs H) : Ln H0 l ws (upd H l (.lst ws)) := ⟨fun b o e => by rw [upd_ne (ne_of_none e h.fr)]; exact h.sm _ _ e, upd_same, h.fr⟩
theorem Ln.seq (h : Ln H0 l vs H) : SqL K H l vs := SqL.of h.at_
theorem Ln.back (h : Ln H0 l vs H) (s : Same H1 H0) : Same H1 H := s.trans h.sm
end
/-! ### data whose lists are of the tracked heap -/
mutual
inductive DpL (K : PySem.W.Frag) (H : Hp) : V → PyData → Prop
  | non : DpL K H .non .none
  | bl (b : Bool) : DpL K H (.bl b) (.bool b)
  | int (i : Int) : DpL K H (.int i) (.int i)
  | str (x : Str) : DpL K H (.str x) (.str x)
  | lst {a : Addr} {xs : List V} {ds : List PyData} : H a = some (.lst xs) → DpLAll K H xs ds → DpL K H (.ref a) (.list ds)
  | tup {a : Addr} {xs : List V} {ds : List PyData} : H a = some (.tup xs) → DpLAll K H xs ds → DpL K H (.ref a) (.tuple ds)
inductive DpLAll (K : PySem.W.Frag) (H : Hp) : List V → List PyData → Prop
  | nil : DpLAll K H [] []
  | cons {v : V} {vs : List V} {d : PyData} {ds : List PyData} : DpL K H v d → DpLAll K H vs ds → DpLAll K H (v :: vs) (d :: ds)
end
mutual
theorem DpL.dp {K : PySem.W.Frag} {H : Hp} : ∀ {v : V} {d : PyData}, DpL K H v d → Dp K H v d
  | _, _, .non => .non
  | _, _, .bl b => .bl b
  | _, _, .int i => .int i
  | _, _, .str x => .str x
  | _, _, .lst h hs => .lst (SqL.of h) (DpLAll.dp hs)
  | _, _, .tup h hs => .tup (SqT.of h) (DpLAll.dp hs)
theorem DpLAll.dp {K : PySem.W.Frag} {H : Hp} : ∀ {v : List V} {d : List PyData}, DpLAll K H v d → DpAll K H v d
  | _, _, .nil => .nil
  | _, _, .cons h hs => .cons (DpL.dp h) (DpLAll.dp hs)
end
mutual
theorem dpL_mono {K : PySem.W.Frag} {H H' : Hp} (e : Same H H') : ∀ {v : V} {d : PyData}, DpL K H v d → DpL K H' v d
  | _, _, .non => .non
  | _, _, .bl b => .bl b
  | _, _, .int i => .int i
  | _, _, .str x => .str x
  | _, _, .lst h hs => .lst (e _ _ h) (dpLAll_mono e hs)
  | _, _, .tup h hs => .tup (e _ _ h) (dpLAll_mono e hs)
theorem dpLAll_mono {K : PySem.W.Frag} {H H' : Hp} (e : Same H H') : ∀ {v : List V} {d : List PyData}, DpLAll K H v d → DpLAll K H' v d
  | _, _, .nil => .nil
  | _, _, .cons h hs => .cons (dpL_mono e h) (dpLAll_mono e hs)
end
section
variable {K : PySem.W.Frag} {H : Hp} {v : V} {vs : List V} {d : PyData} {ds : List PyData}
theorem dpL_lst (h : DpL K H v (.list ds)) : ∃ a xs, v = .ref a ∧ H a = some (.lst xs) ∧ DpLAll K H xs ds := by cases h with | lst h1 h2 => exact ⟨_, _, rfl, h1, h2⟩
theorem dpL_tup (h : DpL K H v (.tuple ds)) : ∃ a xs, v = .ref a ∧ H a = some (.tup xs) ∧ DpLAll K H xs ds := by cases h with | tup h1 h2 => exact ⟨_, _, rfl, h1, h2⟩
theorem dpL_cons (h : DpLAll K H vs (d :: ds)) : ∃ x xs, vs = x :: xs ∧ DpL K H x d ∧ DpLAll K H xs ds := by cases h with | cons h1 h2 => exact ⟨_, _, rfl, h1, h2⟩
theorem dpL_app : ∀ {xs ys : List V} {ds es : List PyData}, DpLAll K H xs ds → DpLAll K H ys es → DpLAll K H (xs ++ ys) (ds ++ es)
  | _, _, _, _, .nil, h => h
  | _, _, _, _, .cons a h, g => .cons a (dpL_app h g)
theorem dpL_get' : ∀ {xs : List V} {ds : List PyData} {i : Nat} {v : V}, DpLAll K H xs ds → xs[i]? = some v → ∃ d, ds[i]? = some d ∧ DpL K H v d
  | _, _, _, _, .nil, e => by simp at e
  | _, _, 0, _, .cons h _, e => by simp at e; subst e; exact ⟨_, rfl, h⟩
  | _, _, i + 1, d, .cons _ hs, e => by
    obtain ⟨v, h1, h2⟩ := dpL_get' (i := i) (v := d) hs (by simpa using e)
    exact ⟨v, by simpa using h1, h2⟩
theorem dpL_at {α : Type} {f : α → PyData} {rs : List α} {i : Nat} {x : V} (h : DpLAll K H vs (rs.map f)) (hx : vs[i]? = some x) : ∃ r, rs[i]? = some r ∧ DpL K H x (f r) := by
  obtain ⟨d, h1, h2⟩ := dpL_get' h hx
  rw [List.getElem?_map] at h1
  cases e : rs[i]? with
  | none => rw [e] at h1; cases h1
  | some r => rw [e] at h1; cases h1; exact ⟨r, rfl, h2⟩
theorem dpL_ints : ∀ ns : List Int, DpLAll K H (ns.map V.int) (ns.map PyData.int)
  | [] => .nil
  | n :: r => .cons (.int n) (dpL_ints r)
theorem dpL_strs : ∀ ns : List Str, DpLAll K H (ns.map V.str) (ns.map PyData.str)
  | [] => .nil
  | n :: r => .cons (.str n) (dpL_strs r)
end
/-! ### data taken apart -/
section
variable {K : PySem.W.Frag} {H : Hp} {v : V} {vs : List V} {d : PyData} {ds : List PyData}
theorem dp_int {i : Int} (h : Dp K H v (.int i)) : v = .int i := by cases h; rfl
theorem dp_str {z : Str} (h : Dp K H v (.str z)) : v = .str z := by cases h; rfl
theorem dp_bl {b : Bool} (h : Dp K H v (.bool b)) : v = .bl b := by cases h; rfl
theorem dp_non (h : Dp K H v .none) : v = .non := by cases h; rfl
theorem dp_lst (h : Dp K H v (.list ds)) : ∃ a xs, v = .ref a ∧ SqL K H a xs ∧ DpAll K H xs ds := by cases h with | lst h1 h2 => exact ⟨_, _, rfl, h1, h2⟩
theorem dp_tup (h : Dp K H v (.tuple ds)) : ∃ a xs, v = .ref a ∧ SqT K H a xs ∧ DpAll K H xs ds := by cases h with | tup h1 h2 => exact ⟨_, _, rfl, h1, h2⟩
theorem dp_cons (h : DpAll K H vs (d :: ds)) : ∃ x xs, vs = x :: xs ∧ Dp K H x d ∧ DpAll K H xs ds := by cases h with | cons h1 h2 => exact ⟨_, _, rfl, h1, h2⟩
theorem dp_nil (h : DpAll K H vs []) : vs = [] := by cases h; rfl
theorem dp_at {α : Type} {f : α → PyData} {rs : List α} {i : Nat} {x : V} (h : DpAll K H vs (rs.map f)) (hx : vs[i]? = some x) : ∃ r, rs[i]? = some r ∧ Dp K H x (f r) := by
  obtain ⟨d, h1, h2⟩ := dpAll_get' h hx
  rw [List.getElem?_map] at h1
  cases e : rs[i]? with
  | none => rw [e] at h1; cases h1
  | some r => rw [e] at h1; cases h1; exact ⟨r, rfl, h2⟩
theorem dp_mem {α : Type} {f : α → PyData} {rs : List α} {x : V} (h : DpAll K H vs (rs.map f)) (hx : x ∈ vs) : ∃ r ∈ rs, Dp K H x (f r) := by
  obtain ⟨i, hi⟩ := List.mem_iff_getElem?.mp hx
  obtain ⟨r, h1, h2⟩ := dp_at h hi
  exact ⟨r, List.mem_of_getElem? h1, h2⟩
theorem take_snoc {α : Type} {rs : List α} {i : Nat} {r : α} (h : rs[i]? = some r) : rs.take (i + 1) = rs.take i ++ [r] := by
  obtain ⟨h1, h2⟩ := List.getElem?_eq_some_iff.mp h
  rw [← List.take_append_getElem h1, h2]
end
end NB

set_option maxRecDepth 100000
set_option maxHeartbeats 4000000
namespace K97
open PySem PySem.Spec PyProof.Rows L2 TL NB
local macro_rules | `(tactic| walk_at "rd") => `(tactic| repeat (first
  | (with_reducible refine x_seq ?_) | (with_reducible refine x_asg ?_) | (with_reducible refine x_gName ?_) | (with_reducible refine x_ret ?_) | (with_reducible refine x_drop ?_) | (with_reducible refine x_ifS ?_)
  | (with_reducible refine x_op ?_) | (with_reducible refine x_c ?_) | ((with_reducible refine' x_var ?k1 ?_); (case k1 => with_unfolding_all rfl)) | (with_reducible refine x_cb ?_) | (with_reducible refine x_call0 ?_) | (with_reducible refine x_cons ?_) | (with_reducible refine x_nil ?_)
  | (with_reducible refine x_test ?_) | (with_reducible refine x_B ?_) | (with_reducible refine x_bl ?_) | (with_reducible refine x_and ?_) | (with_reducible refine x_or ?_) | (with_reducible refine x_not ?_)
  | (with_reducible refine x_andV ?_) | (with_reducible refine x_orV ?_) | (with_reducible refine x_notV ?_) | (with_reducible refine x_if ?_) | (with_reducible refine x_isN ?_) | (with_reducible refine x_notN ?_)
  | (with_reducible refine x_tup ?_) | (with_reducible refine x_lst ?_) | (with_reducible refine x_sl ?_) | (with_reducible refine x_noPart ?_) | (with_reducible refine x_part ?_) | (with_reducible refine x_int ?_)
  | (with_reducible refine x_bm ?_) | (with_reducible refine x_m1 ?_) | (with_reducible refine x_tyS ?_) | (with_reducible refine x_gNil ?_) | (with_reducible refine x_gCons ?_) | (with_reducible refine x_gSub ?_) | (with_reducible refine x_next ?_) | (with_reducible refine x_brk ?_)
  | (with_reducible refine x_slStep ?_) | (with_reducible refine x_lc ?_) | (with_reducible refine x_for ?_) | (with_reducible refine x_iL ?_) | (with_reducible refine x_iR1 ?_) | (with_reducible refine x_iR3 ?_) | (with_reducible refine x_iS ?_) | (with_reducible refine x_ref ?_) | (with_reducible refine x_yes ?_)
  | (with_reducible refine a_addI ?_) | (with_reducible refine x_I0 ?_) | (with_reducible refine a_eq rfl ?_) | (with_reducible refine a_ne rfl ?_) | (with_reducible refine a_inS ?_) | (with_reducible refine a_ninS ?_) | (with_reducible refine x_strS ?_) | (with_reducible refine x_intI ?_) | (with_reducible refine x_iB ?_) | (with_reducible refine x_iT ?_)))

section
variable {P : Program} {w : World} {K : PySem.W.Frag} {mg : Str → Option Value} {base : Heap}
def allIn (z s : Str) : Bool := (tl z).all fun c => decide (c ∈ tl s)
def sp_all_in : Sp := fun vs H Q _ => ∃ z s : Str, vs = [.str z, .str s] ∧ Q (.bl (allIn z s)) H
theorem sc_all_in : FnScope ["word", "signs", "sign"] ["word", "signs"] (defScope s_all_in) := ⟨rfl, rfl, rfl, by decide +kernel, rfl, by decide +kernel, by decide +kernel⟩
theorem ok_all_in (T : Tx w K mg) : OkF P w K mg base CX0 1 "all_in" ["word", "signs"] sp_all_in := by
  refine Tx.def0 T 0 rfl T.g_all_in sc_all_in (fun _ _ _ _ _ _ us hl => match us, hl with | [_, _], _ => rfl) (fun vs H Q E h => ?_) (fun f cdv A outer s H vs Q E hr h => ?_)
  · obtain ⟨z, sg, rfl, q⟩ := h; rfl
  · obtain ⟨z, sg, rfl, q⟩ := h
    refine ⟨_, (pss_cons (ps_for PassesOwn.never rfl (pi_str (pv 0)) (pg_name (i := 2) sc_all_in.nd rfl (by first | exact Or.inl rfl | exact Or.inr rfl))
        (pss_one (ps_if (pt_cmpR op_ninG (pv 2) (pv 1) (by rfl))
          (pss_one (ps_ret pe_bl))
          pss_nil)))
      (pss_one (ps_ret pe_bl))), ?_⟩
    walk_at "rd"
    refine ⟨z, rfl, for_str (fun i σ H' => H' = H ∧ (∃ v, σ = [some (.str z), some (.str sg), v]) ∧ ((tl z).take i).all (fun c => decide (c ∈ tl sg)) = true) ⟨rfl, ⟨none, rfl⟩, rfl⟩ ?_ ?_⟩
    · rintro i c σ H' hc ⟨rfl, ⟨v, rfl⟩, ha⟩
      walk_at "rd"
      have hlt := (List.getElem?_eq_some_iff.mp hc).1
      have ec := (List.getElem?_eq_some_iff.mp hc).2
      by_cases hm : c ∈ sg.cps.toList
      · rw [decide_eq_true hm]
        refine iteF ⟨rfl, ⟨_, rfl⟩, ?_⟩
        rw [← List.take_append_getElem hlt, List.all_append, ha, ec]
        simpa using hm
      · rw [decide_eq_false hm]
        refine iteT ?_
        walk_at "rd"
        have e : allIn z sg = false := by
          unfold allIn
          rw [List.all_eq_false]
          exact ⟨c, List.mem_of_getElem? hc, by simpa using hm⟩
        rw [e] at q
        exact q
    · rintro σ H' ⟨rfl, ⟨v, rfl⟩, ha⟩
      walk_at "rd"
      rw [List.take_length] at ha
      have e : allIn z sg = true := ha
      rw [e] at q
      exact q

/-! ### words -/
def sSmall : Str := "abcdefghijklmnopqrstuvwxyz"
def sDigits : Str := "0123456789"
theorem inV_strs {z : Str} : ∀ {ks : List Str}, inV (.str z) (ks.map V.str) = decide (z ∈ ks)
  | [] => rfl
  | k :: ks => by
    have ih := inV_strs (z := z) (ks := ks)
    unfold inV at ih ⊢
    rw [List.map_cons, List.any_cons, ih]
    show ((k == z) || decide (z ∈ ks)) = decide (z ∈ k :: ks)
    by_cases e : k = z
    · subst e
      simp
    · have e2 : ¬ z = k := fun h => e h.symm
      simp [e, e2]
theorem all_flat_strs (ks : List Str) : (ks.map V.str).all flatV = true := by
  rw [List.all_eq_true]
  intro v hv
  obtain ⟨k, _, rfl⟩ := List.mem_map.mp hv
  rfl
theorem dec_strV {a b : Str} : decide (V.str a = V.str b) = decide (a = b) := by
  by_cases e : a = b
  · subst e; simp
  · have : ¬ V.str a = V.str b := fun h => e (V.str.inj h)
    rw [decide_eq_false this, decide_eq_false e]
theorem tl_ne {z : Str} (h : ¬ z = ("" : Str)) : ∃ c r, tl z = c :: r := by
  cases e : tl z with
  | nil => exact absurd (ext_tl (e.trans (by rfl))) h
  | cons c r => exact ⟨c, r, rfl⟩
theorem atI_head {c : Nat} {r : List Nat} : atI (c :: r) 0 = some c := by
  have := atI_nat (xs := c :: r) (j := 0) (v := c) rfl
  exact this
def nameWord (z : Str) : Bool := !(decide (z = ("" : Str)) || (decide (16 < z.length) || decide (z ∈ l_KEYS))) && (((tl z)[0]?.any fun c => decide (c ∈ tl sSmall)) && allIn z (sSmall ++ sDigits))
def sp_name_word : Sp := fun vs H Q _ => ∃ z : Str, vs = [.str z] ∧ z.length ≤ 1000000 ∧ Q (.bl (nameWord z)) H
theorem dec_len {n k : Nat} : decide ((k : Int) < (n : Int)) = decide (k < n) := by
  by_cases h : k < n
  · rw [decide_eq_true h, decide_eq_true (by omega)]
  · rw [decide_eq_false h, decide_eq_false (by omega)]
theorem sc_name_word : FnScope ["word"] ["word"] (defScope s_name_word) := ⟨rfl, rfl, rfl, by decide +kernel, rfl, by decide +kernel, by decide +kernel⟩
theorem ok_name_word (T : Tx w K mg) : OkF P w K mg base CX0 2 "name_word" ["word"] sp_name_word := by
  have G_all_in := ok_all_in (P := P) (base := base) T
  refine Tx.def0 T 1 rfl T.g_name_word sc_name_word (fun _ _ _ _ _ _ us hl => match us, hl with | [_], _ => rfl) (fun vs H Q E h => ?_) (fun f cdv A outer s H vs Q E hr h => ?_)
  · obtain ⟨z, rfl, hz, q⟩ := h; rfl
  · obtain ⟨z, rfl, hz, q⟩ := h
    refine ⟨_, (pss_cons (ps_if (PW.pt (pw_or (pt_cmpR (op_eqG hr.units) (pv 0) pe_str (nomark _)) (pw_or (pt_cmpR op_gt (pe_callB (call_lenG) (by rfl) T.f_len (by decide +kernel) (pa_cons (pv 0) pa_nil)) (pe_gint T.i_NAME (by rfl)) (nomark _)) (pw_or1 (pt_cmpR op_inG (pv 0) (pe_gref T.g_KEYS (by rfl)) (by rfl))))))
        (pss_one (ps_ret pe_bl))
        pss_nil)
      (pss_one (ps_ret (pe_and (pe_cmpR op_inG (pe_ix ix_seq (pv 0) pe_int (fun _ _ => rfl)) (pe_gstr T.t_SMALL (by rfl)) (by rfl)) (pe_one (pe_callO G_all_in (hr.mono (by decide)) (by rfl) pass0 (pa_cons (pv 0) (pa_cons (pe_op op_addG (pe_gstr T.t_SMALL (by rfl)) (pe_gstr T.t_DIGITS (by rfl))) pa_nil)))))))), ?_⟩
    walk_at "rd"
    have fin : ∀ b, nameWord z = b → Q (.bl b) H := fun b e => e ▸ q
    unfold nameWord at fin
    rw [dec_strV]
    refine x_ite (fun h1 => iteT (fin _ ?_)) (fun h1 => ?_)
    · rw [h1]; rfl
    walk_at "rd"
    refine a_lenS (sz_le hz) ?_
    walk_at "rd"
    rw [show decide ((16 : Int) < (z.length : Int)) = decide (16 < z.length) from dec_len (k := 16)]
    refine x_ite (fun h2 => iteT (fin _ ?_)) (fun h2 => ?_)
    · rw [h2]; simp
    walk_at "rd"
    refine a_inT (T.tup_KEYS H) rfl (all_flat_strs _) ?_
    walk_at "rd"
    rw [inV_strs]
    refine x_ite (fun h3 => fin _ ?_) (fun h3 => ?_)
    · rw [h3]; simp
    walk_at "rd"
    obtain ⟨c, r, hc⟩ := tl_ne (of_decide_eq_false h1)
    refine a_ixS (sz_le hz) (i := 0) (c := c) (by show atI (tl z) 0 = _; rw [hc]; exact atI_head) ?_
    walk_at "rd"
    rw [h1, h2, h3, hc] at fin
    refine x_ite (fun h4 => ?_) (fun h4 => fin _ ?_)
    · walk_at "rd"
      refine a_addS (by decide +kernel) ?_
      walk_at "rd"
      refine ⟨z, _, rfl, fin _ ?_⟩
      have h4' : decide (c ∈ tl sSmall) = true := h4
      show (true && (decide (c ∈ tl sSmall) && _)) = _
      rw [h4']; rfl
    · have h4' : decide (c ∈ tl sSmall) = false := h4
      show (true && (decide (c ∈ tl sSmall) && _)) = _
      rw [h4']; rfl
def numberWord (z : Str) : Bool := !(decide (z = ("" : Str)) || (decide (9 < z.length) || !allIn z sDigits)) && (decide (z = ("0" : Str)) || ((tl z)[0]?.any fun c => !decide (c = 48)))
def sp_number_word : Sp := fun vs H Q _ => ∃ z : Str, vs = [.str z] ∧ z.length ≤ 1000000 ∧ Q (.bl (numberWord z)) H
theorem sign_eq {c d : Nat} : decide (V.str ⟨#[c]⟩ = V.str ⟨#[d]⟩) = decide (c = d) := by
  by_cases e : c = d
  · subst e; simp
  · have : ¬ V.str ⟨#[c]⟩ = V.str ⟨#[d]⟩ := fun h => by
      have := V.str.inj h
      injection this with h2
      simp at h2
      exact e h2
    rw [decide_eq_false this, decide_eq_false e]
theorem sc_number_word : FnScope ["word"] ["word"] (defScope s_number_word) := ⟨rfl, rfl, rfl, by decide +kernel, rfl, by decide +kernel, by decide +kernel⟩
theorem ok_number_word (T : Tx w K mg) : OkF P w K mg base CX0 2 "number_word" ["word"] sp_number_word := by
  have G_all_in := ok_all_in (P := P) (base := base) T
  refine Tx.def0 T 2 rfl T.g_number_word sc_number_word (fun _ _ _ _ _ _ us hl => match us, hl with | [_], _ => rfl) (fun vs H Q E h => ?_) (fun f cdv A outer s H vs Q E hr h => ?_)
  · obtain ⟨z, rfl, hz, q⟩ := h; rfl
  · obtain ⟨z, rfl, hz, q⟩ := h
    refine ⟨_, (pss_cons (ps_if (PW.pt (pw_or (pt_cmpR (op_eqG hr.units) (pv 0) pe_str (nomark _)) (pw_or (pt_cmpR op_gt (pe_callB (call_lenG) (by rfl) T.f_len (by decide +kernel) (pa_cons (pv 0) pa_nil)) (pe_gint T.i_FIGURES (by rfl)) (nomark _)) (pw_or1 (pt_not (pt_val (pe_callO G_all_in (hr.mono (by decide)) (by rfl) pass0 (pa_cons (pv 0) (pa_cons (pe_gstr T.t_DIGITS (by rfl)) pa_nil)))))))))
        (pss_one (ps_ret pe_bl))
        pss_nil)
      (pss_one (ps_ret (pe_or (pe_cmpR (op_eqG hr.units) (pv 0) pe_str (nomark _)) (pe_one (pe_cmpR (op_neG hr.units) (pe_ix ix_seq (pv 0) pe_int (fun _ _ => rfl)) pe_str (nomark _))))))), ?_⟩
    walk_at "rd"
    have fin : ∀ b, numberWord z = b → Q (.bl b) H := fun b e => e ▸ q
    unfold numberWord at fin
    rw [dec_strV]
    refine x_ite (fun h1 => iteT (fin _ ?_)) (fun h1 => ?_)
    · rw [h1]; rfl
    walk_at "rd"
    refine a_lenS (sz_le hz) ?_
    walk_at "rd"
    rw [show decide ((9 : Int) < (z.length : Int)) = decide (9 < z.length) from dec_len (k := 9)]
    refine x_ite (fun h2 => iteT (fin _ ?_)) (fun h2 => ?_)
    · rw [h2]; simp
    walk_at "rd"
    refine ⟨z, _, rfl, ?_⟩
    walk_at "rd"
    obtain ⟨c, r, hc⟩ := tl_ne (of_decide_eq_false h1)
    rw [h1, h2, hc] at fin
    refine x_ite (fun h3 => fin _ ?_) (fun h3 => ?_)
    · have h3' : (!allIn z sDigits) = true := h3
      rw [h3']; rfl
    have h3' : (!allIn z sDigits) = false := h3
    rw [h3'] at fin
    walk_at "rd"
    rw [dec_strV]
    refine x_ite (fun h4 => fin _ ?_) (fun h4 => ?_)
    · have h4' : decide (z = ("0" : Str)) = true := h4
      rw [h4']; rfl
    have h4' : decide (z = ("0" : Str)) = false := h4
    rw [h4'] at fin
    walk_at "rd"
    refine a_ixS (sz_le hz) (i := 0) (c := c) (by show atI (tl z) 0 = _; rw [hc]; exact atI_head) ?_
    walk_at "rd"
    refine fin _ ?_
    show (!decide (c = 48)) = _
    rw [← sign_eq]
    rfl
/-! ### lists of words -/
theorem allS {f : Str → Bool} (ws : List Str) : ((ws.map V.str).map fun v => V.bl (match v with | .str z => f z | _ => false)) = (ws.map f).map V.bl := by
  rw [List.map_map, List.map_map]
  rfl
def strF (f : Str → Bool) (v : V) : V := match v with
  | .str z => .bl (f z)
  | _ => .non
theorem allS' {f : Str → Bool} (ws : List Str) : (ws.map V.str).map (strF f) = (ws.map f).map V.bl := by
  rw [List.map_map, List.map_map]
  rfl
theorem all_id {f : Str → Bool} (ws : List Str) : (ws.map f).all id = ws.all f := by
  rw [List.all_map]
  rfl
def sp_all_numbers (K : PySem.W.Frag) : Sp := fun vs H Q _ => ∃ (a : Addr) (ws : List Str), vs = [.ref a] ∧ SqL K H a (ws.map V.str) ∧ ws.length ≤ 100000 ∧ (∀ z ∈ ws, z.length ≤ 1000000) ∧ ∀ H', Same H H' → Q (.bl (ws.all numberWord)) H'
theorem sc_all_numbers : FnScope ["words", "word"] ["words"] (defScope s_all_numbers) := ⟨rfl, rfl, rfl, by decide +kernel, rfl, by decide +kernel, by decide +kernel⟩
theorem ok_all_numbers (T : Tx w K mg) : OkF P w K mg base CX0 3 "all_numbers" ["words"] (sp_all_numbers K) := by
  have G_number_word := ok_number_word (P := P) (base := base) T
  refine Tx.def0 T 6 rfl T.g_all_numbers sc_all_numbers (fun _ _ _ _ _ _ us hl => match us, hl with | [_], _ => rfl) (fun vs H Q E h => ?_) (fun f cdv A outer s H vs Q E hr h => ?_)
  · obtain ⟨a, ws, rfl, hs, hl, hw, q⟩ := h; rfl
  · obtain ⟨a, ws, rfl, hs, hl, hw, q⟩ := h
    refine ⟨_, (pss_one (ps_ret (pe_callB (cr_all rfl) (by rfl) T.f_all (by decide +kernel) (pa_cons (pe_lc (own := [("word", 1)]) rfl sc_all_numbers.nd (pi_list (pv 0)) (blkOk_by (own := [("word", 1)]) (N := ["words", "word"]) (sc := (defScope s_all_numbers)) (by decide +kernel)) (fun _ _ _ _ _ => (pg_name (i := 1) sc_all_numbers.nd rfl (by first | exact Or.inl rfl | exact Or.inr rfl))) (fun _ _ _ _ _ => pts_nil) (fun _ _ _ _ _ => (pe_callO G_number_word (hr.mono (by decide)) (by rfl) pass0 (pa_cons (pv 1) pa_nil)))) pa_nil)))), ?_⟩
    walk_at "rd"
    refine lcP hs (strF numberWord) (by rw [List.length_map]; exact hl) (fun x H2 QQ hx sm qq => ?_) (fun p H' hp sm hp' => ?_)
    · obtain ⟨z, hz, rfl⟩ := List.mem_map.mp hx
      walk_at "rd"
      refine ⟨rfl, ?_⟩
      walk_at "rd"
      exact ⟨z, rfl, hw z hz, qq _ (Same.refl _)⟩
    · walk_at "rd"
      rw [allS'] at hp'
      refine x_allB (SqL.of hp') ?_
      rw [all_id]
      exact q _ sm
def sp_all_names (K : PySem.W.Frag) : Sp := fun vs H Q _ => ∃ (a : Addr) (ws : List Str), vs = [.ref a] ∧ SqL K H a (ws.map V.str) ∧ ws.length ≤ 100000 ∧ (∀ z ∈ ws, z.length ≤ 1000000) ∧ ∀ H', Same H H' → Q (.bl (ws.all nameWord)) H'
theorem sc_all_names : FnScope ["words", "word"] ["words"] (defScope s_all_names) := ⟨rfl, rfl, rfl, by decide +kernel, rfl, by decide +kernel, by decide +kernel⟩
theorem ok_all_names (T : Tx w K mg) : OkF P w K mg base CX0 3 "all_names" ["words"] (sp_all_names K) := by
  have G_name_word := ok_name_word (P := P) (base := base) T
  refine Tx.def0 T 7 rfl T.g_all_names sc_all_names (fun _ _ _ _ _ _ us hl => match us, hl with | [_], _ => rfl) (fun vs H Q E h => ?_) (fun f cdv A outer s H vs Q E hr h => ?_)
  · obtain ⟨a, ws, rfl, hs, hl, hw, q⟩ := h; rfl
  · obtain ⟨a, ws, rfl, hs, hl, hw, q⟩ := h
    refine ⟨_, (pss_one (ps_ret (pe_callB (cr_all rfl) (by rfl) T.f_all (by decide +kernel) (pa_cons (pe_lc (own := [("word", 1)]) rfl sc_all_names.nd (pi_list (pv 0)) (blkOk_by (own := [("word", 1)]) (N := ["words", "word"]) (sc := (defScope s_all_names)) (by decide +kernel)) (fun _ _ _ _ _ => (pg_name (i := 1) sc_all_names.nd rfl (by first | exact Or.inl rfl | exact Or.inr rfl))) (fun _ _ _ _ _ => pts_nil) (fun _ _ _ _ _ => (pe_callO G_name_word (hr.mono (by decide)) (by rfl) pass0 (pa_cons (pv 1) pa_nil)))) pa_nil)))), ?_⟩
    walk_at "rd"
    refine lcP hs (strF nameWord) (by rw [List.length_map]; exact hl) (fun x H2 QQ hx sm qq => ?_) (fun p H' hp sm hp' => ?_)
    · obtain ⟨z, hz, rfl⟩ := List.mem_map.mp hx
      walk_at "rd"
      refine ⟨rfl, ?_⟩
      walk_at "rd"
      exact ⟨z, rfl, hw z hz, qq _ (Same.refl _)⟩
    · walk_at "rd"
      rw [allS'] at hp'
      refine x_allB (SqL.of hp') ?_
      rw [all_id]
      exact q _ sm
/-! ### numbers of words -/
def wordInt (z : Str) : Int := (intText? z).getD 0
def intF (v : V) : V := match v with
  | .str z => .int (wordInt z)
  | _ => .non
/-- words that are numbers as int reads them -/
def NumW (z : Str) : Prop := (∃ n, intText? z = some n) ∧ z.length ≤ 640
theorem NumW.eq {z : Str} (h : NumW z) : intText? z = some (wordInt z) := by
  obtain ⟨⟨n, e⟩, _⟩ := h
  unfold wordInt
  rw [e] <;> rfl
def sp_numbers_of (K : PySem.W.Frag) : Sp := fun vs H Q _ => ∃ (a : Addr) (ws : List Str), vs = [.ref a] ∧ SqL K H a (ws.map V.str) ∧ ws.length ≤ 100000 ∧ (∀ z ∈ ws, NumW z) ∧ ∀ p H', H p = none → Same H H' → H' p = some (.lst ((ws.map wordInt).map V.int)) → Q (.ref p) H'
theorem sc_numbers_of : FnScope ["words", "word"] ["words"] (defScope s_numbers_of) := ⟨rfl, rfl, rfl, by decide +kernel, rfl, by decide +kernel, by decide +kernel⟩
theorem ok_numbers_of (T : Tx w K mg) : OkF P w K mg base CX0 1 "numbers_of" ["words"] (sp_numbers_of K) := by
  refine Tx.def0 T 13 rfl T.g_numbers_of sc_numbers_of (fun _ _ _ _ _ _ us hl => match us, hl with | [_], _ => rfl) (fun vs H Q E h => ?_) (fun f cdv A outer s H vs Q E hr h => ?_)
  · obtain ⟨a, ws, rfl, hs, hl, hw, q⟩ := h; rfl
  · obtain ⟨a, ws, rfl, hs, hl, hw, q⟩ := h
    refine ⟨_, (pss_one (ps_ret (pe_lc (own := [("word", 1)]) rfl sc_numbers_of.nd (pi_list (pv 0)) (blkOk_by (own := [("word", 1)]) (N := ["words", "word"]) (sc := (defScope s_numbers_of)) (by decide +kernel)) (fun _ _ _ _ _ => (pg_name (i := 1) sc_numbers_of.nd rfl (by first | exact Or.inl rfl | exact Or.inr rfl))) (fun _ _ _ _ _ => pts_nil) (fun _ _ _ _ _ => (pe_callTy call_intG (by rfl) T.f_int (by decide +kernel) (pa_cons (pv 1) pa_nil)))))), ?_⟩
    walk_at "rd"
    refine lcP hs intF (by rw [List.length_map]; exact hl) (fun x H2 QQ hx sm qq => ?_) (fun p H' hp sm hp' => ?_)
    · obtain ⟨z, hz, rfl⟩ := List.mem_map.mp hx
      walk_at "rd"
      refine ⟨rfl, ?_⟩
      walk_at "rd"
      exact x_intS (hw z hz).eq (hw z hz).2 (qq _ (Same.refl _))
    · refine q p H' hp sm ?_
      rw [hp', List.map_map, List.map_map]
      rfl
theorem ixS {ws : List Str} {i : Nat} {z : Str} (h : ws[i]? = some z) : atI (ws.map V.str) (i : Int) = some (.str z) := atI_nat (by rw [List.getElem?_map, h]; rfl)
def sp_fields_of (K : PySem.W.Frag) : Sp := fun vs H Q _ => ∃ (a : Addr) (w0 w1 w2 w3 : Str) (r : List Str), vs = [.ref a] ∧ SqL K H a ((w0 :: w1 :: w2 :: w3 :: r).map V.str) ∧ NumW w0 ∧ NumW w1 ∧ NumW w2 ∧ NumW w3 ∧
  ∀ p, H p = none → Q (.ref p) (upd H p (.tup [.int (wordInt w0), .int (wordInt w1), .int (wordInt w2), .int (wordInt w3)]))
theorem sc_fields_of : FnScope ["words"] ["words"] (defScope s_fields_of) := ⟨rfl, rfl, rfl, by decide +kernel, rfl, by decide +kernel, by decide +kernel⟩
theorem ok_fields_of (T : Tx w K mg) : OkF P w K mg base CX0 1 "fields_of" ["words"] (sp_fields_of K) := by
  refine Tx.def0 T 15 rfl T.g_fields_of sc_fields_of (fun _ _ _ _ _ _ us hl => match us, hl with | [_], _ => rfl) (fun vs H Q E h => ?_) (fun f cdv A outer s H vs Q E hr h => ?_)
  · obtain ⟨a, w0, w1, w2, w3, r, rfl, hs, n0, n1, n2, n3, q⟩ := h; rfl
  · obtain ⟨a, w0, w1, w2, w3, r, rfl, hs, n0, n1, n2, n3, q⟩ := h
    refine ⟨_, (pss_one (ps_ret (pe_tup (pa_cons (pe_callTy call_intG (by rfl) T.f_int (by decide +kernel) (pa_cons (pe_ix ix_seq (pv 0) pe_int (fun _ _ => rfl)) pa_nil)) (pa_cons (pe_callTy call_intG (by rfl) T.f_int (by decide +kernel) (pa_cons (pe_ix ix_seq (pv 0) pe_int (fun _ _ => rfl)) pa_nil)) (pa_cons (pe_callTy call_intG (by rfl) T.f_int (by decide +kernel) (pa_cons (pe_ix ix_seq (pv 0) pe_int (fun _ _ => rfl)) pa_nil)) (pa_cons (pe_callTy call_intG (by rfl) T.f_int (by decide +kernel) (pa_cons (pe_ix ix_seq (pv 0) pe_int (fun _ _ => rfl)) pa_nil)) pa_nil))))))), ?_⟩
    walk_at "rd"
    refine a_ixL hs (ixS (i := 0) rfl) ?_
    walk_at "rd"
    refine x_intS n0.eq n0.2 ?_
    walk_at "rd"
    refine a_ixL hs (ixS (i := 1) rfl) ?_
    walk_at "rd"
    refine x_intS n1.eq n1.2 ?_
    walk_at "rd"
    refine a_ixL hs (ixS (i := 2) rfl) ?_
    walk_at "rd"
    refine x_intS n2.eq n2.2 ?_
    walk_at "rd"
    refine a_ixL hs (ixS (i := 3) rfl) ?_
    walk_at "rd"
    refine x_intS n3.eq n3.2 ?_
    walk_at "rd"
    exact ⟨sz_lit (n := 4), fun p hp => q p hp⟩
end
end K97


set_option maxRecDepth 100000
set_option maxHeartbeats 4000000
namespace K97
open PySem PySem.Spec PyProof.Rows L2 TL NB
local macro_rules | `(tactic| walk_at "rd") => `(tactic| repeat (first
  | (with_reducible refine x_seq ?_) | (with_reducible refine x_asg ?_) | (with_reducible refine x_gName ?_) | (with_reducible refine x_ret ?_) | (with_reducible refine x_drop ?_) | (with_reducible refine x_ifS ?_)
  | (with_reducible refine x_op ?_) | (with_reducible refine x_c ?_) | ((with_reducible refine' x_var ?k1 ?_); (case k1 => with_unfolding_all rfl)) | (with_reducible refine x_cb ?_) | (with_reducible refine x_call0 ?_) | (with_reducible refine x_cons ?_) | (with_reducible refine x_nil ?_)
  | (with_reducible refine x_test ?_) | (with_reducible refine x_B ?_) | (with_reducible refine x_bl ?_) | (with_reducible refine x_and ?_) | (with_reducible refine x_or ?_) | (with_reducible refine x_not ?_)
  | (with_reducible refine x_andV ?_) | (with_reducible refine x_orV ?_) | (with_reducible refine x_notV ?_) | (with_reducible refine x_if ?_) | (with_reducible refine x_isN ?_) | (with_reducible refine x_notN ?_)
  | (with_reducible refine x_tup ?_) | (with_reducible refine x_lst ?_) | (with_reducible refine x_sl ?_) | (with_reducible refine x_noPart ?_) | (with_reducible refine x_part ?_) | (with_reducible refine x_int ?_)
  | (with_reducible refine x_bm ?_) | (with_reducible refine x_m1 ?_) | (with_reducible refine x_tyS ?_) | (with_reducible refine x_gNil ?_) | (with_reducible refine x_gCons ?_) | (with_reducible refine x_gSub ?_) | (with_reducible refine x_next ?_) | (with_reducible refine x_brk ?_)
  | (with_reducible refine x_slStep ?_) | (with_reducible refine x_lc ?_) | (with_reducible refine x_for ?_) | (with_reducible refine x_iL ?_) | (with_reducible refine x_iR1 ?_) | (with_reducible refine x_iR3 ?_) | (with_reducible refine x_iS ?_) | (with_reducible refine x_ref ?_) | (with_reducible refine x_yes ?_)
  | (with_reducible refine a_addI ?_) | (with_reducible refine x_I0 ?_) | (with_reducible refine a_eq rfl ?_) | (with_reducible refine a_ne rfl ?_) | (with_reducible refine a_inS ?_) | (with_reducible refine a_ninS ?_) | (with_reducible refine x_strS ?_) | (with_reducible refine x_intI ?_) | (with_reducible refine x_iB ?_) | (with_reducible refine x_iT ?_)))

section
variable {P : Program} {w : World} {K : PySem.W.Frag} {mg : Str → Option Value} {base : Heap}
/-! ### what follows told -/
def trip : List Str → Bool
  | [] => true
  | a :: b :: c :: r => nameWord a && (decide (b = ("->" : Str)) && (nameWord c && trip r))
  | _ => false
def toldForm (ws : List Str) : Bool := decide (ws = ([("same" : Str)] : List Str)) || trip ws
theorem trip_len : ∀ {ws : List Str}, trip ws = true → ws.length % 3 = 0
  | [], _ => rfl
  | [_], h => by cases h
  | [_, _], h => by cases h
  | a :: b :: c :: r, h => by
    have h1 : (nameWord a && (decide (b = ("->" : Str)) && (nameWord c && trip r))) = true := h
    simp only [Bool.and_eq_true] at h1
    have := trip_len h1.2.2.2
    simp only [List.length_cons]
    omega
/-- a word of a text of ours -/
def Wd (z : Str) : Prop := z.length ≤ 1000000 ∧ ∀ c ∈ tl z, c < 128
theorem Wd.ok {z : Str} (h : Wd z) : PyData.strOk z = true := by
  unfold PyData.strOk
  rw [← Array.all_toList, List.all_eq_true]
  intro c hc
  have := h.2 c hc
  exact decide_eq_true (by omega)
theorem canLay_strs : ∀ {ws : List Str}, (∀ z ∈ ws, Wd z) → PyData.canLayAll0 (ws.map PyData.str) = true
  | [], _ => by simp [PyData.canLayAll0]
  | z :: ws, h => by
    have h1 := (h z List.mem_cons_self).ok
    have h2 := canLay_strs (ws := ws) fun y hy => h y (List.mem_cons_of_mem _ hy)
    simp only [List.map_cons, PyData.canLayAll0, PyData.canLay0, h1, h2, Bool.and_self]
theorem depth_strs : ∀ {ws : List Str}, PyData.depthAll (ws.map PyData.str) = 0
  | [] => by simp [PyData.depthAll]
  | z :: ws => by
    simp only [List.map_cons, PyData.depthAll, PyData.depth, depth_strs (ws := ws), Nat.max_self]
theorem shaped_strs {ws : List Str} (h : ∀ z ∈ ws, Wd z) : SeqAt.shaped (.list (ws.map PyData.str)) = true := by
  unfold SeqAt.shaped
  rw [Bool.and_eq_true]
  refine ⟨?_, ?_⟩
  · simp only [PyData.canLay0, canLay_strs h]
  · simp only [PyData.depth, depth_strs]
    rfl
theorem eqvAll_strs : ∀ {a b : List Str}, PyData.eqvAll (a.map PyData.str) (b.map PyData.str) = decide (a = b)
  | [], [] => by simp [PyData.eqvAll]
  | [], _ :: _ => by simp [PyData.eqvAll]
  | _ :: _, [] => by simp [PyData.eqvAll]
  | x :: a, y :: b => by
    simp only [List.map_cons, PyData.eqvAll, PyData.eqv, eqvAll_strs (a := a) (b := b)]
    by_cases h1 : x = y
    · by_cases h2 : a = b
      · simp [h1, h2]
      · simp [h1, h2]
    · simp [h1]
theorem eqv_strs {a b : List Str} : PyData.eqv (.list (a.map PyData.str)) (.list (b.map PyData.str)) = decide (a = b) := by
  simp only [PyData.eqv, eqvAll_strs]
theorem dp_strs {H : Hp} {a : Addr} {ws : List Str} (h : SqL K H a (ws.map V.str)) : Dp K H (.ref a) (.list (ws.map PyData.str)) := .lst h (dpAll_strs ws)
theorem wd_lit {z : Str} (h : (decide (z.length ≤ 1000000) && (tl z).all fun c => decide (c < 128)) = true) : Wd z := by
  rw [Bool.and_eq_true] at h
  exact ⟨of_decide_eq_true h.1, fun c hc => of_decide_eq_true (List.all_eq_true.mp h.2 c hc)⟩
theorem wd_one {z : Str} (h : Wd z) : ∀ y ∈ [z], Wd y := fun y hy => by
  rw [List.mem_singleton.mp hy]
  exact h
theorem wd_same : Wd "same" := wd_lit (by decide +kernel)
def sp_told_form (K : PySem.W.Frag) : Sp := fun vs H Q _ => ∃ (a : Addr) (ws : List Str), vs = [.ref a] ∧ SqL K H a (ws.map V.str) ∧ ws.length ≤ 100000 ∧ (∀ z ∈ ws, Wd z) ∧ ∀ H', Same H H' → Q (.bl (toldForm ws)) H'
theorem rgC {n m : Nat} {c : Int} (hc : c = 3 ∨ c = 2) (h : (n : Int) = c * m) (hn : n ≤ 100000) : RgC 0 (n : Int) c m := by
  have e : Builtin.Range.rangeSize 0 (n : Int) c = (m : Int) := by
    unfold Builtin.Range.rangeSize
    rcases hc with rfl | rfl
    · rw [if_pos (by decide)]
      split <;> omega
    · rw [if_pos (by decide)]
      split <;> omega
  refine ⟨by rcases hc with rfl | rfl <;> decide, by rcases hc with rfl | rfl <;> decide, ?_, e⟩
  unfold Builtin.Range.small Builtin.Range.rangeFitsLong
  rw [e]
  simp only [Bool.and_eq_true, Bool.or_eq_true, decide_eq_true_eq, beq_iff_eq]
  rcases hc with rfl | rfl
  · refine ⟨⟨⟨⟨by omega, by omega⟩, by omega⟩, by omega⟩, .inr ?_⟩
    rw [if_pos (by decide)]
    simp only [Bool.and_eq_true, decide_eq_true_eq]
    omega
  · refine ⟨⟨⟨⟨by omega, by omega⟩, by omega⟩, by omega⟩, .inr ?_⟩
    rw [if_pos (by decide)]
    simp only [Bool.and_eq_true, decide_eq_true_eq]
    omega
theorem ixS' {ws : List Str} {k : Int} {i : Nat} {z : Str} (hk : k = (i : Int)) (h : ws[i]? = some z) : atI (ws.map V.str) k = some (.str z) := by
  subst hk
  exact ixS h
theorem drop3 {ws : List Str} {i : Nat} (h : 3 * i + 3 ≤ ws.length) : ∃ x y z, ws[3 * i]? = some x ∧ ws[3 * i + 1]? = some y ∧ ws[3 * i + 2]? = some z ∧ ws.drop (3 * i) = x :: y :: z :: ws.drop (3 * (i + 1)) := by
  have h0 : 3 * i < ws.length := by omega
  have h1 : 3 * i + 1 < ws.length := by omega
  have h2 : 3 * i + 2 < ws.length := by omega
  refine ⟨ws[3 * i], ws[3 * i + 1], ws[3 * i + 2], List.getElem?_eq_getElem h0, List.getElem?_eq_getElem h1, List.getElem?_eq_getElem h2, ?_⟩
  rw [List.drop_eq_getElem_cons h0, List.drop_eq_getElem_cons h1, List.drop_eq_getElem_cons h2, show 3 * (i + 1) = 3 * i + 2 + 1 by omega]
theorem sc_told_form : FnScope ["words", "k"] ["words"] (defScope s_told_form) := ⟨rfl, rfl, rfl, by decide +kernel, rfl, by decide +kernel, by decide +kernel⟩
theorem ok_told_form (T : Tx w K mg) : OkF P w K mg base CX0 3 "told_form" ["words"] (sp_told_form K) := by
  have G_name_word := ok_name_word (P := P) (base := base) T
  refine Tx.def0 T 8 rfl T.g_told_form sc_told_form (fun _ _ _ _ _ _ us hl => match us, hl with | [_], _ => rfl) (fun vs H Q E h => ?_) (fun f cdv A outer s H vs Q E hr h => ?_)
  · obtain ⟨a, ws, rfl, hs, hl, hw, q⟩ := h; rfl
  · obtain ⟨a, ws, rfl, hs, hl, hw, q⟩ := h
    refine ⟨_, (pss_cons (ps_if (pt_cmpR (op_eqG hr.units) (pv 0) (pe_lst (pa_cons pe_str pa_nil)) (nomark _))
        (pss_one (ps_ret pe_bl))
        pss_nil)
      (pss_cons (ps_if (pt_cmpR (op_neG hr.units) (pe_op op_mod (pe_callB (call_lenG) (by rfl) T.f_len (by decide +kernel) (pa_cons (pv 0) pa_nil)) pe_int) pe_int (nomark _))
        (pss_one (ps_ret pe_bl))
        pss_nil)
      (pss_cons (ps_for PassesOwn.never rfl (pi_range3 (by rfl) T.f_range (pa_cons pe_int (pa_cons (pe_callB (call_lenG) (by rfl) T.f_len (by decide +kernel) (pa_cons (pv 0) pa_nil)) (pa_cons pe_int pa_nil)))) (pg_name (i := 1) sc_told_form.nd rfl (by first | exact Or.inl rfl | exact Or.inr rfl))
        (pss_one (ps_if (PW.pt (pw_or (pt_not (pt_val (pe_callO G_name_word (hr.mono (by decide)) (by rfl) pass0 (pa_cons (pe_ix ix_seq (pv 0) (pv 1) (fun _ _ => rfl)) pa_nil)))) (pw_or (pt_cmpR (op_neG hr.units) (pe_ix ix_seq (pv 0) (pe_op op_addG (pv 1) pe_int) (fun _ _ => rfl)) pe_str (nomark _)) (pw_or1 (pt_not (pt_val (pe_callO G_name_word (hr.mono (by decide)) (by rfl) pass0 (pa_cons (pe_ix ix_seq (pv 0) (pe_op op_addG (pv 1) pe_int) (fun _ _ => rfl)) pa_nil))))))))
          (pss_one (ps_ret pe_bl))
          pss_nil)))
      (pss_one (ps_ret pe_bl))))), ?_⟩
    have fin : ∀ b H', toldForm ws = b → Same H H' → Q (.bl b) H' := fun b H' e s => e ▸ q H' s
    walk_at "rd"
    refine ⟨sz_lit (n := 1), fun p hp => ?_⟩
    have s1 : Same H (upd H p (.lst [.str "same"])) := same_new hp
    refine a_eqD (dp_strs (s1.seq hs)) (dp_strs (ws := [("same" : Str)]) (SqL.of upd_same)) (shaped_strs hw) (shaped_strs (wd_one wd_same)) ?_
    rw [eqv_strs]
    walk_at "rd"
    refine x_ite (fun h1 => ?_) (fun h1 => ?_)
    · walk_at "rd"
      exact fin _ _ (by unfold toldForm; rw [h1]; rfl) s1
    walk_at "rd"
    refine a_lenL (s1.seq hs) ?_
    walk_at "rd"
    refine x_I (by show (0 : Int) < 3; decide) ?_
    walk_at "rd"
    have fin2 : ∀ b H', trip ws = b → Same H H' → Q (.bl b) H' := fun b H' e s => fin b H' (by unfold toldForm; rw [h1]; exact e) s
    rw [List.length_map]
    refine x_ite (fun h2 => ?_) (fun h2 => ?_)
    · walk_at "rd"
      refine fin2 _ _ ?_ s1
      cases e : trip ws with
      | false => rfl
      | true =>
        have := trip_len e
        have h3 : ((ws.length : Int) % 3) = 0 := by omega
        rw [h3] at h2
        simp at h2
    have h3 : ws.length % 3 = 0 := by
      have h4 : ((ws.length : Int) % 3) = 0 := by simpa using h2
      omega
    walk_at "rd"
    refine a_lenL (s1.seq hs) ?_
    walk_at "rd"
    rw [List.length_map]
    refine ⟨_, _, _, ws.length / 3, rfl, rgC (.inl rfl) (by omega) hl, ?_⟩
    refine forRC (fun i σ H2 => (∃ v, σ = [some (.ref a), v]) ∧ Same H H2 ∧ trip ws = trip (ws.drop (3 * i))) ⟨⟨_, rfl⟩, s1, rfl⟩ ?_ ?_
    · rintro i σ H2 hi ⟨⟨v, rfl⟩, s2, ht⟩
      obtain ⟨x, y, z, hx, hy, hz, hd⟩ := drop3 (ws := ws) (i := i) (by omega)
      rw [hd] at ht
      have ht2 : trip ws = (nameWord x && (decide (y = ("->" : Str)) && (nameWord z && trip (ws.drop (3 * (i + 1)))))) := ht
      walk_at "rd"
      refine a_ixL (s2.seq hs) (ixS' (i := 3 * i) (by omega) hx) ?_
      walk_at "rd"
      refine ⟨x, rfl, (hw x (List.mem_of_getElem? hx)).1, ?_⟩
      walk_at "rd"
      refine x_ite (fun g1 => ?_) (fun g1 => ?_)
      · refine iteT ?_
        walk_at "rd"
        refine fin2 _ _ ?_ s2
        have : nameWord x = false := by simpa using g1
        rw [ht2, this]; rfl
      have g1' : nameWord x = true := by simpa using g1
      walk_at "rd"
      refine a_ixL (s2.seq hs) (ixS' (i := 3 * i + 1) (by omega) hy) ?_
      walk_at "rd"
      rw [dec_strV]
      refine x_ite (fun g2 => ?_) (fun g2 => ?_)
      · refine iteT ?_
        walk_at "rd"
        refine fin2 _ _ ?_ s2
        have : decide (y = ("->" : Str)) = false := by simpa using g2
        rw [ht2, g1', this]; rfl
      have g2' : decide (y = ("->" : Str)) = true := by simpa using g2
      walk_at "rd"
      refine a_ixL (s2.seq hs) (ixS' (i := 3 * i + 2) (by omega) hz) ?_
      walk_at "rd"
      refine ⟨z, rfl, (hw z (List.mem_of_getElem? hz)).1, ?_⟩
      walk_at "rd"
      refine x_ite (fun g3 => ?_) (fun g3 => ?_)
      · walk_at "rd"
        refine fin2 _ _ ?_ s2
        have : nameWord z = false := by simpa using g3
        rw [ht2, g1', g2', this]; rfl
      have g3' : nameWord z = true := by simpa using g3
      walk_at "rd"
      refine ⟨⟨_, rfl⟩, s2, ?_⟩
      rw [ht2, g1', g2', g3']; rfl
    · rintro σ H2 ⟨⟨v, rfl⟩, s2, ht⟩
      walk_at "rd"
      refine fin2 _ _ ?_ s2
      rw [ht, List.drop_eq_nil_of_le (by omega)]; rfl
/-! ### every other word -/
def evens {α : Type} : List α → List α
  | [] => []
  | [a] => [a]
  | a :: _ :: r => a :: evens r
def odds {α : Type} : List α → List α
  | [] => []
  | [_] => []
  | _ :: b :: r => b :: odds r
theorem evens_map {α β : Type} (f : α → β) : ∀ l : List α, evens (l.map f) = (evens l).map f
  | [] => rfl
  | [_] => rfl
  | a :: b :: r => by
    show f a :: evens (r.map f) = _
    rw [evens_map f r]
    rfl
theorem odds_map {α β : Type} (f : α → β) : ∀ l : List α, odds (l.map f) = (odds l).map f
  | [] => rfl
  | [_] => rfl
  | a :: b :: r => by
    show f b :: odds (r.map f) = _
    rw [odds_map f r]
    rfl
theorem evens_mem {α : Type} : ∀ {l : List α} {x : α}, x ∈ evens l → x ∈ l
  | [_], _, h => h
  | a :: b :: r, x, h => by
    rcases List.mem_cons.mp (show x ∈ a :: evens r from h) with rfl | h
    · exact List.mem_cons_self
    · exact List.mem_cons_of_mem _ (List.mem_cons_of_mem _ (evens_mem h))
theorem odds_mem {α : Type} : ∀ {l : List α} {x : α}, x ∈ odds l → x ∈ l
  | a :: b :: r, x, h => by
    rcases List.mem_cons.mp (show x ∈ b :: odds r from h) with rfl | h
    · exact List.mem_cons_of_mem _ List.mem_cons_self
    · exact List.mem_cons_of_mem _ (List.mem_cons_of_mem _ (odds_mem h))
theorem evens_len {α : Type} : ∀ l : List α, (evens l).length ≤ l.length
  | [] => Nat.le_refl _
  | [_] => Nat.le_refl _
  | a :: b :: r => by
    have := evens_len r
    show (evens r).length + 1 ≤ r.length + 1 + 1
    omega
theorem odds_len {α : Type} : ∀ l : List α, (odds l).length ≤ l.length
  | [] => Nat.le_refl _
  | [_] => Nat.zero_le _
  | a :: b :: r => by
    have := odds_len r
    show (odds r).length + 1 ≤ r.length + 1 + 1
    omega
theorem pick_step (xs : List V) : ∀ (m s : Nat), xs.length ≤ s + 2 * m → xs.length + 1 ≥ s + 2 * m ∨ m = 0 → ((List.range m).map fun k => s + 2 * k).filterMap (xs[·]?) = evens (xs.drop s)
  | 0, s, h, _ => by
    rw [List.drop_eq_nil_of_le (by omega)]
    rfl
  | m + 1, s, h, g => by
    have ih := pick_step xs m (s + 2) (by omega) (by rcases g with g | g; exact .inl (by omega); omega)
    rw [List.range_succ_eq_map, List.map_cons, List.map_map, List.filterMap_cons]
    have e : ((fun k => s + 2 * k) ∘ Nat.succ) = fun k => (s + 2) + 2 * k := by
      funext k
      show s + 2 * (k + 1) = _
      omega
    rw [e, ih]
    have hs : s < xs.length := by rcases g with g | g <;> omega
    rw [show s + 2 * 0 = s from rfl, List.getElem?_eq_getElem hs]
    show xs[s] :: evens (xs.drop (s + 2)) = evens (xs.drop s)
    rw [List.drop_eq_getElem_cons hs]
    by_cases h2 : s + 1 < xs.length
    · rw [List.drop_eq_getElem_cons h2]
      rfl
    · rw [List.drop_eq_nil_of_le (show xs.length ≤ s + 1 by omega), List.drop_eq_nil_of_le (show xs.length ≤ s + 2 by omega)]
      rfl
theorem range2 (s n : Nat) (h : s ≤ n) : sliceRange (s : Int) (n : Int) 2 = (List.range ((n - s + 1) / 2)).map fun k => s + 2 * k := by
  unfold sliceRange
  have e : (if (2 : Int) > 0 then (if (s : Int) < n then ((n : Int) - s + 2 - 1) / 2 else 0) else (if (s : Int) > n then ((s : Int) - n - 2 - 1) / (-2) else 0)).toNat = (n - s + 1) / 2 := by
    rw [if_pos (by decide)]
    split <;> omega
  simp only [e]
  refine List.map_congr_left fun k _ => ?_
  omega
theorem pick_even (xs : List V) : pickV xs none none (some 2) = evens xs := by
  unfold pickV
  show (sliceRange 0 (xs.length : Int) 2).filterMap (xs[·]?) = _
  rw [show (0 : Int) = ((0 : Nat) : Int) from rfl, range2 0 xs.length (Nat.zero_le _), pick_step xs _ 0 (by omega) (by omega)]
  rfl
theorem evens_tail {α : Type} : ∀ l : List α, evens (l.drop 1) = odds l
  | [] => rfl
  | [_] => rfl
  | a :: b :: r => by
    have ih := evens_tail r
    cases r with
    | nil => rfl
    | cons c r => 
      show b :: evens r = b :: odds (c :: r)
      rw [← ih]
      rfl
theorem pick_odd (xs : List V) : pickV xs (some 1) none (some 2) = odds xs := by
  unfold pickV
  cases xs with
  | nil => rfl
  | cons x r =>
    have e : (sliceBounds (some 1) none (some 2) (x :: r).length) = ((1 : Int), ((x :: r).length : Int), (2 : Int)) := by
      simp only [sliceBounds, Option.getD_some, List.length_cons, show ((2 : Int) > 0) from by decide, show ¬ ((1 : Int) < 0) from by decide, if_true, if_false]
      have : max (0 : Int) (min 1 (((r.length + 1 : Nat)) : Int)) = 1 := by omega
      rw [this]
    rw [e]
    show (sliceRange ((1 : Nat) : Int) ((x :: r).length : Int) 2).filterMap _ = _
    rw [range2 1 (x :: r).length (by simp), pick_step (x :: r) _ 1 (by omega) (by omega), evens_tail]
def movesForm (ws : List Str) : Bool := decide (ws.length % 2 = 0) && ((evens ws).all numberWord && (odds ws).all nameWord)
def sp_moves_form (K : PySem.W.Frag) : Sp := fun vs H Q _ => ∃ (a : Addr) (ws : List Str), vs = [.ref a] ∧ SqL K H a (ws.map V.str) ∧ ws.length ≤ 100000 ∧ (∀ z ∈ ws, Wd z) ∧ ∀ H', Same H H' → Q (.bl (movesForm ws)) H'
theorem sc_moves_form : FnScope ["words"] ["words"] (defScope s_moves_form) := ⟨rfl, rfl, rfl, by decide +kernel, rfl, by decide +kernel, by decide +kernel⟩
theorem ok_moves_form (T : Tx w K mg) : OkF P w K mg base CX0 4 "moves_form" ["words"] (sp_moves_form K) := by
  have G_all_names := ok_all_names (P := P) (base := base) T
  have G_all_numbers := ok_all_numbers (P := P) (base := base) T
  refine Tx.def0 T 9 rfl T.g_moves_form sc_moves_form (fun _ _ _ _ _ _ us hl => match us, hl with | [_], _ => rfl) (fun vs H Q E h => ?_) (fun f cdv A outer s H vs Q E hr h => ?_)
  · obtain ⟨a, ws, rfl, hs, hl, hw, q⟩ := h; rfl
  · obtain ⟨a, ws, rfl, hs, hl, hw, q⟩ := h
    refine ⟨_, (pss_cons (ps_if (pt_cmpR (op_neG hr.units) (pe_op op_mod (pe_callB (call_lenG) (by rfl) T.f_len (by decide +kernel) (pa_cons (pv 0) pa_nil)) pe_int) pe_int (nomark _))
        (pss_one (ps_ret pe_bl))
        pss_nil)
      (pss_one (ps_ret (pe_and (pe_callO G_all_numbers (hr.mono (by decide)) (by rfl) pass0 (pa_cons (pe_slStep (pv 0) po_none po_none (po_some pe_int)) pa_nil)) (pe_one (pe_callO G_all_names (hr.mono (by decide)) (by rfl) pass0 (pa_cons (pe_slStep (pv 0) (po_some pe_int) po_none (po_some pe_int)) pa_nil))))))), ?_⟩
    have fin : ∀ b H', movesForm ws = b → Same H H' → Q (.bl b) H' := fun b H' e s => e ▸ q H' s
    unfold movesForm at fin
    walk_at "rd"
    refine a_lenL hs ?_
    walk_at "rd"
    refine x_I (by show (0 : Int) < 2; decide) ?_
    walk_at "rd"
    rw [List.length_map]
    refine x_ite (fun h2 => ?_) (fun h2 => ?_)
    · walk_at "rd"
      refine fin _ _ ?_ (Same.refl _)
      have h3 : decide (ws.length % 2 = 0) = false := decide_eq_false fun h => by
        have h4 : ((ws.length : Int) % 2) = 0 := by omega
        rw [h4] at h2
        simp at h2
      rw [h3]; rfl
    have h3 : decide (ws.length % 2 = 0) = true := decide_eq_true (by
      have h4 : ((ws.length : Int) % 2) = 0 := by simpa using h2
      omega)
    rw [h3] at fin
    walk_at "rd"
    refine ⟨a, ws.map V.str, rfl, hs, by decide, fun p hp => ?_⟩
    rw [pick_even, evens_map]
    walk_at "rd"
    have s1 : Same H (upd H p (.lst ((evens ws).map V.str))) := same_new hp
    refine ⟨p, evens ws, rfl, SqL.of upd_same, Nat.le_trans (evens_len ws) hl, fun z hz => (hw z (evens_mem hz)).1, fun H2 s2 => ?_⟩
    walk_at "rd"
    refine x_ite (fun h4 => ?_) (fun h4 => fin _ _ (by rw [h4]; rfl) (s1.trans s2))
    walk_at "rd"
    refine ⟨a, ws.map V.str, rfl, (s1.trans s2).seq hs, by decide, fun p2 hp2 => ?_⟩
    rw [pick_odd, odds_map]
    walk_at "rd"
    refine ⟨p2, odds ws, rfl, SqL.of upd_same, Nat.le_trans (odds_len ws) hl, fun z hz => (hw z (odds_mem hz)).1, fun H3 s3 => ?_⟩
    exact fin _ _ (by rw [h4]; rfl) ((s1.trans s2).trans ((same_new hp2).trans s3))
end
end K97


set_option maxRecDepth 100000
set_option maxHeartbeats 4000000
namespace K97
open PySem PySem.Spec PyProof.Rows L2 TL NB
local macro_rules | `(tactic| walk_at "rd") => `(tactic| repeat (first
  | (with_reducible refine x_seq ?_) | (with_reducible refine x_asg ?_) | (with_reducible refine x_gName ?_) | (with_reducible refine x_ret ?_) | (with_reducible refine x_drop ?_) | (with_reducible refine x_ifS ?_)
  | (with_reducible refine x_op ?_) | (with_reducible refine x_c ?_) | ((with_reducible refine' x_var ?k1 ?_); (case k1 => with_unfolding_all rfl)) | (with_reducible refine x_cb ?_) | (with_reducible refine x_call0 ?_) | (with_reducible refine x_cons ?_) | (with_reducible refine x_nil ?_)
  | (with_reducible refine x_test ?_) | (with_reducible refine x_B ?_) | (with_reducible refine x_bl ?_) | (with_reducible refine x_and ?_) | (with_reducible refine x_or ?_) | (with_reducible refine x_not ?_)
  | (with_reducible refine x_andV ?_) | (with_reducible refine x_orV ?_) | (with_reducible refine x_notV ?_) | (with_reducible refine x_if ?_) | (with_reducible refine x_isN ?_) | (with_reducible refine x_notN ?_)
  | (with_reducible refine x_tup ?_) | (with_reducible refine x_lst ?_) | (with_reducible refine x_sl ?_) | (with_reducible refine x_noPart ?_) | (with_reducible refine x_part ?_) | (with_reducible refine x_int ?_)
  | (with_reducible refine x_bm ?_) | (with_reducible refine x_m1 ?_) | (with_reducible refine x_tyS ?_) | (with_reducible refine x_gNil ?_) | (with_reducible refine x_gCons ?_) | (with_reducible refine x_gSub ?_) | (with_reducible refine x_next ?_) | (with_reducible refine x_brk ?_)
  | (with_reducible refine x_slStep ?_) | (with_reducible refine x_lc ?_) | (with_reducible refine x_for ?_) | (with_reducible refine x_iL ?_) | (with_reducible refine x_iR1 ?_) | (with_reducible refine x_iR3 ?_) | (with_reducible refine x_iS ?_) | (with_reducible refine x_ref ?_) | (with_reducible refine x_yes ?_)
  | (with_reducible refine a_addI ?_) | (with_reducible refine x_I0 ?_) | (with_reducible refine a_eq rfl ?_) | (with_reducible refine a_ne rfl ?_) | (with_reducible refine a_inS ?_) | (with_reducible refine a_ninS ?_) | (with_reducible refine x_strS ?_) | (with_reducible refine x_intI ?_) | (with_reducible refine x_iB ?_) | (with_reducible refine x_iT ?_)))

section
variable {P : Program} {w : World} {K : PySem.W.Frag} {mg : Str → Option Value} {base : Heap}
/-! ### what may follow -/
def followL (b : Str) : Option (List Str) :=
  if b = "pause" then some ["seen"] else if b = "seen" then some ["cell", "seen", "gone"] else if b = "cell" then some ["cell", "seen", "gone"] else if b = "gone" then some ["called"]
  else if b = "called" then some ["moved"] else if b = "moved" then some ["sealed"] else if b = "sealed" then some ["told"] else none
def mayFollow (b z : Str) : Bool := match followL b with
  | some ks => decide (z ∈ ks)
  | none => if z = "new" then decide (b = "came") || decide (b = "new") else decide (z ∈ l_TOP_WORDS)
theorem valS_pos {x : Str} {v : V} {r : List (Str × V)} : valS ((x, v) :: r) x = some v := by
  unfold valS
  rw [List.find?_cons, decide_eq_true rfl]
  rfl
theorem valS_neg {x y : Str} {v : V} {r : List (Str × V)} (h : ¬ y = x) : valS ((x, v) :: r) y = valS r y := by
  unfold valS
  rw [List.find?_cons, decide_eq_false fun e => h e.symm]
theorem follow_cases (T : Tx w K mg) (b : Str) : (∃ ks a, valS (kv_FOLLOW K) b = some (.ref a) ∧ (∀ H, SqT K H a (ks.map V.str)) ∧ followL b = some ks) ∨ (valS (kv_FOLLOW K) b = none ∧ followL b = none) := by
  unfold kv_FOLLOW
  by_cases h1 : b = "pause"
  · subst h1
    exact .inl ⟨_, _, valS_pos, T.dic_FOLLOW_pause, by rfl⟩
  rw [valS_neg h1]
  by_cases h2 : b = "seen"
  · subst h2
    exact .inl ⟨_, _, valS_pos, T.dic_FOLLOW_seen, by unfold followL; rw [if_neg h1, if_pos rfl]⟩
  rw [valS_neg h2]
  by_cases h3 : b = "cell"
  · subst h3
    exact .inl ⟨_, _, valS_pos, T.dic_FOLLOW_cell, by unfold followL; rw [if_neg h1, if_neg h2, if_pos rfl]⟩
  rw [valS_neg h3]
  by_cases h4 : b = "gone"
  · subst h4
    exact .inl ⟨_, _, valS_pos, T.dic_FOLLOW_gone, by unfold followL; rw [if_neg h1, if_neg h2, if_neg h3, if_pos rfl]⟩
  rw [valS_neg h4]
  by_cases h5 : b = "called"
  · subst h5
    exact .inl ⟨_, _, valS_pos, T.dic_FOLLOW_called, by unfold followL; rw [if_neg h1, if_neg h2, if_neg h3, if_neg h4, if_pos rfl]⟩
  rw [valS_neg h5]
  by_cases h6 : b = "moved"
  · subst h6
    exact .inl ⟨_, _, valS_pos, T.dic_FOLLOW_moved, by unfold followL; rw [if_neg h1, if_neg h2, if_neg h3, if_neg h4, if_neg h5, if_pos rfl]⟩
  rw [valS_neg h6]
  by_cases h7 : b = "sealed"
  · subst h7
    exact .inl ⟨_, _, valS_pos, T.dic_FOLLOW_sealed, by unfold followL; rw [if_neg h1, if_neg h2, if_neg h3, if_neg h4, if_neg h5, if_neg h6, if_pos rfl]⟩
  rw [valS_neg h7]
  exact .inr ⟨rfl, by unfold followL; rw [if_neg h1, if_neg h2, if_neg h3, if_neg h4, if_neg h5, if_neg h6, if_neg h7]⟩
def sp_may_follow : Sp := fun vs H Q _ => ∃ b z : Str, vs = [.str b, .str z] ∧ Q (.bl (mayFollow b z)) H
theorem sc_may_follow : FnScope ["before", "word"] ["before", "word"] (defScope s_may_follow) := ⟨rfl, rfl, rfl, by decide +kernel, rfl, by decide +kernel, by decide +kernel⟩
theorem ok_may_follow (T : Tx w K mg) : OkF P w K mg base CX0 1 "may_follow" ["before", "word"] sp_may_follow := by
  refine Tx.def0 T 11 rfl T.g_may_follow sc_may_follow (fun _ _ _ _ _ _ us hl => match us, hl with | [_, _], _ => rfl) (fun vs H Q E h => ?_) (fun f cdv A outer s H vs Q E hr h => ?_)
  · obtain ⟨b, z, rfl, q⟩ := h; rfl
  · obtain ⟨b, z, rfl, q⟩ := h
    refine ⟨_, (pss_cons (ps_if (pt_cmpR (op_inK T.dic_FOLLOW) (pv 0) (pe_gref T.g_FOLLOW (by rfl)) (by rfl))
        (pss_one (ps_ret (pe_cmpR op_inG (pv 1) (pe_ix ix_kdict (pe_gref T.g_FOLLOW (by rfl)) (pv 0) (fun _ _ => rfl)) (by rfl))))
        pss_nil)
      (pss_cons (ps_if (pt_cmpR (op_eqG hr.units) (pv 1) pe_str (nomark _))
        (pss_one (ps_ret (pe_or (pe_cmpR (op_eqG hr.units) (pv 0) pe_str (nomark _)) (pe_one (pe_cmpR (op_eqG hr.units) (pv 0) pe_str (nomark _))))))
        pss_nil)
      (pss_one (ps_ret (pe_cmpR op_inG (pv 1) (pe_gref T.g_TOP_WORDS (by rfl)) (by rfl)))))), ?_⟩
    have fin : ∀ c, mayFollow b z = c → Q (.bl c) H := fun c e => e ▸ q
    unfold mayFollow at fin
    walk_at "rd"
    refine ⟨b, rfl, rfl, ?_⟩
    walk_at "rd"
    rcases follow_cases T b with ⟨ks, a, h1, h2, h3⟩ | ⟨h1, h3⟩
    · rw [h1]
      rw [h3] at fin
      refine iteT ?_
      walk_at "rd"
      refine ⟨_, b, .ref a, rfl, rfl, T.dic_FOLLOW.get h1, ?_⟩
      refine a_inT (h2 H) rfl (all_flat_strs _) ?_
      rw [inV_strs]
      exact fin _ rfl
    · rw [h1]
      rw [h3] at fin
      refine iteF ?_
      walk_at "rd"
      rw [dec_strV]
      have fin2 : ∀ c, (if z = "new" then decide (b = "came") || decide (b = "new") else decide (z ∈ l_TOP_WORDS)) = c → Q (.bl c) H := fin
      refine x_ite (fun g1 => ?_) (fun g1 => ?_)
      · rw [if_pos (of_decide_eq_true g1)] at fin2
        walk_at "rd"
        rw [dec_strV]
        refine x_ite (fun g2 => fin2 _ (by rw [g2]; rfl)) (fun g2 => ?_)
        walk_at "rd"
        rw [dec_strV]
        exact fin2 _ (by rw [g2]; rfl)
      · rw [if_neg (of_decide_eq_false g1)] at fin2
        walk_at "rd"
        refine a_inT (T.tup_TOP_WORDS H) rfl (all_flat_strs _) ?_
        rw [inV_strs]
        exact fin2 _ rfl
/-! ### the form of a line -/
def b01 (z : Str) : Bool := decide (z ∈ ([("0" : Str), "1"] : List Str))
def formMade : List Str → Bool
  | [a, b, c, d, e] => ([a, d].all numberWord && [b, c].all nameWord) && b01 e
  | _ => false
def formWent : List Str → Bool
  | [a, b] => numberWord a && nameWord b
  | _ => false
def formHeard : List Str → Bool
  | [a] => numberWord a
  | _ => false
def formSeen : List Str → Bool
  | a :: r => nameWord a && r.all numberWord
  | _ => false
def formNew : List Str → Bool
  | [a, b, c, d, e, f, g] => [a, b, c, d, e, f, g].all numberWord && b01 g
  | _ => false
def lineStands (z : Str) (r : List Str) : Bool :=
  if z = "made" then formMade r else if z = "went" then formWent r else if z = "heard" then formHeard r else if z = "pause" then decide (0 < r.length) && r.all nameWord
  else if z ∈ ([("seen" : Str), "gave", "came"] : List Str) then formSeen r else if z = "cell" then decide (r.length = 5) && r.all numberWord else if z = "new" then formNew r
  else if z = "gone" ∨ z = "called" then r.all numberWord else if z = "moved" then movesForm r else if z = "sealed" then r.all nameWord else decide (z = "told") && toldForm r
def sp_line_stands (K : PySem.W.Frag) : Sp := fun vs H Q _ => ∃ (a : Addr) (z : Str) (r : List Str), vs = [.ref a] ∧ SqL K H a ((z :: r).map V.str) ∧ r.length ≤ 90000 ∧ (∀ y ∈ z :: r, Wd y) ∧ ∀ H', Same H H' → Q (.bl (lineStands z r)) H'
theorem cut_tail (z : V) (r : List V) : cutV (z :: r) (some 1) none = r := by
  unfold cutV
  show ((z :: r).drop (HT.sIx (z :: r).length 0 (some ((1 : Nat) : Int)))).take (HT.sIx (z :: r).length (z :: r).length none - HT.sIx (z :: r).length 0 (some ((1 : Nat) : Int))) = r
  rw [HT.sIx_nat, HT.sIx_none]
  have : min 1 (z :: r).length = 1 := by simp
  rw [this]
  show r.take ((z :: r).length - 1) = r
  rw [List.length_cons, Nat.add_sub_cancel, List.take_length]
theorem dec_lenI {n k : Nat} : decide (V.int (n : Int) = V.int (k : Int)) = decide (n = k) := by
  by_cases h : n = k
  · subst h; simp
  · have : ¬ V.int (n : Int) = V.int (k : Int) := fun e => h (by have := V.int.inj e; omega)
    rw [decide_eq_false this, decide_eq_false h]
theorem sc_line_stands : FnScope ["words", "word", "rest", "right"] ["words"] (defScope s_line_stands) := ⟨rfl, rfl, rfl, by decide +kernel, rfl, by decide +kernel, by decide +kernel⟩
theorem ok_line_stands (T : Tx w K mg) : OkF P w K mg base CX0 5 "line_stands" ["words"] (sp_line_stands K) := by
  have G_all_names := ok_all_names (P := P) (base := base) T
  have G_all_numbers := ok_all_numbers (P := P) (base := base) T
  have G_name_word := ok_name_word (P := P) (base := base) T
  have G_number_word := ok_number_word (P := P) (base := base) T
  have G_moves_form := ok_moves_form (P := P) (base := base) T
  have G_told_form := ok_told_form (P := P) (base := base) T
  refine Tx.def0 T 10 rfl T.g_line_stands sc_line_stands (fun _ _ _ _ _ _ us hl => match us, hl with | [_], _ => rfl) (fun vs H Q E h => ?_) (fun f cdv A outer s H vs Q E hr h => ?_)
  · obtain ⟨a, z, r, rfl, hs, hl, hw, q⟩ := h; rfl
  · obtain ⟨a, z, r, rfl, hs, hl, hw, q⟩ := h
    refine ⟨_, (pss_cons (ps_set (i := 1) sc_line_stands.nd rfl (by first | exact Or.inl rfl | exact Or.inr rfl) (pe_ix ix_seq (pv 0) pe_int (fun _ _ => rfl)))
      (pss_cons (ps_set (i := 2) sc_line_stands.nd rfl (by first | exact Or.inl rfl | exact Or.inr rfl) (pe_slice sl_G (pv 0) (po_some pe_int) po_none))
      (pss_cons (ps_if (pt_cmpR (op_eqG hr.units) (pv 1) pe_str (nomark _))
        (pss_cons (ps_set (i := 3) sc_line_stands.nd rfl (by first | exact Or.inl rfl | exact Or.inr rfl) (pe_and (pe_cmpR (op_eqG hr.units) (pe_callB (call_lenG) (by rfl) T.f_len (by decide +kernel) (pa_cons (pv 2) pa_nil)) pe_int (nomark _)) (pe_and (pe_callO G_all_numbers (hr.mono (by decide)) (by rfl) pass0 (pa_cons (pe_lst (pa_cons (pe_ix ix_seq (pv 2) pe_int (fun _ _ => rfl)) (pa_cons (pe_ix ix_seq (pv 2) pe_int (fun _ _ => rfl)) pa_nil))) pa_nil)) (pe_one (pe_callO G_all_names (hr.mono (by decide)) (by rfl) pass0 (pa_cons (pe_slice sl_G (pv 2) (po_some pe_int) (po_some pe_int)) pa_nil))))))
        (pss_one (ps_ret (pe_and (pv 3) (pe_one (pe_cmpR op_inG (pe_ix ix_seq (pv 2) pe_int (fun _ _ => rfl)) (pe_tup (pa_cons pe_str (pa_cons pe_str pa_nil))) (by rfl)))))))
        pss_nil)
      (pss_cons (ps_if (pt_cmpR (op_eqG hr.units) (pv 1) pe_str (nomark _))
        (pss_one (ps_ret (pe_and (pe_cmpR (op_eqG hr.units) (pe_callB (call_lenG) (by rfl) T.f_len (by decide +kernel) (pa_cons (pv 2) pa_nil)) pe_int (nomark _)) (pe_and (pe_callO G_number_word (hr.mono (by decide)) (by rfl) pass0 (pa_cons (pe_ix ix_seq (pv 2) pe_int (fun _ _ => rfl)) pa_nil)) (pe_one (pe_callO G_name_word (hr.mono (by decide)) (by rfl) pass0 (pa_cons (pe_ix ix_seq (pv 2) pe_int (fun _ _ => rfl)) pa_nil)))))))
        pss_nil)
      (pss_cons (ps_if (pt_cmpR (op_eqG hr.units) (pv 1) pe_str (nomark _))
        (pss_one (ps_ret (pe_and (pe_cmpR (op_eqG hr.units) (pe_callB (call_lenG) (by rfl) T.f_len (by decide +kernel) (pa_cons (pv 2) pa_nil)) pe_int (nomark _)) (pe_one (pe_callO G_number_word (hr.mono (by decide)) (by rfl) pass0 (pa_cons (pe_ix ix_seq (pv 2) pe_int (fun _ _ => rfl)) pa_nil))))))
        pss_nil)
      (pss_cons (ps_if (pt_cmpR (op_eqG hr.units) (pv 1) pe_str (nomark _))
        (pss_one (ps_ret (pe_and (pe_cmpR op_gt (pe_callB (call_lenG) (by rfl) T.f_len (by decide +kernel) (pa_cons (pv 2) pa_nil)) pe_int (nomark _)) (pe_one (pe_callO G_all_names (hr.mono (by decide)) (by rfl) pass0 (pa_cons (pv 2) pa_nil))))))
        pss_nil)
      (pss_cons (ps_if (pt_cmpR op_inG (pv 1) (pe_tup (pa_cons pe_str (pa_cons pe_str (pa_cons pe_str pa_nil)))) (by rfl))
        (pss_one (ps_ret (pe_and (pe_cmpR op_gt (pe_callB (call_lenG) (by rfl) T.f_len (by decide +kernel) (pa_cons (pv 2) pa_nil)) pe_int (nomark _)) (pe_and (pe_callO G_name_word (hr.mono (by decide)) (by rfl) pass0 (pa_cons (pe_ix ix_seq (pv 2) pe_int (fun _ _ => rfl)) pa_nil)) (pe_one (pe_callO G_all_numbers (hr.mono (by decide)) (by rfl) pass0 (pa_cons (pe_slice sl_G (pv 2) (po_some pe_int) po_none) pa_nil)))))))
        pss_nil)
      (pss_cons (ps_if (pt_cmpR (op_eqG hr.units) (pv 1) pe_str (nomark _))
        (pss_one (ps_ret (pe_and (pe_cmpR (op_eqG hr.units) (pe_callB (call_lenG) (by rfl) T.f_len (by decide +kernel) (pa_cons (pv 2) pa_nil)) pe_int (nomark _)) (pe_one (pe_callO G_all_numbers (hr.mono (by decide)) (by rfl) pass0 (pa_cons (pv 2) pa_nil))))))
        pss_nil)
      (pss_cons (ps_if (pt_cmpR (op_eqG hr.units) (pv 1) pe_str (nomark _))
        (pss_one (ps_ret (pe_and (pe_cmpR (op_eqG hr.units) (pe_callB (call_lenG) (by rfl) T.f_len (by decide +kernel) (pa_cons (pv 2) pa_nil)) pe_int (nomark _)) (pe_and (pe_callO G_all_numbers (hr.mono (by decide)) (by rfl) pass0 (pa_cons (pv 2) pa_nil)) (pe_one (pe_cmpR op_inG (pe_ix ix_seq (pv 2) pe_int (fun _ _ => rfl)) (pe_tup (pa_cons pe_str (pa_cons pe_str pa_nil))) (by rfl)))))))
        pss_nil)
      (pss_cons (ps_if (PW.pt (pw_or (pt_cmpR (op_eqG hr.units) (pv 1) pe_str (nomark _)) (pw_or1 (pt_cmpR (op_eqG hr.units) (pv 1) pe_str (nomark _)))))
        (pss_one (ps_ret (pe_callO G_all_numbers (hr.mono (by decide)) (by rfl) pass0 (pa_cons (pv 2) pa_nil))))
        pss_nil)
      (pss_cons (ps_if (pt_cmpR (op_eqG hr.units) (pv 1) pe_str (nomark _))
        (pss_one (ps_ret (pe_callO G_moves_form (hr.mono (by decide)) (by rfl) pass0 (pa_cons (pv 2) pa_nil))))
        pss_nil)
      (pss_cons (ps_if (pt_cmpR (op_eqG hr.units) (pv 1) pe_str (nomark _))
        (pss_one (ps_ret (pe_callO G_all_names (hr.mono (by decide)) (by rfl) pass0 (pa_cons (pv 2) pa_nil))))
        pss_nil)
      (pss_one (ps_ret (pe_and (pe_cmpR (op_eqG hr.units) (pv 1) pe_str (nomark _)) (pe_one (pe_callO G_told_form (hr.mono (by decide)) (by rfl) pass0 (pa_cons (pv 2) pa_nil)))))))))))))))))), ?_⟩
    have fin : ∀ b H', lineStands z r = b → Same H H' → Q (.bl b) H' := fun b H' e s => e ▸ q H' s
    have hr' : ∀ y ∈ r, Wd y := fun y hy => hw y (List.mem_cons_of_mem _ hy)
    unfold lineStands at fin
    walk_at "rd"
    refine a_ixL hs (ixS (i := 0) rfl) ?_
    walk_at "rd"
    refine a_slL hs fun p hp => ?_
    rw [List.map_cons, cut_tail]
    have s1 : Same H (upd H p (.lst (r.map V.str))) := same_new hp
    have hR : ∀ {H'}, Same (upd H p (.lst (r.map V.str))) H' → SqL K H' p (r.map V.str) := fun {H'} s => s.seq (SqL.of upd_same)
    generalize upd H p (.lst (r.map V.str)) = H1 at s1 hR ⊢
    have hR1 := hR (Same.refl _)
    walk_at "rd"
    rw [dec_strV]
    refine x_ite (fun g => ?_) (fun g => ?_)
    · rw [if_pos (of_decide_eq_true g)] at fin
      walk_at "rd"
      refine a_lenL hR1 ?_
      walk_at "rd"
      rw [List.length_map, show V.int 5 = V.int ((5 : Nat) : Int) from rfl, dec_lenI]
      refine x_ite (fun g2 => ?_) (fun g2 => ?_)
      · obtain ⟨w0, w1, w2, w3, w4, e⟩ : ∃ w0 w1 w2 w3 w4, r = [w0, w1, w2, w3, w4] := by
          have := of_decide_eq_true g2
          match r, this with
          | [a, b, c, d, e], _ => exact ⟨a, b, c, d, e, rfl⟩
        subst e
        walk_at "rd"
        refine a_ixL hR1 (ixS (i := 0) rfl) ?_
        walk_at "rd"
        refine a_ixL hR1 (ixS (i := 3) rfl) ?_
        walk_at "rd"
        refine ⟨sz_lit (n := 2), fun p2 hp2 => ?_⟩
        have s2 : Same H1 (upd H1 p2 (.lst [.str w0, .str w3])) := same_new hp2
        walk_at "rd"
        refine ⟨p2, [w0, w3], rfl, SqL.of upd_same, (by show 2 ≤ 100000; decide), ?_, fun H3 s3 => ?_⟩
        · intro y hy
          have : y ∈ [w0, w1, w2, w3, w4] := by
            simp only [List.mem_cons, List.not_mem_nil, or_false] at hy ⊢
            rcases hy with h | h <;> simp [h]
          exact (hr' y this).1
        have s3' := s2.trans s3
        walk_at "rd"
        refine x_ite (fun g3 => ?_) (fun g3 => ?_)
        · walk_at "rd"
          refine a_slL (hR s3') fun p3 hp3 => ?_
          have e3 : cutV ([w0, w1, w2, w3, w4].map V.str) (some 1) (some 3) = ([w1, w2].map V.str) := rfl
          rw [e3]
          have s4 : Same H3 (upd H3 p3 (.lst ([w1, w2].map V.str))) := same_new hp3
          walk_at "rd"
          refine ⟨p3, [w1, w2], rfl, SqL.of upd_same, (by show 2 ≤ 100000; decide), ?_, fun H4 s5 => ?_⟩
          · intro y hy
            have : y ∈ [w0, w1, w2, w3, w4] := by
              simp only [List.mem_cons, List.not_mem_nil, or_false] at hy ⊢
              rcases hy with h | h <;> simp [h]
            exact (hr' y this).1
          have s5' := s3'.trans (s4.trans s5)
          walk_at "rd"
          refine x_ite (fun g4 => ?_) (fun g4 => ?_)
          · walk_at "rd"
            refine a_ixL (hR s5') (ixS (i := 4) rfl) ?_
            walk_at "rd"
            refine ⟨sz_lit (n := 2), fun p4 hp4 => ?_⟩
            refine a_inT (SqT.of upd_same) rfl (by rfl) ?_
            rw [show ([V.str "0", V.str "1"] : List V) = ([("0" : Str), "1"] : List Str).map V.str from rfl, inV_strs]
            refine fin _ _ ?_ (s1.trans (s5'.trans (same_new hp4)))
            show (([w0, w3].all numberWord && [w1, w2].all nameWord) && b01 w4) = _
            rw [g3, g4]; rfl
          · refine fin _ _ ?_ (s1.trans s5')
            show (([w0, w3].all numberWord && [w1, w2].all nameWord) && b01 w4) = _
            rw [g3, g4]; rfl
        · walk_at "rd"
          refine iteF ?_
          refine fin _ _ ?_ (s1.trans s3')
          show (([w0, w3].all numberWord && [w1, w2].all nameWord) && b01 w4) = _
          rw [g3]; rfl
      · walk_at "rd"
        refine iteF ?_
        refine fin _ _ ?_ s1
        have h5 := of_decide_eq_false g2
        unfold formMade
        split
        · exact absurd rfl h5
        · rfl
    rw [if_neg (of_decide_eq_false g)] at fin
    clear g
    -- went
    walk_at "rd"
    rw [dec_strV]
    refine x_ite (fun g => ?_) (fun g => ?_)
    · rw [if_pos (of_decide_eq_true g)] at fin
      walk_at "rd"
      refine a_lenL hR1 ?_
      walk_at "rd"
      rw [List.length_map, show V.int 2 = V.int ((2 : Nat) : Int) from rfl, dec_lenI]
      refine x_ite (fun g2 => ?_) (fun g2 => ?_)
      · obtain ⟨w0, w1, e⟩ : ∃ w0 w1, r = [w0, w1] := by
          have := of_decide_eq_true g2
          match r, this with
          | [a, b], _ => exact ⟨a, b, rfl⟩
        subst e
        walk_at "rd"
        refine a_ixL hR1 (ixS (i := 0) rfl) ?_
        walk_at "rd"
        refine ⟨w0, rfl, (hr' w0 (by simp)).1, ?_⟩
        walk_at "rd"
        refine x_ite (fun g3 => ?_) (fun g3 => ?_)
        · walk_at "rd"
          refine a_ixL hR1 (ixS (i := 1) rfl) ?_
          walk_at "rd"
          refine ⟨w1, rfl, (hr' w1 (by simp)).1, ?_⟩
          exact fin _ _ (by show (numberWord w0 && nameWord w1) = _; rw [g3]; rfl) s1
        · exact fin _ _ (by show (numberWord w0 && nameWord w1) = _; rw [g3]; rfl) s1
      · refine fin _ _ ?_ s1
        have h5 := of_decide_eq_false g2
        unfold formWent
        split
        · exact absurd rfl h5
        · rfl
    rw [if_neg (of_decide_eq_false g)] at fin
    clear g
    -- heard
    walk_at "rd"
    rw [dec_strV]
    refine x_ite (fun g => ?_) (fun g => ?_)
    · rw [if_pos (of_decide_eq_true g)] at fin
      walk_at "rd"
      refine a_lenL hR1 ?_
      walk_at "rd"
      rw [List.length_map, show V.int 1 = V.int ((1 : Nat) : Int) from rfl, dec_lenI]
      refine x_ite (fun g2 => ?_) (fun g2 => ?_)
      · obtain ⟨w0, e⟩ : ∃ w0, r = [w0] := by
          have := of_decide_eq_true g2
          match r, this with
          | [a], _ => exact ⟨a, rfl⟩
        subst e
        walk_at "rd"
        refine a_ixL hR1 (ixS (i := 0) rfl) ?_
        walk_at "rd"
        refine ⟨w0, rfl, (hr' w0 (by simp)).1, ?_⟩
        exact fin _ _ rfl s1
      · refine fin _ _ ?_ s1
        have h5 := of_decide_eq_false g2
        unfold formHeard
        split
        · exact absurd rfl h5
        · rfl
    rw [if_neg (of_decide_eq_false g)] at fin
    clear g
    have hrl : ∀ y ∈ r, y.length ≤ 1000000 := fun y hy => (hr' y hy).1
    have hl' : r.length ≤ 100000 := by omega
    -- pause
    walk_at "rd"
    rw [dec_strV]
    refine x_ite (fun g => ?_) (fun g => ?_)
    · rw [if_pos (of_decide_eq_true g)] at fin
      walk_at "rd"
      refine a_lenL hR1 ?_
      walk_at "rd"
      rw [List.length_map, show decide ((0 : Int) < (r.length : Int)) = decide (0 < r.length) from dec_len (k := 0)]
      refine x_ite (fun g2 => ?_) (fun g2 => ?_)
      · walk_at "rd"
        exact ⟨p, r, rfl, hR1, hl', hrl, fun H2 s2 => fin _ _ (by rw [g2]; rfl) (s1.trans s2)⟩
      · exact fin _ _ (by rw [g2]; rfl) s1
    rw [if_neg (of_decide_eq_false g)] at fin
    clear g
    -- seen, gave, came
    walk_at "rd"
    refine ⟨sz_lit (n := 3), fun p2 hp2 => ?_⟩
    have s2 : Same H1 (upd H1 p2 (.tup [.str "seen", .str "gave", .str "came"])) := same_new hp2
    refine a_inT (SqT.of upd_same) rfl (by rfl) ?_
    have s1' := s1.trans s2
    have hR2 := hR s2
    generalize upd H1 p2 (.tup [.str "seen", .str "gave", .str "came"]) = H2 at s2 s1' hR2 ⊢
    rw [show ([V.str "seen", V.str "gave", V.str "came"] : List V) = ([("seen" : Str), "gave", "came"] : List Str).map V.str from rfl, inV_strs]
    have hR' : ∀ {H'}, Same H2 H' → SqL K H' p (r.map V.str) := fun {H'} s => s.seq hR2
    walk_at "rd"
    refine x_ite (fun g => ?_) (fun g => ?_)
    · rw [if_pos (of_decide_eq_true g)] at fin
      walk_at "rd"
      refine a_lenL hR2 ?_
      walk_at "rd"
      rw [List.length_map, show decide ((0 : Int) < (r.length : Int)) = decide (0 < r.length) from dec_len (k := 0)]
      refine x_ite (fun g2 => ?_) (fun g2 => ?_)
      · obtain ⟨w0, r', e⟩ : ∃ w0 r', r = w0 :: r' := by
          have := of_decide_eq_true g2
          match r, this with
          | a :: b, _ => exact ⟨a, b, rfl⟩
        subst e
        walk_at "rd"
        refine a_ixL hR2 (ixS (i := 0) rfl) ?_
        walk_at "rd"
        refine ⟨w0, rfl, hrl w0 (by simp), ?_⟩
        walk_at "rd"
        refine x_ite (fun g3 => ?_) (fun g3 => fin _ _ (by show (nameWord w0 && r'.all numberWord) = _; rw [g3]; rfl) s1')
        walk_at "rd"
        refine a_slL hR2 fun p3 hp3 => ?_
        rw [List.map_cons, cut_tail]
        walk_at "rd"
        refine ⟨p3, r', rfl, SqL.of upd_same, ?_, fun y hy => hrl y (List.mem_cons_of_mem _ hy), fun H3 s3 => ?_⟩
        · rw [List.length_cons] at hl'; omega
        · exact fin _ _ (by show (nameWord w0 && r'.all numberWord) = _; rw [g3]; rfl) (s1'.trans ((same_new hp3).trans s3))
      · refine fin _ _ ?_ s1'
        have h5 := of_decide_eq_false g2
        cases r with
        | nil => rfl
        | cons a b => exact absurd (by simp) h5
    rw [if_neg (of_decide_eq_false g)] at fin
    clear g
    -- cell
    walk_at "rd"
    rw [dec_strV]
    refine x_ite (fun g => ?_) (fun g => ?_)
    · rw [if_pos (of_decide_eq_true g)] at fin
      walk_at "rd"
      refine a_lenL hR2 ?_
      walk_at "rd"
      rw [List.length_map, show V.int 5 = V.int ((5 : Nat) : Int) from rfl, dec_lenI]
      refine x_ite (fun g2 => ?_) (fun g2 => fin _ _ (by rw [g2]; rfl) s1')
      walk_at "rd"
      exact ⟨p, r, rfl, hR2, hl', hrl, fun H3 s3 => fin _ _ (by rw [g2]; rfl) (s1'.trans s3)⟩
    rw [if_neg (of_decide_eq_false g)] at fin
    clear g
    -- new
    walk_at "rd"
    rw [dec_strV]
    refine x_ite (fun g => ?_) (fun g => ?_)
    · rw [if_pos (of_decide_eq_true g)] at fin
      walk_at "rd"
      refine a_lenL hR2 ?_
      walk_at "rd"
      rw [List.length_map, show V.int 7 = V.int ((7 : Nat) : Int) from rfl, dec_lenI]
      refine x_ite (fun g2 => ?_) (fun g2 => ?_)
      · obtain ⟨w0, w1, w2, w3, w4, w5, w6, e⟩ : ∃ w0 w1 w2 w3 w4 w5 w6, r = [w0, w1, w2, w3, w4, w5, w6] := by
          have := of_decide_eq_true g2
          match r, this with
          | [a, b, c, d, e, f, g], _ => exact ⟨a, b, c, d, e, f, g, rfl⟩
        subst e
        walk_at "rd"
        refine ⟨p, _, rfl, hR2, hl', hrl, fun H3 s3 => ?_⟩
        walk_at "rd"
        refine x_ite (fun g3 => ?_) (fun g3 => ?_)
        · walk_at "rd"
          refine a_ixL (hR' s3) (ixS (i := 6) rfl) ?_
          walk_at "rd"
          refine ⟨sz_lit (n := 2), fun p4 hp4 => ?_⟩
          refine a_inT (SqT.of upd_same) rfl (by rfl) ?_
          rw [show ([V.str "0", V.str "1"] : List V) = ([("0" : Str), "1"] : List Str).map V.str from rfl, inV_strs]
          refine fin _ _ ?_ (s1'.trans (s3.trans (same_new hp4)))
          show ([w0, w1, w2, w3, w4, w5, w6].all numberWord && b01 w6) = _
          rw [g3]; rfl
        · refine fin _ _ ?_ (s1'.trans s3)
          show ([w0, w1, w2, w3, w4, w5, w6].all numberWord && b01 w6) = _
          rw [g3]; rfl
      · refine fin _ _ ?_ s1'
        have h5 := of_decide_eq_false g2
        unfold formNew
        split
        · exact absurd rfl h5
        · rfl
    rw [if_neg (of_decide_eq_false g)] at fin
    clear g
    -- gone, called
    walk_at "rd"
    rw [dec_strV]
    refine x_ite (fun g => ?_) (fun g => ?_)
    · rw [if_pos (.inl (of_decide_eq_true g))] at fin
      refine iteT ?_
      walk_at "rd"
      exact ⟨p, r, rfl, hR2, hl', hrl, fun H3 s3 => fin _ _ rfl (s1'.trans s3)⟩
    walk_at "rd"
    rw [dec_strV]
    refine x_ite (fun g' => ?_) (fun g' => ?_)
    · rw [if_pos (.inr (of_decide_eq_true g'))] at fin
      walk_at "rd"
      exact ⟨p, r, rfl, hR2, hl', hrl, fun H3 s3 => fin _ _ rfl (s1'.trans s3)⟩
    rw [if_neg (fun h => h.elim (of_decide_eq_false g) (of_decide_eq_false g'))] at fin
    clear g g'
    -- moved
    walk_at "rd"
    rw [dec_strV]
    refine x_ite (fun g => ?_) (fun g => ?_)
    · rw [if_pos (of_decide_eq_true g)] at fin
      walk_at "rd"
      exact ⟨p, r, rfl, hR2, hl', hr', fun H3 s3 => fin _ _ rfl (s1'.trans s3)⟩
    rw [if_neg (of_decide_eq_false g)] at fin
    clear g
    -- sealed
    walk_at "rd"
    rw [dec_strV]
    refine x_ite (fun g => ?_) (fun g => ?_)
    · rw [if_pos (of_decide_eq_true g)] at fin
      walk_at "rd"
      exact ⟨p, r, rfl, hR2, hl', hrl, fun H3 s3 => fin _ _ rfl (s1'.trans s3)⟩
    rw [if_neg (of_decide_eq_false g)] at fin
    clear g
    -- told
    walk_at "rd"
    rw [dec_strV]
    refine x_ite (fun g => ?_) (fun g => fin _ _ (by rw [g]; rfl) s1')
    rw [g] at fin
    walk_at "rd"
    exact ⟨p, r, rfl, hR2, hl', hr', fun H3 s3 => fin _ _ rfl (s1'.trans s3)⟩
end
end K97


set_option maxRecDepth 100000
set_option maxHeartbeats 4000000
namespace K97
open PySem PySem.Spec PyProof.Rows L2 TL NB
local macro_rules | `(tactic| walk_at "rd") => `(tactic| repeat (first
  | (with_reducible refine x_seq ?_) | (with_reducible refine x_asg ?_) | (with_reducible refine x_gName ?_) | (with_reducible refine x_ret ?_) | (with_reducible refine x_drop ?_) | (with_reducible refine x_ifS ?_)
  | (with_reducible refine x_op ?_) | (with_reducible refine x_c ?_) | ((with_reducible refine' x_var ?k1 ?_); (case k1 => with_unfolding_all rfl)) | (with_reducible refine x_cb ?_) | (with_reducible refine x_call0 ?_) | (with_reducible refine x_cons ?_) | (with_reducible refine x_nil ?_)
  | (with_reducible refine x_test ?_) | (with_reducible refine x_B ?_) | (with_reducible refine x_bl ?_) | (with_reducible refine x_and ?_) | (with_reducible refine x_or ?_) | (with_reducible refine x_not ?_)
  | (with_reducible refine x_andV ?_) | (with_reducible refine x_orV ?_) | (with_reducible refine x_notV ?_) | (with_reducible refine x_if ?_) | (with_reducible refine x_isN ?_) | (with_reducible refine x_notN ?_)
  | (with_reducible refine x_tup ?_) | (with_reducible refine x_lst ?_) | (with_reducible refine x_sl ?_) | (with_reducible refine x_noPart ?_) | (with_reducible refine x_part ?_) | (with_reducible refine x_int ?_)
  | (with_reducible refine x_bm ?_) | (with_reducible refine x_m1 ?_) | (with_reducible refine x_tyS ?_) | (with_reducible refine x_gNil ?_) | (with_reducible refine x_gCons ?_) | (with_reducible refine x_gSub ?_) | (with_reducible refine x_next ?_) | (with_reducible refine x_brk ?_)
  | (with_reducible refine x_slStep ?_) | (with_reducible refine x_lc ?_) | (with_reducible refine x_for ?_) | (with_reducible refine x_iL ?_) | (with_reducible refine x_iR1 ?_) | (with_reducible refine x_iR3 ?_) | (with_reducible refine x_iS ?_) | (with_reducible refine x_ref ?_) | (with_reducible refine x_yes ?_)
  | (with_reducible refine a_addI ?_) | (with_reducible refine x_I0 ?_) | (with_reducible refine a_eq rfl ?_) | (with_reducible refine a_ne rfl ?_) | (with_reducible refine a_inS ?_) | (with_reducible refine a_ninS ?_) | (with_reducible refine x_strS ?_) | (with_reducible refine x_intI ?_) | (with_reducible refine x_iB ?_) | (with_reducible refine x_iT ?_)))

section
variable {P : Program} {w : World} {K : PySem.W.Frag} {mg : Str → Option Value} {base : Heap}
/-! ### numbers as texts, lines of words -/
def numS (n : Nat) : Str := Str.ofString (toString (n : Int))
theorem numS_tl (n : Nat) : tl (numS n) = numL n := tl_num n
theorem numS_len {n : Nat} (h : n < 1000000000) : (numS n).length ≤ 9 := by
  rw [len_tl, numS_tl]
  exact numL_len (by decide) (by simpa using h)
def thS : V → Str
  | .int n => toString n
  | .str z => z
  | _ => ""
def lineS (ws : List Str) : Str := Txt.join " " ws
/-- what a line may name -/
inductive Th : V → Prop
  | int (n : Nat) : n < 1000000000 → Th (.int (n : Int))
  | str (z : Str) : z.length ≤ 100 → Th (.str z)
theorem Th.len {v : V} (h : Th v) : (thS v).length ≤ 100 := by
  cases h with
  | int n h => exact Nat.le_trans (numS_len h) (by decide)
  | str z h => exact h
theorem sum_le {α : Type} {f : α → Nat} {b : Nat} : ∀ {l : List α}, (∀ x ∈ l, f x ≤ b) → (l.map f).sum ≤ l.length * b
  | [], _ => Nat.zero_le _
  | x :: l, h => by
    have h1 := h x List.mem_cons_self
    have h2 := sum_le (l := l) fun y hy => h y (List.mem_cons_of_mem _ hy)
    rw [List.map_cons, List.sum_cons, List.length_cons, Nat.succ_mul]
    omega
theorem join_len (y : Str) (ws : List Str) : (Txt.join y ws).length ≤ (ws.map (·.length)).sum + ws.length * y.length := by
  rw [join_eq]
  exact StrLaws.join_length_le y ws
def sp_line_of (K : PySem.W.Frag) : Sp := fun vs H Q _ => ∃ (z : Str) (a : Addr) (xs : List V), vs = [.str z, .ref a] ∧ (SqL K H a xs ∨ SqT K H a xs) ∧ z.length ≤ 100 ∧ xs.length ≤ 1000 ∧ (∀ x ∈ xs, Th x) ∧
  ∀ H', Same H H' → Q (.str (lineS (z :: xs.map thS) ++ "\n")) H'
theorem log_ok {n : Nat} (h : n < 1000000000) : (n : Int).natAbs.log2 < 1920 := by
  rw [show (n : Int).natAbs = n from rfl]
  by_cases h0 : n = 0
  · subst h0; decide
  · exact Nat.lt_of_lt_of_le ((Nat.log2_lt h0).mpr (show n < 2 ^ 30 by omega)) (by decide)
theorem lineS_len {ws : List Str} {b : Nat} (h : ∀ z ∈ ws, z.length ≤ b) : (lineS ws).length ≤ ws.length * b + ws.length := by
  have h1 := join_len " " ws
  have h2 : (ws.map (fun x : Str => x.length)).sum ≤ ws.length * b := sum_le h
  rw [show (" " : Str).length = 1 from rfl] at h1
  show (Txt.join " " ws).length ≤ _
  omega
theorem sc_line_of : FnScope ["word", "things", "thing"] ["word", "things"] (defScope s_line_of) := ⟨rfl, rfl, rfl, by decide +kernel, rfl, by decide +kernel, by decide +kernel⟩
theorem ok_line_of (T : Tx w K mg) : OkF P w K mg base CX0 1 "line_of" ["word", "things"] (sp_line_of K) := by
  refine Tx.def0 T 3 rfl T.g_line_of sc_line_of (fun _ _ _ _ _ _ us hl => match us, hl with | [_, _], _ => rfl) (fun vs H Q E h => ?_) (fun f cdv A outer s H vs Q E hr h => ?_)
  · obtain ⟨z, a, xs, rfl, hs, hz, hl, ht, q⟩ := h; rfl
  · obtain ⟨z, a, xs, rfl, hs, hz, hl, ht, q⟩ := h
    refine ⟨_, (pss_one (ps_ret (pe_op op_addG (pe_join pe_str (pe_op op_addG (pe_lst (pa_cons (pv 0) pa_nil)) (pe_lc (own := [("thing", 2)]) rfl sc_line_of.nd (pi_both (pv 1)) (blkOk_by (own := [("thing", 2)]) (N := ["word", "things", "thing"]) (sc := (defScope s_line_of)) (by decide +kernel)) (fun _ _ _ _ _ => (pg_name (i := 2) sc_line_of.nd rfl (by first | exact Or.inl rfl | exact Or.inr rfl))) (fun _ _ _ _ _ => pts_nil) (fun _ _ _ _ _ => (pe_callTy call_strG (by rfl) T.f_str (by decide +kernel) (pa_cons (pv 2) pa_nil)))))) pe_str))), ?_⟩
    walk_at "rd"
    refine ⟨sz_lit (n := 1), fun p hp => ?_⟩
    walk_at "rd"
    have s1 : Same H (upd H p (.lst [.str z])) := same_new hp
    have hp1 : (upd H p (.lst [.str z])) p = some (.lst [.str z]) := upd_same
    generalize upd H p (.lst [.str z]) = H1 at s1 hp1 ⊢
    have hs1 : SqL K H1 a xs ∨ SqT K H1 a xs := hs.imp s1.seq (Same.sqT s1)
    refine lcPB hs1 (fun v => .str (thS v)) (by omega) (fun x H2 QQ hx sm qq => ?_) (fun p2 H' hp2 sm hp' => ?_)
    · walk_at "rd"
      refine ⟨rfl, ?_⟩
      walk_at "rd"
      cases ht x hx with
      | int n hn => exact x_strI (log_ok hn) (qq _ (Same.refl _))
      | str y hy => exact x_strS (qq _ (Same.refl _))
    · refine a_addL (sm _ _ hp1) hp' (sz_le (by rw [List.length_map]; show 1 + _ ≤ _; omega)) fun p3 hp3 => ?_
      have e : ([V.str z] ++ xs.map fun v => V.str (thS v)) = (z :: xs.map thS).map V.str := by
        rw [List.map_cons, List.map_map]
        rfl
      rw [e]
      have hb : ∀ y ∈ z :: xs.map thS, y.length ≤ 100 := fun y hy => by
        rcases List.mem_cons.mp hy with rfl | hy
        · exact hz
        · obtain ⟨x, hx, rfl⟩ := List.mem_map.mp hy
          exact (ht x hx).len
      have hsum : ((z :: xs.map thS).map (fun x : Str => x.length)).sum ≤ (z :: xs.map thS).length * 100 := sum_le hb
      have hlen := lineS_len hb
      rw [List.length_cons, List.length_map] at hsum hlen
      refine ⟨" ", p3, _, rfl, rfl, .inl (SqL.of upd_same), ?_, ?_⟩
      · rw [List.length_cons, List.length_map, show (" " : Str).length = 1 from rfl]
        omega
      walk_at "rd"
      refine a_addS (sz_le ?_) ?_
      · rw [show ("\n" : Str).length = 1 from rfl]
        show (lineS (z :: xs.map thS)).length + 1 ≤ _
        omega
      exact q _ (s1.trans (sm.trans (same_new hp3)))
end
end K97


set_option maxRecDepth 100000
set_option maxHeartbeats 4000000
namespace K97
open PySem PySem.Spec PyProof.Rows L2 TL NB
local macro_rules | `(tactic| walk_at "rd") => `(tactic| repeat (first
  | (with_reducible refine x_seq ?_) | (with_reducible refine x_asg ?_) | (with_reducible refine x_gName ?_) | (with_reducible refine x_ret ?_) | (with_reducible refine x_drop ?_) | (with_reducible refine x_ifS ?_)
  | (with_reducible refine x_op ?_) | (with_reducible refine x_c ?_) | ((with_reducible refine' x_var ?k1 ?_); (case k1 => with_unfolding_all rfl)) | (with_reducible refine x_cb ?_) | (with_reducible refine x_call0 ?_) | (with_reducible refine x_cons ?_) | (with_reducible refine x_nil ?_)
  | (with_reducible refine x_test ?_) | (with_reducible refine x_B ?_) | (with_reducible refine x_bl ?_) | (with_reducible refine x_and ?_) | (with_reducible refine x_or ?_) | (with_reducible refine x_not ?_)
  | (with_reducible refine x_andV ?_) | (with_reducible refine x_orV ?_) | (with_reducible refine x_notV ?_) | (with_reducible refine x_if ?_) | (with_reducible refine x_isN ?_) | (with_reducible refine x_notN ?_)
  | (with_reducible refine x_tup ?_) | (with_reducible refine x_lst ?_) | (with_reducible refine x_sl ?_) | (with_reducible refine x_noPart ?_) | (with_reducible refine x_part ?_) | (with_reducible refine x_int ?_)
  | (with_reducible refine x_bm ?_) | (with_reducible refine x_m1 ?_) | (with_reducible refine x_tyS ?_) | (with_reducible refine x_gNil ?_) | (with_reducible refine x_gCons ?_) | (with_reducible refine x_gSub ?_) | (with_reducible refine x_next ?_) | (with_reducible refine x_brk ?_)
  | (with_reducible refine x_slStep ?_) | (with_reducible refine x_lc ?_) | (with_reducible refine x_for ?_) | (with_reducible refine x_iL ?_) | (with_reducible refine x_iR1 ?_) | (with_reducible refine x_iR3 ?_) | (with_reducible refine x_iS ?_) | (with_reducible refine x_ref ?_) | (with_reducible refine x_yes ?_)
  | (with_reducible refine a_addI ?_) | (with_reducible refine x_I0 ?_) | (with_reducible refine a_eq rfl ?_) | (with_reducible refine a_ne rfl ?_) | (with_reducible refine a_inS ?_) | (with_reducible refine a_ninS ?_) | (with_reducible refine x_strS ?_) | (with_reducible refine x_intI ?_) | (with_reducible refine x_iB ?_) | (with_reducible refine x_iT ?_)))

section
variable {P : Program} {w : World} {K : PySem.W.Frag} {mg : Str → Option Value} {base : Heap}
/-! ### rows as things of their own -/
structure Home where
  cell : Nat
  a : Nat
  b : Nat
  c : Nat
  d : Nat
structure NewR where
  h : Home
  weak : Nat
  last : Bool
structure Seen where
  room : Str
  cells : List Nat
  homes : List Home
inductive RowT
  | made (n : Nat) (a b : Str) (m : Nat) (f : Bool)
  | went (n : Nat) (a : Str)
  | heard (n : Nat)
  | gave (a : Str) (ns : List Nat)
  | came (a : Str) (ns : List Nat) (homes : List NewR)
  | pause (rooms : List Str) (shown : List Seen) (gone called : List Nat) (moved : List (Nat × Str)) (sealed : List Str) (told : Option (List (Str × Str)))
def numD (n : Nat) : PyData := .int (n : Int)
def numsD (ns : List Nat) : PyData := .list (ns.map numD)
def strsD (zs : List Str) : PyData := .list (zs.map PyData.str)
def Home.fld (h : Home) : PyData := .tuple [numD h.a, numD h.b, numD h.c, numD h.d]
def Home.dat (h : Home) : PyData := .tuple [numD h.cell, h.fld]
def NewR.dat (r : NewR) : PyData := .tuple [numD r.h.cell, r.h.fld, numD r.weak, .bool r.last]
def Seen.dat (s : Seen) : PyData := .tuple [.str s.room, numsD s.cells, .list (s.homes.map Home.dat)]
def movD (m : Nat × Str) : PyData := .tuple [numD m.1, .str m.2]
def telD (m : Str × Str) : PyData := .tuple [.str m.1, .str m.2]
def tolD : Option (List (Str × Str)) → PyData
  | none => .none
  | some ts => .list (ts.map telD)
def RowT.dat : RowT → PyData
  | .made n a b m f => .tuple [.str "made", numD n, .str a, .str b, numD m, .bool f]
  | .went n a => .tuple [.str "went", numD n, .str a]
  | .heard n => .tuple [.str "heard", numD n]
  | .gave a ns => .tuple [.str "gave", .str a, numsD ns]
  | .came a ns hs => .tuple [.str "came", .str a, numsD ns, .list (hs.map NewR.dat)]
  | .pause rooms shown gone called moved sealed told => .tuple [.str "pause", strsD rooms, .list (shown.map Seen.dat), numsD gone, numsD called, .list (moved.map movD), strsD sealed, tolD told]
def b01S (b : Bool) : Str := if b = true then "1" else "0"
def Home.words (h : Home) : List Str := ["cell", numS h.cell, numS h.a, numS h.b, numS h.c, numS h.d]
def NewR.words (r : NewR) : List Str := ["new", numS r.h.cell, numS r.h.a, numS r.h.b, numS r.h.c, numS r.h.d, numS r.weak, b01S r.last]
def Seen.words (s : Seen) : List (List Str) := ("seen" :: s.room :: s.cells.map numS) :: s.homes.map Home.words
def movW (m : Nat × Str) : List Str := [numS m.1, m.2]
def telW (m : Str × Str) : List Str := [m.1, "->", m.2]
def tolW : Option (List (Str × Str)) → List Str
  | none => ["told", "same"]
  | some ts => "told" :: ts.flatMap telW
def RowT.words : RowT → List (List Str)
  | .made n a b m f => [["made", numS n, a, b, numS m, b01S f]]
  | .went n a => [["went", numS n, a]]
  | .heard n => [["heard", numS n]]
  | .gave a ns => ["gave" :: a :: ns.map numS]
  | .came a ns hs => ("came" :: a :: ns.map numS) :: hs.map NewR.words
  | .pause rooms shown gone called moved sealed told =>
    ("pause" :: rooms) :: (shown.flatMap Seen.words ++ ([("gone" : Str) :: gone.map numS, ("called" : Str) :: called.map numS, ("moved" : Str) :: moved.flatMap movW, ("sealed" : Str) :: sealed, tolW told] : List (List Str)))
/-! sizes -/
def Nb (n : Nat) : Prop := n < 1000000000
def Nm (z : Str) : Prop := nameWord z = true
theorem nm_len {z : Str} (h : Nm z) : z.length ≤ 16 := by
  unfold Nm nameWord at h
  simp only [Bool.and_eq_true, Bool.not_eq_true', Bool.or_eq_false_iff, decide_eq_false_iff_not] at h
  omega
structure Home.Ok (h : Home) : Prop where
  cell : Nb h.cell
  a : Nb h.a
  b : Nb h.b
  c : Nb h.c
  d : Nb h.d
structure NewR.Ok (r : NewR) : Prop where
  h : r.h.Ok
  weak : Nb r.weak
structure Seen.Ok (s : Seen) : Prop where
  room : Nm s.room
  cells : s.cells.length ≤ 5 ∧ ∀ n ∈ s.cells, Nb n
  homes : s.homes.length ≤ 5 ∧ ∀ h ∈ s.homes, h.Ok
structure PauseOk (rooms : List Str) (shown : List Seen) (gone called : List Nat) (moved : List (Nat × Str)) (sealed : List Str) (told : Option (List (Str × Str))) : Prop where
  r0 : 0 < rooms.length
  s0 : 0 < shown.length
  rooms : rooms.length ≤ 5 ∧ ∀ z ∈ rooms, Nm z
  shown : shown.length ≤ 5 ∧ ∀ s ∈ shown, s.Ok
  gone : gone.length ≤ 5 ∧ ∀ n ∈ gone, Nb n
  called : called.length ≤ 5 ∧ ∀ n ∈ called, Nb n
  moved : moved.length ≤ 5 ∧ ∀ m ∈ moved, Nb m.1 ∧ Nm m.2
  sealed : sealed.length ≤ 5 ∧ ∀ z ∈ sealed, Nm z
  told : ∀ ts, told = some ts → ts.length ≤ 5 ∧ ∀ m ∈ ts, Nm m.1 ∧ Nm m.2
def RowT.Ok : RowT → Prop
  | .made n a b m _ => Nb n ∧ Nm a ∧ Nm b ∧ Nb m
  | .went n a => Nb n ∧ Nm a
  | .heard n => Nb n
  | .gave a ns => Nm a ∧ ns.length ≤ 5 ∧ ∀ n ∈ ns, Nb n
  | .came a ns hs => Nm a ∧ (ns.length ≤ 5 ∧ ∀ n ∈ ns, Nb n) ∧ hs.length ≤ 5 ∧ ∀ h ∈ hs, h.Ok
  | .pause rooms shown gone called moved sealed told => PauseOk rooms shown gone called moved sealed told
theorem th_num {n : Nat} (h : Nb n) : Th (.int (n : Int)) := .int n h
theorem th_nm {z : Str} (h : Nm z) : Th (.str z) := .str z (Nat.le_trans (nm_len h) (by decide))
/-- a line with its end -/
def lnS (ws : List Str) : Str := lineS ws ++ "\n"
def intV (n : Nat) : V := .int (n : Int)
theorem dp_nums {H : Hp} {vs : List V} : ∀ {ns : List Nat}, DpAll K H vs (ns.map numD) → vs = ns.map intV := by
  intro ns h
  have : ns.map numD = (ns.map fun n : Nat => (n : Int)).map PyData.int := by rw [List.map_map]; rfl
  rw [this] at h
  rw [ints_of_dp h, List.map_map]
  rfl
theorem th_nums {ns : List Nat} : (ns.map intV).map thS = ns.map numS := by
  rw [List.map_map]
  rfl
theorem th_strs {zs : List Str} : (zs.map V.str).map thS = zs := by
  rw [List.map_map]
  show zs.map id = zs
  rw [List.map_id]
end
end K97


set_option maxRecDepth 100000
set_option maxHeartbeats 4000000
namespace K97
open PySem PySem.Spec PyProof.Rows L2 TL NB
local macro_rules | `(tactic| walk_at "rd") => `(tactic| repeat (first
  | (with_reducible refine x_seq ?_) | (with_reducible refine x_asg ?_) | (with_reducible refine x_gName ?_) | (with_reducible refine x_ret ?_) | (with_reducible refine x_drop ?_) | (with_reducible refine x_ifS ?_)
  | (with_reducible refine x_op ?_) | (with_reducible refine x_c ?_) | ((with_reducible refine' x_var ?k1 ?_); (case k1 => with_unfolding_all rfl)) | (with_reducible refine x_cb ?_) | (with_reducible refine x_call0 ?_) | (with_reducible refine x_cons ?_) | (with_reducible refine x_nil ?_)
  | (with_reducible refine x_test ?_) | (with_reducible refine x_B ?_) | (with_reducible refine x_bl ?_) | (with_reducible refine x_and ?_) | (with_reducible refine x_or ?_) | (with_reducible refine x_not ?_)
  | (with_reducible refine x_andV ?_) | (with_reducible refine x_orV ?_) | (with_reducible refine x_notV ?_) | (with_reducible refine x_if ?_) | (with_reducible refine x_isN ?_) | (with_reducible refine x_notN ?_)
  | (with_reducible refine x_tup ?_) | (with_reducible refine x_lst ?_) | (with_reducible refine x_sl ?_) | (with_reducible refine x_noPart ?_) | (with_reducible refine x_part ?_) | (with_reducible refine x_int ?_)
  | (with_reducible refine x_bm ?_) | (with_reducible refine x_m1 ?_) | (with_reducible refine x_tyS ?_) | (with_reducible refine x_gNil ?_) | (with_reducible refine x_gCons ?_) | (with_reducible refine x_gSub ?_) | (with_reducible refine x_next ?_) | (with_reducible refine x_brk ?_)
  | (with_reducible refine x_slStep ?_) | (with_reducible refine x_lc ?_) | (with_reducible refine x_for ?_) | (with_reducible refine x_iL ?_) | (with_reducible refine x_iR1 ?_) | (with_reducible refine x_iR3 ?_) | (with_reducible refine x_iS ?_) | (with_reducible refine x_ref ?_) | (with_reducible refine x_yes ?_)
  | (with_reducible refine a_addI ?_) | (with_reducible refine x_I0 ?_) | (with_reducible refine a_eq rfl ?_) | (with_reducible refine a_ne rfl ?_) | (with_reducible refine a_inS ?_) | (with_reducible refine a_ninS ?_) | (with_reducible refine x_strS ?_) | (with_reducible refine x_intI ?_) | (with_reducible refine x_iB ?_) | (with_reducible refine x_iT ?_)))

section
variable {P : Program} {w : World} {K : PySem.W.Frag} {mg : Str → Option Value} {base : Heap}
/-! ### joined words -/
theorem joinL_cons' {S p : List Nat} {r : List (List Nat)} (h : r ≠ []) : joinL S (p :: r) = p ++ (S ++ joinL S r) := by
  cases r with
  | nil => exact absurd rfl h
  | cons x y => rfl
theorem joinL_app {S : List Nat} {r : List (List Nat)} (hr : r ≠ []) : ∀ {q : List (List Nat)}, q ≠ [] → joinL S (q ++ r) = joinL S q ++ (S ++ joinL S r)
  | [], h => absurd rfl h
  | [p], _ => joinL_cons' hr
  | p :: p2 :: q, _ => by
    show p ++ (S ++ joinL S ((p2 :: q) ++ r)) = p ++ (S ++ joinL S (p2 :: q)) ++ (S ++ joinL S r)
    rw [joinL_app hr (q := p2 :: q) (by simp)]
    simp only [List.append_assoc]
theorem joinL_in {S : List Nat} {q r : List (List Nat)} (hq : q ≠ []) : joinL S (joinL S q :: r) = joinL S (q ++ r) := by
  by_cases hr : r = []
  · subst hr
    rw [List.append_nil]
    rfl
  · rw [joinL_cons' hr, joinL_app hr hq]
theorem joinL_flat {α : Type} {S : List Nat} {g : α → List (List Nat)} : ∀ {l : List α} {p : List Nat}, (∀ x ∈ l, g x ≠ []) → joinL S (p :: l.map fun x => joinL S (g x)) = joinL S (p :: l.flatMap g)
  | [], p, _ => rfl
  | x :: l, p, h => by
    have hx := h x List.mem_cons_self
    have ih := joinL_flat (S := S) (g := g) (l := l) (p := joinL S (g x)) fun y hy => h y (List.mem_cons_of_mem _ hy)
    rw [List.map_cons, joinL_cons' (by simp), ih, List.flatMap_cons, joinL_in hx, ← joinL_cons' (by simp [hx])]
theorem lineS_tl (ws : List Str) : tl (lineS ws) = joinL [32] (ws.map tl) := by
  unfold lineS
  rw [join_eq, tl_join]
  rfl
theorem lineS_flat {α : Type} {g : α → List Str} {l : List α} {p : Str} (h : ∀ x ∈ l, g x ≠ []) : lineS (p :: l.map fun x => lineS (g x)) = lineS (p :: l.flatMap g) := by
  refine ext_tl ?_
  rw [lineS_tl, lineS_tl, List.map_cons, List.map_cons, List.map_map, List.map_flatMap]
  have : (l.map (tl ∘ fun x => lineS (g x))) = l.map fun x => joinL [32] ((g x).map tl) := List.map_congr_left fun x _ => lineS_tl (g x)
  rw [this]
  exact joinL_flat fun x hx e => h x hx (List.map_eq_nil_iff.mp e)
theorem lineS_tel (m : Str × Str) : m.1 ++ " -> " ++ m.2 = lineS (telW m) := by
  refine ext_tl ?_
  rw [lineS_tl, tl_append, tl_append]
  show tl m.1 ++ tl (" -> " : Str) ++ tl m.2 = tl m.1 ++ ([32] ++ (tl ("->" : Str) ++ ([32] ++ tl m.2)))
  rw [show tl (" -> " : Str) = [32, 45, 62, 32] from rfl, show tl ("->" : Str) = [45, 62] from rfl]
  simp
theorem lineS_mov (m : Nat × Str) : numS m.1 ++ " " ++ m.2 = lineS (movW m) := by
  refine ext_tl ?_
  rw [lineS_tl, tl_append, tl_append]
  show tl (numS m.1) ++ tl (" " : Str) ++ tl m.2 = tl (numS m.1) ++ ([32] ++ tl m.2)
  rw [show tl (" " : Str) = [32] from rfl]
  simp
/-! ### the text of a pause -/
def lnV (ws : List Str) : V := .str (lnS ws)
def sp_pause_lines (K : PySem.W.Frag) : Sp := fun vs H Q _ => ∃ (a : Addr) (rooms : List Str) (shown : List Seen) (gone called : List Nat) (moved : List (Nat × Str)) (sealed : List Str) (told : Option (List (Str × Str))),
  vs = [.ref a] ∧ Dp K H (.ref a) (RowT.pause rooms shown gone called moved sealed told).dat ∧ PauseOk rooms shown gone called moved sealed told ∧
  ∀ p H', H p = none → Same H H' → H' p = some (.lst ((RowT.pause rooms shown gone called moved sealed told).words.map lnV)) → Q (.ref p) H'
def plS (a a1 a2 a3 a4 a5 a6 : Addr) (v7 : V) (l : Addr) (r : List (Option V)) : L2.St :=
  some (.ref a) :: some (.str "pause") :: some (.ref a1) :: some (.ref a2) :: some (.ref a3) :: some (.ref a4) :: some (.ref a5) :: some (.ref a6) :: some v7 :: some (.ref l) :: r
theorem flat_snoc {α β : Type} {f : α → List β} {rs : List α} {i : Nat} {r : α} (h : rs[i]? = some r) : (rs.take (i + 1)).flatMap f = (rs.take i).flatMap f ++ f r := by
  rw [take_snoc h, List.flatMap_append]
  simp
theorem flat_len {α β : Type} {f : α → List β} {b : Nat} : ∀ {l : List α}, (∀ x ∈ l, (f x).length ≤ b) → (l.flatMap f).length ≤ l.length * b
  | [], _ => Nat.zero_le _
  | x :: l, h => by
    have h1 := h x List.mem_cons_self
    have h2 := flat_len (l := l) fun y hy => h y (List.mem_cons_of_mem _ hy)
    rw [List.flatMap_cons, List.length_append, List.length_cons, Nat.succ_mul]
    omega
theorem ln_push {H0 H : Hp} {l : Addr} {ls ls' : List (List Str)} {w : List Str} (h : Ln H0 l (ls.map lnV) H) (e : ls ++ [w] = ls') : Ln H0 l (ls'.map lnV) (upd H l (.lst (ls.map lnV ++ [lnV w]))) := by
  subst e
  rw [List.map_append]
  exact h.put
theorem dp_fields {H : Hp} {h : Home} {v : V} (d : Dp K H v h.fld) : ∃ a, v = .ref a ∧ SqT K H a [intV h.a, intV h.b, intV h.c, intV h.d] := by
  obtain ⟨a, xs, rfl, hs, h0⟩ := dp_tup d
  obtain ⟨v0, xs, rfl, d0, h0⟩ := dp_cons h0
  obtain ⟨v1, xs, rfl, d1, h0⟩ := dp_cons h0
  obtain ⟨v2, xs, rfl, d2, h0⟩ := dp_cons h0
  obtain ⟨v3, xs, rfl, d3, h0⟩ := dp_cons h0
  have h0 := dp_nil h0
  subst h0
  rw [dp_int d0, dp_int d1, dp_int d2, dp_int d3] at hs
  exact ⟨a, rfl, hs⟩
theorem dp_home {H : Hp} {h : Home} {v : V} (d : Dp K H v h.dat) : ∃ a b, v = .ref a ∧ SqT K H a [intV h.cell, .ref b] ∧ SqT K H b [intV h.a, intV h.b, intV h.c, intV h.d] := by
  obtain ⟨a, xs, rfl, hs, h0⟩ := dp_tup d
  obtain ⟨v0, xs, rfl, d0, h0⟩ := dp_cons h0
  obtain ⟨v1, xs, rfl, d1, h0⟩ := dp_cons h0
  have h0 := dp_nil h0
  subst h0
  obtain ⟨b, rfl, hb⟩ := dp_fields d1
  rw [dp_int d0] at hs
  exact ⟨a, b, rfl, hs, hb⟩
theorem dp_seen {H : Hp} {s : Seen} {v : V} (d : Dp K H v s.dat) : ∃ a b c cs, v = .ref a ∧ SqT K H a [.str s.room, .ref b, .ref c] ∧ SqL K H b (s.cells.map intV) ∧ SqL K H c cs ∧ DpAll K H cs (s.homes.map Home.dat) := by
  obtain ⟨a, xs, rfl, hs, h0⟩ := dp_tup d
  obtain ⟨v0, xs, rfl, d0, h0⟩ := dp_cons h0
  obtain ⟨v1, xs, rfl, d1, h0⟩ := dp_cons h0
  obtain ⟨v2, xs, rfl, d2, h0⟩ := dp_cons h0
  have h0 := dp_nil h0
  subst h0
  obtain ⟨b, xs, rfl, h1, h2⟩ := dp_lst d1
  obtain ⟨c, cs, rfl, h3, h4⟩ := dp_lst d2
  rw [dp_nums h2] at h1
  rw [dp_str d0] at hs
  exact ⟨a, b, c, cs, rfl, hs, h1, h3, h4⟩
theorem dpl_len {H : Hp} {vs : List V} {α : Type} {f : α → PyData} {rs : List α} (h : DpAll K H vs (rs.map f)) : vs.length = rs.length := by
  rw [dpAll_len h, List.length_map]
def mvV (m : Nat × Str) : List V := [intV m.1, .str m.2]
theorem th_moves : ∀ {ms : List (Nat × Str)}, (ms.flatMap mvV).map thS = ms.flatMap movW
  | [] => rfl
  | m :: ms => by
    rw [List.flatMap_cons, List.flatMap_cons, List.map_append, th_moves (ms := ms)]
    rfl
theorem dp_mov {H : Hp} {m : Nat × Str} {v : V} (d : Dp K H v (movD m)) : ∃ a, v = .ref a ∧ SqT K H a (mvV m) := by
  obtain ⟨a, xs, rfl, hs, h0⟩ := dp_tup d
  obtain ⟨v0, xs, rfl, d0, h0⟩ := dp_cons h0
  obtain ⟨v1, xs, rfl, d1, h0⟩ := dp_cons h0
  have h0 := dp_nil h0
  subst h0
  rw [dp_int d0, dp_str d1] at hs
  exact ⟨a, rfl, hs⟩
theorem dp_tel {H : Hp} {m : Str × Str} {v : V} (d : Dp K H v (telD m)) : ∃ a, v = .ref a ∧ SqT K H a [.str m.1, .str m.2] := by
  obtain ⟨a, xs, rfl, hs, h0⟩ := dp_tup d
  obtain ⟨v0, xs, rfl, d0, h0⟩ := dp_cons h0
  obtain ⟨v1, xs, rfl, d1, h0⟩ := dp_cons h0
  have h0 := dp_nil h0
  subst h0
  rw [dp_str d0, dp_str d1] at hs
  exact ⟨a, rfl, hs⟩
theorem th_list {ns : List Nat} (h : ∀ n ∈ ns, Nb n) : ∀ x ∈ ns.map intV, Th x := fun x hx => by
  obtain ⟨n, hn, rfl⟩ := List.mem_map.mp hx
  exact th_num (h n hn)
theorem sc_pause_lines : FnScope ["row", "word", "rooms", "shown", "gone", "called", "moved", "sealed", "told", "lines", "room", "cells", "homes", "cell", "fields", "moves", "hall", "first", "second"] ["row"] (defScope s_pause_lines) := ⟨rfl, rfl, rfl, by decide +kernel, rfl, by decide +kernel, by decide +kernel⟩
theorem ok_pause_lines (T : Tx w K mg) : OkF P w K mg base CX0 2 "pause_lines" ["row"] (sp_pause_lines K) := by
  have G_line_of := ok_line_of (P := P) (base := base) T
  refine Tx.def0 T 4 rfl T.g_pause_lines sc_pause_lines (fun _ _ _ _ _ _ us hl => match us, hl with | [_], _ => rfl) (fun vs H Q E h => ?_) (fun f cdv A outer s H vs Q E hr h => ?_)
  · obtain ⟨a, rooms, shown, gone, called, moved, sealed, told, rfl, hd, ok, q⟩ := h; rfl
  · obtain ⟨a, rooms, shown, gone, called, moved, sealed, told, rfl, hd, ok, q⟩ := h
    refine ⟨_, (pss_cons (ps_asg (pv 0) (pg_tup rfl (pgs_cons (pg_name (i := 1) sc_pause_lines.nd rfl (by first | exact Or.inl rfl | exact Or.inr rfl)) (pgs_cons (pg_name (i := 2) sc_pause_lines.nd rfl (by first | exact Or.inl rfl | exact Or.inr rfl)) (pgs_cons (pg_name (i := 3) sc_pause_lines.nd rfl (by first | exact Or.inl rfl | exact Or.inr rfl)) (pgs_cons (pg_name (i := 4) sc_pause_lines.nd rfl (by first | exact Or.inl rfl | exact Or.inr rfl)) (pgs_cons (pg_name (i := 5) sc_pause_lines.nd rfl (by first | exact Or.inl rfl | exact Or.inr rfl)) (pgs_cons (pg_name (i := 6) sc_pause_lines.nd rfl (by first | exact Or.inl rfl | exact Or.inr rfl)) (pgs_cons (pg_name (i := 7) sc_pause_lines.nd rfl (by first | exact Or.inl rfl | exact Or.inr rfl)) (pgs_cons (pg_name (i := 8) sc_pause_lines.nd rfl (by first | exact Or.inl rfl | exact Or.inr rfl)) pgs_nil))))))))))
      (pss_cons (ps_set (i := 9) sc_pause_lines.nd rfl (by first | exact Or.inl rfl | exact Or.inr rfl) (pe_lst (pa_cons (pe_callO G_line_of (hr.mono (by decide)) (by rfl) pass0 (pa_cons pe_str (pa_cons (pv 2) pa_nil))) pa_nil)))
      (pss_cons (ps_for PassesOwn.never rfl (pi_list (pv 3)) (pg_tup rfl (pgs_cons (pg_name (i := 10) sc_pause_lines.nd rfl (by first | exact Or.inl rfl | exact Or.inr rfl)) (pgs_cons (pg_name (i := 11) sc_pause_lines.nd rfl (by first | exact Or.inl rfl | exact Or.inr rfl)) (pgs_cons (pg_name (i := 12) sc_pause_lines.nd rfl (by first | exact Or.inl rfl | exact Or.inr rfl)) pgs_nil))))
        (pss_cons (ps_expr (pe_bm PySem.F.plainAttrs_list PySem.F.slot_list_append PySem.F.type_list_append mt_append (pv 9) (pa_cons (pe_callO G_line_of (hr.mono (by decide)) (by rfl) pass0 (pa_cons pe_str (pa_cons (pe_op op_addG (pe_lst (pa_cons (pv 10) pa_nil)) (pe_callTy call_list_of (by rfl) T.f_list (by decide +kernel) (pa_cons (pv 11) pa_nil))) pa_nil))) pa_nil)))
        (pss_one (ps_for PassesOwn.never rfl (pi_list (pv 12)) (pg_tup rfl (pgs_cons (pg_name (i := 13) sc_pause_lines.nd rfl (by first | exact Or.inl rfl | exact Or.inr rfl)) (pgs_cons (pg_name (i := 14) sc_pause_lines.nd rfl (by first | exact Or.inl rfl | exact Or.inr rfl)) pgs_nil)))
          (pss_one (ps_expr (pe_bm PySem.F.plainAttrs_list PySem.F.slot_list_append PySem.F.type_list_append mt_append (pv 9) (pa_cons (pe_callO G_line_of (hr.mono (by decide)) (by rfl) pass0 (pa_cons pe_str (pa_cons (pe_op op_addG (pe_lst (pa_cons (pv 13) pa_nil)) (pe_callTy call_list_of (by rfl) T.f_list (by decide +kernel) (pa_cons (pv 14) pa_nil))) pa_nil))) pa_nil))))))))
      (pss_cons (ps_expr (pe_bm PySem.F.plainAttrs_list PySem.F.slot_list_append PySem.F.type_list_append mt_append (pv 9) (pa_cons (pe_callO G_line_of (hr.mono (by decide)) (by rfl) pass0 (pa_cons pe_str (pa_cons (pv 4) pa_nil))) pa_nil)))
      (pss_cons (ps_expr (pe_bm PySem.F.plainAttrs_list PySem.F.slot_list_append PySem.F.type_list_append mt_append (pv 9) (pa_cons (pe_callO G_line_of (hr.mono (by decide)) (by rfl) pass0 (pa_cons pe_str (pa_cons (pv 5) pa_nil))) pa_nil)))
      (pss_cons (ps_set (i := 15) sc_pause_lines.nd rfl (by first | exact Or.inl rfl | exact Or.inr rfl) (pe_lst pa_nil))
      (pss_cons (ps_for PassesOwn.never rfl (pi_list (pv 6)) (pg_tup rfl (pgs_cons (pg_name (i := 13) sc_pause_lines.nd rfl (by first | exact Or.inl rfl | exact Or.inr rfl)) (pgs_cons (pg_name (i := 16) sc_pause_lines.nd rfl (by first | exact Or.inl rfl | exact Or.inr rfl)) pgs_nil)))
        (pss_one (ps_expr (pe_bm PySem.F.plainAttrs_list PySem.F.slot_list_extend PySem.F.type_list_extend mt_extend (pv 15) (pa_cons (pe_lst (pa_cons (pv 13) (pa_cons (pv 16) pa_nil))) pa_nil)))))
      (pss_cons (ps_expr (pe_bm PySem.F.plainAttrs_list PySem.F.slot_list_append PySem.F.type_list_append mt_append (pv 9) (pa_cons (pe_callO G_line_of (hr.mono (by decide)) (by rfl) pass0 (pa_cons pe_str (pa_cons (pv 15) pa_nil))) pa_nil)))
      (pss_cons (ps_expr (pe_bm PySem.F.plainAttrs_list PySem.F.slot_list_append PySem.F.type_list_append mt_append (pv 9) (pa_cons (pe_callO G_line_of (hr.mono (by decide)) (by rfl) pass0 (pa_cons pe_str (pa_cons (pv 7) pa_nil))) pa_nil)))
      (pss_cons (ps_if (pt_cmp (pc_isN (pv 8)) (by rfl))
        (pss_one (ps_expr (pe_bm PySem.F.plainAttrs_list PySem.F.slot_list_append PySem.F.type_list_append mt_append (pv 9) (pa_cons pe_str pa_nil))))
        (pss_one (ps_expr (pe_bm PySem.F.plainAttrs_list PySem.F.slot_list_append PySem.F.type_list_append mt_append (pv 9) (pa_cons (pe_callO G_line_of (hr.mono (by decide)) (by rfl) pass0 (pa_cons pe_str (pa_cons (pe_lc (own := [("first", 17), ("second", 18)]) rfl sc_pause_lines.nd (pi_list (pv 8)) (blkOk_by (own := [("first", 17), ("second", 18)]) (N := ["row", "word", "rooms", "shown", "gone", "called", "moved", "sealed", "told", "lines", "room", "cells", "homes", "cell", "fields", "moves", "hall", "first", "second"]) (sc := (defScope s_pause_lines)) (by decide +kernel)) (fun _ _ _ _ _ => (pg_tupB (n := 2) rfl (pgs_cons (pg_name (i := 17) sc_pause_lines.nd rfl (by first | exact Or.inl rfl | exact Or.inr rfl)) (pgs_cons (pg_name (i := 18) sc_pause_lines.nd rfl (by first | exact Or.inl rfl | exact Or.inr rfl)) pgs_nil)))) (fun _ _ _ _ _ => pts_nil) (fun _ _ _ _ _ => (pe_op op_addG (pe_op op_addG (pv 17) pe_str) (pv 18)))) pa_nil))) pa_nil)))))
      (pss_one (ps_ret (pv 9))))))))))))), ?_⟩
    obtain ⟨a', xs, ea, hs, h0⟩ := dp_tup hd
    cases ea
    obtain ⟨v0, xs, rfl, d0, h0⟩ := dp_cons h0
    obtain ⟨v1, xs, rfl, d1, h0⟩ := dp_cons h0
    obtain ⟨v2, xs, rfl, d2, h0⟩ := dp_cons h0
    obtain ⟨v3, xs, rfl, d3, h0⟩ := dp_cons h0
    obtain ⟨v4, xs, rfl, d4, h0⟩ := dp_cons h0
    obtain ⟨v5, xs, rfl, d5, h0⟩ := dp_cons h0
    obtain ⟨v6, xs, rfl, d6, h0⟩ := dp_cons h0
    obtain ⟨v7, xs, rfl, d7, h0⟩ := dp_cons h0
    have h0 := dp_nil h0
    subst h0
    have e0 := dp_str d0
    subst e0
    obtain ⟨a1, r1, rfl, s1, c1⟩ := dp_lst d1
    have c1 := strs_of_dp c1
    subst c1
    obtain ⟨a2, r2, rfl, s2, c2⟩ := dp_lst d2
    obtain ⟨a3, r3, rfl, s3, c3⟩ := dp_lst d3
    have c3 := dp_nums c3
    subst c3
    obtain ⟨a4, r4, rfl, s4, c4⟩ := dp_lst d4
    have c4 := dp_nums c4
    subst c4
    obtain ⟨a5, r5, rfl, s5, c5⟩ := dp_lst d5
    obtain ⟨a6, r6, rfl, s6, c6⟩ := dp_lst d6
    have c6 := strs_of_dp c6
    subst c6
    walk_at "rd"
    refine x_gTup hs rfl ?_
    walk_at "rd"
    refine ⟨"pause", a1, _, rfl, .inl s1, by decide +kernel, ?_, ?_, fun H1 sm => ?_⟩
    · have := ok.rooms.1
      rw [List.length_map]; omega
    · intro x hx
      obtain ⟨z, hz, rfl⟩ := List.mem_map.mp hx
      exact th_nm (ok.rooms.2 z hz)
    walk_at "rd"
    refine ⟨sz_lit (n := 1), fun l hl => ?_⟩
    rw [th_strs]
    have L1 : Ln H l (([("pause" : Str) :: rooms] : List (List Str)).map lnV) (upd H1 l (.lst [.str (lineS ("pause" :: rooms) ++ "\n")])) := ⟨sm.trans (same_new hl), upd_same, sm.free hl⟩
    generalize upd H1 l (.lst [.str (lineS ("pause" :: rooms) ++ "\n")]) = H2 at L1 ⊢
    walk_at "rd"
    have sH2 := L1.sm
    refine forL (sH2.seq s2) (fun i σ H' => (∃ x10 x11 x12 x13 x14, σ = plS a a1 a2 a3 a4 a5 a6 v7 l [x10, x11, x12, x13, x14, none, none, none, none]) ∧
      Ln H l (((("pause" : Str) :: rooms) :: (shown.take i).flatMap Seen.words).map lnV) H') ⟨⟨_, _, _, _, _, rfl⟩, L1⟩ (fun i σ H' _ h => h.2.sm.seq s2) ?_ ?_
    · rintro i x σ H3 hx ⟨⟨x10, x11, x12, x13, x14, rfl⟩, L3⟩
      obtain ⟨sn, hsn, dsn⟩ := dp_at c2 hx
      have oks := ok.shown.2 sn (List.mem_of_getElem? hsn)
      obtain ⟨b, b1, b2, cs, rfl, g1, g2, g3, g4⟩ := dp_seen dsn
      have hlen : ((shown.take i).flatMap Seen.words).length ≤ 30 := by
        refine Nat.le_trans (flat_len (b := 6) fun s hs => ?_) ?_
        · have := (ok.shown.2 s (List.mem_of_mem_take hs)).homes.1
          unfold Seen.words
          rw [List.length_cons, List.length_map]; omega
        · have := ok.shown.1
          rw [List.length_take]; omega
      refine x_gTup (Same.sqT L3.sm g1) rfl ?_
      walk_at "rd"
      refine x_tyL L3.seq ?_
      walk_at "rd"
      refine ⟨sz_lit (n := 1), fun p hp => ?_⟩
      have L4 := L3.ext (same_new (o := .lst [.str sn.room]) hp)
      have hp4 : (upd H3 p (.lst [.str sn.room])) p = some (.lst [.str sn.room]) := upd_same
      generalize upd H3 p (.lst [.str sn.room]) = H4 at L4 hp4 ⊢
      walk_at "rd"
      refine ⟨b1, _, rfl, .inl (L4.sm.seq g2), fun p2 hp2 => ?_⟩
      have L5 := L4.ext (same_new (o := .lst (sn.cells.map intV)) hp2)
      have hp5 : (upd H4 p2 (.lst (sn.cells.map intV))) p2 = some (.lst (sn.cells.map intV)) := upd_same
      have hp4' := same_new (o := .lst (sn.cells.map intV)) hp2 _ _ hp4
      generalize upd H4 p2 (.lst (sn.cells.map intV)) = H5 at L5 hp5 hp4' ⊢
      have hcl := oks.cells.1
      refine a_addL hp4' hp5 (sz_le (by rw [List.length_map]; show 1 + _ ≤ _; omega)) fun p3 hp3 => ?_
      have L6 := L5.ext (same_new (o := .lst (V.str sn.room :: sn.cells.map intV)) hp3)
      walk_at "rd"
      refine ⟨"seen", p3, _, rfl, .inl (SqL.of upd_same), by decide +kernel, ?_, ?_, fun H7 sm7 => ?_⟩
      · show (V.str sn.room :: sn.cells.map intV).length ≤ 1000
        rw [List.length_cons, List.length_map]; omega
      · intro y hy
        rcases List.mem_cons.mp hy with rfl | hy
        · exact th_nm oks.room
        · exact th_list oks.cells.2 y hy
      have L7 := L6.ext sm7
      walk_at "rd"
      refine x_append L7.at_ (sz_lt (by rw [List.length_map, List.length_cons]; omega)) ?_
      have el : [V.str (lineS ("seen" :: List.map thS ([V.str sn.room] ++ sn.cells.map intV)) ++ "\n")] = [lnV (("seen" : Str) :: sn.room :: sn.cells.map numS)] := by
        show [V.str (lineS ("seen" :: sn.room :: List.map thS (sn.cells.map intV)) ++ "\n")] = _
        rw [th_nums]
        rfl
      rw [el]
      have L8 := ln_push L7 (w := ("seen" : Str) :: sn.room :: sn.cells.map numS) rfl
      generalize upd H7 l _ = H8 at L8 ⊢
      walk_at "rd"
      refine forL (L8.sm.seq g3) (fun j σ H' => (∃ x13 x14, σ = plS a a1 a2 a3 a4 a5 a6 v7 l [some (V.str sn.room), some (.ref b1), some (.ref b2), x13, x14, none, none, none, none]) ∧
        Ln H l (((((("pause" : Str) :: rooms) :: (shown.take i).flatMap Seen.words) ++ [("seen" : Str) :: sn.room :: sn.cells.map numS]) ++ (sn.homes.take j).map Home.words).map lnV) H') ⟨⟨_, _, rfl⟩, by rw [List.take_zero, List.map_nil, List.append_nil]; exact L8⟩ (fun j σ H' _ h => h.2.sm.seq g3) ?_ ?_
      · rintro j x σ H9 hx ⟨⟨x13, x14, rfl⟩, L9⟩
        obtain ⟨hm, hhm, dhm⟩ := dp_at g4 hx
        have okh := oks.homes.2 hm (List.mem_of_getElem? hhm)
        obtain ⟨c, c1, rfl, k1, k2⟩ := dp_home dhm
        refine x_gTup (Same.sqT L9.sm k1) rfl ?_
        walk_at "rd"
        refine x_tyL L9.seq ?_
        walk_at "rd"
        refine ⟨sz_lit (n := 1), fun p hp => ?_⟩
        have L4 := L9.ext (same_new (o := .lst [intV hm.cell]) hp)
        have hp4 : (upd H9 p (.lst [intV hm.cell])) p = some (.lst [intV hm.cell]) := upd_same
        generalize upd H9 p (.lst [intV hm.cell]) = H4 at L4 hp4 ⊢
        walk_at "rd"
        refine ⟨c1, _, rfl, .inr (Same.sqT L4.sm k2), fun p2 hp2 => ?_⟩
        have L5 := L4.ext (same_new (o := .lst [intV hm.a, intV hm.b, intV hm.c, intV hm.d]) hp2)
        have hp5 : (upd H4 p2 (.lst [intV hm.a, intV hm.b, intV hm.c, intV hm.d])) p2 = some (.lst [intV hm.a, intV hm.b, intV hm.c, intV hm.d]) := upd_same
        have hp4' := same_new (o := .lst [intV hm.a, intV hm.b, intV hm.c, intV hm.d]) hp2 _ _ hp4
        generalize upd H4 p2 (.lst [intV hm.a, intV hm.b, intV hm.c, intV hm.d]) = H5 at L5 hp5 hp4' ⊢
        refine a_addL hp4' hp5 (sz_lit (n := 5)) fun p3 hp3 => ?_
        have L6 := L5.ext (same_new (o := .lst ([intV hm.cell] ++ [intV hm.a, intV hm.b, intV hm.c, intV hm.d])) hp3)
        walk_at "rd"
        refine ⟨"cell", p3, _, rfl, .inl (SqL.of upd_same), by decide +kernel, (by show 5 ≤ 1000; decide), ?_, fun H7 sm7 => ?_⟩
        · intro y hy
          have : y ∈ [intV hm.cell, intV hm.a, intV hm.b, intV hm.c, intV hm.d] := hy
          simp only [List.mem_cons, List.not_mem_nil, or_false] at this
          rcases this with rfl | rfl | rfl | rfl | rfl
          · exact th_num okh.cell
          · exact th_num okh.a
          · exact th_num okh.b
          · exact th_num okh.c
          · exact th_num okh.d
        have L7 := L6.ext sm7
        walk_at "rd"
        have hh5 := oks.homes.1
        refine x_append L7.at_ (sz_lt ?_) ?_
        · simp only [List.length_map, List.length_append, List.length_cons, List.length_take, List.length_nil]
          omega
        refine ⟨⟨_, _, rfl⟩, ?_⟩
        exact ln_push L7 (w := hm.words) (by rw [take_snoc hhm, List.map_append, List.append_assoc]; rfl)
      · rintro σ H9 ⟨⟨x13, x14, rfl⟩, L9⟩
        refine ⟨⟨_, _, _, _, _, rfl⟩, ?_⟩
        rw [flat_snoc hsn]
        have e : sn.homes.take cs.length = sn.homes := by rw [dpl_len g4, List.take_length]
        rw [e, List.append_assoc] at L9
        exact L9
    · rintro σ H3 ⟨⟨x10, x11, x12, x13, x14, rfl⟩, L3⟩
      have e : shown.take r2.length = shown := by rw [dpl_len c2, List.take_length]
      rw [e] at L3
      clear L1 sH2 e
      have hlen : (shown.flatMap Seen.words).length ≤ 30 := by
        refine Nat.le_trans (flat_len (b := 6) fun s hs => ?_) ?_
        · have := (ok.shown.2 s hs).homes.1
          unfold Seen.words
          rw [List.length_cons, List.length_map]; omega
        · have := ok.shown.1
          omega
      have ok3 := ok.gone
      have ok4 := ok.called
      have ok5 := ok.moved
      have ok6 := ok.sealed
      walk_at "rd"
      refine x_tyL L3.seq ?_
      walk_at "rd"
      refine ⟨"gone", a3, _, rfl, .inl (L3.sm.seq s3), by decide +kernel, ?_, th_list ok3.2, fun H7 sm7 => ?_⟩
      · rw [List.length_map]; omega
      have L7 := L3.ext sm7
      walk_at "rd"
      refine x_append L7.at_ (sz_lt ?_) ?_
      · simp only [List.length_map, List.length_append, List.length_cons, List.length_take, List.length_nil]
        omega
      rw [th_nums]
      have L8 := ln_push L7 (w := ("gone" : Str) :: gone.map numS) rfl
      replace L8 : Ln H l _ (upd H7 l (.lst ((((("pause" : Str) :: rooms) :: shown.flatMap Seen.words).map lnV) ++ [V.str (lineS ("gone" :: gone.map numS) ++ "\n")]))) := L8
      clear L3 L7
      generalize upd H7 l _ = H8 at L8 ⊢
      walk_at "rd"
      refine x_tyL L8.seq ?_
      walk_at "rd"
      refine ⟨"called", a4, _, rfl, .inl (L8.sm.seq s4), by decide +kernel, ?_, th_list ok4.2, fun H7 sm7 => ?_⟩
      · rw [List.length_map]; omega
      have L7 := L8.ext sm7
      walk_at "rd"
      refine x_append L7.at_ (sz_lt ?_) ?_
      · simp only [List.length_map, List.length_append, List.length_cons, List.length_take, List.length_nil]
        omega
      rw [th_nums]
      have L9 := ln_push L7 (w := ("called" : Str) :: called.map numS) rfl
      replace L9 : Ln H l _ (upd H7 l (.lst ((((("pause" : Str) :: rooms) :: shown.flatMap Seen.words) ++ [("gone" : Str) :: gone.map numS]).map lnV ++ [V.str (lineS ("called" :: called.map numS) ++ "\n")]))) := L9
      clear L8 L7
      generalize upd H7 l _ = H9 at L9 ⊢
      walk_at "rd"
      refine ⟨sz_lit (n := 0), fun m hm => ?_⟩
      have M1 : Ln H9 m [] (upd H9 m (.lst [])) := Ln.new hm
      generalize upd H9 m (.lst []) = H10 at M1 ⊢
      walk_at "rd"
      refine forL (M1.sm.seq (L9.sm.seq s5)) (fun i σ H' => (∃ x10 x11 x12 x13 x14 x16, σ = plS a a1 a2 a3 a4 a5 a6 v7 l [x10, x11, x12, x13, x14, some (.ref m), x16, none, none]) ∧
        Ln H9 m ((moved.take i).flatMap mvV) H') ⟨⟨_, _, _, _, _, _, rfl⟩, M1⟩ (fun i σ H' _ h => h.2.sm.seq (L9.sm.seq s5)) ?_ ?_
      · rintro i x σ H11 hx ⟨⟨x10, x11, x12, x13, x14, x16, rfl⟩, M2⟩
        obtain ⟨mv, hmv, dmv⟩ := dp_at c5 hx
        obtain ⟨b, rfl, g1⟩ := dp_mov dmv
        refine x_gTup (vs := [intV mv.1, V.str mv.2]) (Same.sqT M2.sm (Same.sqT L9.sm g1)) rfl ?_
        walk_at "rd"
        refine x_tyL M2.seq ?_
        walk_at "rd"
        refine ⟨sz_lit (n := 2), fun p hp => ?_⟩
        have M3 := M2.ext (same_new (o := .lst [intV mv.1, .str mv.2]) hp)
        have hm5 := ok5.1
        have hfl : ((moved.take i).flatMap mvV).length ≤ 10 := by
          refine Nat.le_trans (flat_len (b := 2) fun s _ => Nat.le_refl _) ?_
          rw [List.length_take]; omega
        have hpp : (upd H11 p (.lst [intV mv.1, .str mv.2])) p = some (.lst [intV mv.1, .str mv.2]) := upd_same
        generalize upd H11 p (.lst [intV mv.1, .str mv.2]) = H12 at M3 hpp ⊢
        walk_at "rd"
        refine x_extend M3.at_ hpp (sz_le (by rw [show ([intV mv.1, V.str mv.2] : List V).length = 2 from rfl]; omega)) ?_
        refine ⟨⟨_, _, _, _, _, _, rfl⟩, ?_⟩
        have := M3.put (ws := (moved.take (i + 1)).flatMap mvV)
        rw [flat_snoc hmv] at this ⊢
        exact this
      · rintro σ H11 ⟨⟨x10, x11, x12, x13, x14, x16, rfl⟩, M2⟩
        have e : moved.take r5.length = moved := by rw [dpl_len c5, List.take_length]
        rw [e] at M2
        clear M1 e
        replace L9 := L9.ext M2.sm
        have hfl : (moved.flatMap mvV).length ≤ 10 := by
          refine Nat.le_trans (flat_len (b := 2) fun s _ => Nat.le_refl _) ?_
          have := ok5.1
          omega
        walk_at "rd"
        refine x_tyL L9.seq ?_
        walk_at "rd"
        refine ⟨"moved", m, _, rfl, .inl (M2.seq), by decide +kernel, ?_, ?_, fun H7 sm7 => ?_⟩
        · omega
        · intro x hx
          obtain ⟨mv, hmv, hx⟩ := List.mem_flatMap.mp hx
          rcases List.mem_cons.mp hx with rfl | hx
          · exact th_num (ok5.2 mv hmv).1
          · rw [List.mem_singleton.mp hx]
            exact th_nm (ok5.2 mv hmv).2
        have L7 := L9.ext sm7
        walk_at "rd"
        refine x_append L7.at_ (sz_lt ?_) ?_
        · simp only [List.length_map, List.length_append, List.length_cons, List.length_take, List.length_nil]
          omega
        rw [th_moves]
        have L10 := ln_push L7 (w := ("moved" : Str) :: moved.flatMap movW) rfl
        replace L10 : Ln H l _ (upd H7 l (.lst ((((("pause" : Str) :: rooms) :: shown.flatMap Seen.words) ++ [("gone" : Str) :: gone.map numS] ++ [("called" : Str) :: called.map numS]).map lnV ++ [V.str (lineS ("moved" :: moved.flatMap movW) ++ "\n")]))) := L10
        clear L7 M2
        generalize upd H7 l _ = H10 at L10 ⊢
        walk_at "rd"
        refine x_tyL L10.seq ?_
        walk_at "rd"
        refine ⟨"sealed", a6, _, rfl, .inl (L10.sm.seq s6), by decide +kernel, ?_, ?_, fun H7 sm7 => ?_⟩
        · rw [List.length_map]; omega
        · intro x hx
          obtain ⟨z, hz, rfl⟩ := List.mem_map.mp hx
          exact th_nm (ok6.2 z hz)
        have L7 := L10.ext sm7
        walk_at "rd"
        refine x_append L7.at_ (sz_lt ?_) ?_
        · simp only [List.length_map, List.length_append, List.length_cons, List.length_take, List.length_nil]
          omega
        rw [th_strs]
        have L11 := ln_push L7 (w := ("sealed" : Str) :: sealed) rfl
        replace L11 : Ln H l _ (upd H7 l (.lst ((((("pause" : Str) :: rooms) :: shown.flatMap Seen.words) ++ [("gone" : Str) :: gone.map numS] ++ [("called" : Str) :: called.map numS] ++ [("moved" : Str) :: moved.flatMap movW]).map lnV ++ [V.str (lineS ("sealed" :: sealed) ++ "\n")]))) := L11
        clear L7 L10
        generalize upd H7 l _ = H11 at L11 ⊢
        walk_at "rd"
        have hall : (RowT.pause rooms shown gone called moved sealed told).words = (((((("pause" : Str) :: rooms) :: shown.flatMap Seen.words) ++ [("gone" : Str) :: gone.map numS] ++ [("called" : Str) :: called.map numS] ++ [("moved" : Str) :: moved.flatMap movW]) ++ [("sealed" : Str) :: sealed]) ++ [tolW told]) := by
          unfold RowT.words
          simp only [List.cons_append, List.append_assoc, List.nil_append]
        rw [hall] at q
        clear hall
        cases told with
        | none =>
          have e7 := dp_non d7
          subst e7
          refine iteT ?_
          walk_at "rd"
          refine x_tyL L11.seq ?_
          walk_at "rd"
          refine x_append L11.at_ (sz_lt ?_) ?_
          · simp only [List.length_map, List.length_append, List.length_cons, List.length_take, List.length_nil]
            omega
          walk_at "rd"
          have L12 := ln_push L11 (w := tolW none) rfl
          exact q l _ L12.fr L12.sm L12.at_
        | some ts =>
          obtain ⟨a7, r7, rfl, s7, c7⟩ := dp_lst d7
          have ok7 := ok.told ts rfl
          refine iteF ?_
          walk_at "rd"
          refine x_tyL L11.seq ?_
          walk_at "rd"
          refine lcL (L11.sm.seq s7) (fun D i acc H' => Same H11 H' ∧ H' D = some (.lst ((ts.take i).map fun m => V.str (lineS (telW m))))) (fun D hD => ⟨same_new hD, upd_same⟩) (fun D i acc H' hD h => h.1.seq (L11.sm.seq s7)) (fun D i x acc H2 hD hx h => ?_) (fun D acc H' hD h => ?_)
          · obtain ⟨sm2, hd2⟩ := h
            obtain ⟨m, hm, dm⟩ := dp_at c7 hx
            obtain ⟨b, rfl, g1⟩ := dp_tel dm
            have okm := ok7.2 m (List.mem_of_getElem? hm)
            have n1 := nm_len okm.1
            have n2 := nm_len okm.2
            refine x_gTup (Same.sqT sm2 (Same.sqT L11.sm g1)) rfl ?_
            walk_at "rd"
            refine ⟨rfl, ?_⟩
            walk_at "rd"
            refine iteT ?_
            walk_at "rd"
            refine a_addS (sz_le (by rw [show (" -> " : Str).length = 4 from rfl]; omega)) ?_
            walk_at "rd"
            refine a_addS (sz_le (by rw [Str.length_append, show (" -> " : Str).length = 4 from rfl]; omega)) ?_
            refine ⟨_, hd2, sz_lt (by rw [List.length_map, List.length_take]; omega), (ts.take (i + 1)).map fun m => V.str (lineS (telW m)), ?_, ?_⟩
            · intro b o e
              rw [upd_ne (ne_of_none e hD)]
              exact sm2 _ _ e
            · rw [upd_same, take_snoc hm, List.map_append, lineS_tel]
              rfl
          · obtain ⟨sm2, hd2⟩ := h
            have e : ts.take r7.length = ts := by rw [dpl_len c7, List.take_length]
            rw [e] at hd2
            walk_at "rd"
            refine ⟨"told", D, _, rfl, .inl (SqL.of hd2), by decide +kernel, ?_, ?_, fun H13 sm3 => ?_⟩
            · rw [List.length_map]; omega
            · intro x hx
              obtain ⟨m, hm, rfl⟩ := List.mem_map.mp hx
              refine .str _ ?_
              have n1 := nm_len (ok7.2 m hm).1
              have n2 := nm_len (ok7.2 m hm).2
              rw [← lineS_tel, Str.length_append, Str.length_append, show (" -> " : Str).length = 4 from rfl]
              omega
            have L12 := (L11.ext sm2).ext sm3
            walk_at "rd"
            refine x_append L12.at_ (sz_lt ?_) ?_
            · simp only [List.length_map, List.length_append, List.length_cons, List.length_take, List.length_nil]
              omega
            walk_at "rd"
            have et : lineS ("told" :: List.map thS (ts.map fun m => V.str (lineS (telW m)))) = lineS (tolW (some ts)) := by
              rw [List.map_map]
              exact lineS_flat (g := telW) fun x _ => by unfold telW; simp
            rw [et]
            have L13 := ln_push L12 (w := tolW (some ts)) rfl
            exact q l _ L13.fr L13.sm L13.at_
end
end K97


set_option maxRecDepth 100000
set_option maxHeartbeats 4000000
namespace K97
open PySem PySem.Spec PyProof.Rows L2 TL NB
local macro_rules | `(tactic| walk_at "rd") => `(tactic| repeat (first
  | (with_reducible refine x_seq ?_) | (with_reducible refine x_asg ?_) | (with_reducible refine x_gName ?_) | (with_reducible refine x_ret ?_) | (with_reducible refine x_drop ?_) | (with_reducible refine x_ifS ?_)
  | (with_reducible refine x_op ?_) | (with_reducible refine x_c ?_) | ((with_reducible refine' x_var ?k1 ?_); (case k1 => with_unfolding_all rfl)) | (with_reducible refine x_cb ?_) | (with_reducible refine x_call0 ?_) | (with_reducible refine x_cons ?_) | (with_reducible refine x_nil ?_)
  | (with_reducible refine x_test ?_) | (with_reducible refine x_B ?_) | (with_reducible refine x_bl ?_) | (with_reducible refine x_and ?_) | (with_reducible refine x_or ?_) | (with_reducible refine x_not ?_)
  | (with_reducible refine x_andV ?_) | (with_reducible refine x_orV ?_) | (with_reducible refine x_notV ?_) | (with_reducible refine x_if ?_) | (with_reducible refine x_isN ?_) | (with_reducible refine x_notN ?_)
  | (with_reducible refine x_tup ?_) | (with_reducible refine x_lst ?_) | (with_reducible refine x_sl ?_) | (with_reducible refine x_noPart ?_) | (with_reducible refine x_part ?_) | (with_reducible refine x_int ?_)
  | (with_reducible refine x_bm ?_) | (with_reducible refine x_m1 ?_) | (with_reducible refine x_tyS ?_) | (with_reducible refine x_gNil ?_) | (with_reducible refine x_gCons ?_) | (with_reducible refine x_gSub ?_) | (with_reducible refine x_next ?_) | (with_reducible refine x_brk ?_)
  | (with_reducible refine x_slStep ?_) | (with_reducible refine x_lc ?_) | (with_reducible refine x_for ?_) | (with_reducible refine x_iL ?_) | (with_reducible refine x_iR1 ?_) | (with_reducible refine x_iR3 ?_) | (with_reducible refine x_iS ?_) | (with_reducible refine x_ref ?_) | (with_reducible refine x_yes ?_)
  | (with_reducible refine a_addI ?_) | (with_reducible refine x_I0 ?_) | (with_reducible refine a_eq rfl ?_) | (with_reducible refine a_ne rfl ?_) | (with_reducible refine a_inS ?_) | (with_reducible refine a_ninS ?_) | (with_reducible refine x_strS ?_) | (with_reducible refine x_intI ?_) | (with_reducible refine x_iB ?_) | (with_reducible refine x_iT ?_)))

section
variable {P : Program} {w : World} {K : PySem.W.Frag} {mg : Str → Option Value} {base : Heap}
/-! ### the texts of views and papers -/
def catS (ls : List (List Str)) : Str := Txt.join "" (ls.map lnS)
def sp_view_text (K : PySem.W.Frag) : Sp := fun vs H Q _ => ∃ (a : Addr) (rows : List RowT), vs = [.ref a] ∧ Dp K H (.ref a) (.list (rows.map RowT.dat)) ∧ rows.length ≤ 10 ∧ (∀ r ∈ rows, r.Ok) ∧
  ∀ H', Same H H' → Q (.str (catS (rows.flatMap RowT.words))) H'
def vtS (a l : Addr) (r : List (Option V)) : L2.St := some (.ref a) :: some (.ref l) :: r
theorem words_len {r : RowT} (h : r.Ok) : r.words.length ≤ 40 := by
  cases r with
  | made n a b m f => exact (by decide : 1 ≤ 40)
  | went n a => exact (by decide : 1 ≤ 40)
  | heard n => exact (by decide : 1 ≤ 40)
  | gave a ns => exact (by decide : 1 ≤ 40)
  | came a ns hs =>
    have : hs.length ≤ 5 := h.2.2.1
    unfold RowT.words
    rw [List.length_cons, List.length_map]; omega
  | pause rooms shown gone called moved sealed told =>
    have ok : PauseOk rooms shown gone called moved sealed told := h
    have hlen : (shown.flatMap Seen.words).length ≤ 30 := by
      refine Nat.le_trans (flat_len (b := 6) fun s hs => ?_) ?_
      · have := (ok.shown.2 s hs).homes.1
        unfold Seen.words
        rw [List.length_cons, List.length_map]; omega
      · have := ok.shown.1
        omega
    unfold RowT.words
    simp only [List.length_cons, List.length_append, List.length_nil]
    omega
theorem dp_new {H : Hp} {h : NewR} {v : V} (d : Dp K H v h.dat) : ∃ a b, v = .ref a ∧ SqT K H a [intV h.h.cell, .ref b, intV h.weak, .bl h.last] ∧ SqT K H b [intV h.h.a, intV h.h.b, intV h.h.c, intV h.h.d] := by
  obtain ⟨a, xs, rfl, hs, h0⟩ := dp_tup d
  obtain ⟨v0, xs, rfl, d0, h0⟩ := dp_cons h0
  obtain ⟨v1, xs, rfl, d1, h0⟩ := dp_cons h0
  obtain ⟨v2, xs, rfl, d2, h0⟩ := dp_cons h0
  obtain ⟨v3, xs, rfl, d3, h0⟩ := dp_cons h0
  have h0 := dp_nil h0
  subst h0
  obtain ⟨b, rfl, hb⟩ := dp_fields d1
  rw [dp_int d0, dp_int d2, dp_bl d3] at hs
  exact ⟨a, b, rfl, hs, hb⟩
theorem cut_ok {n : Nat} {p : Prop} (h : 1 ≤ n) : ¬ (HT.sIx n 0 (some 1) = 0 ∧ p) := fun z => by
  have e := z.1
  rw [show (1 : Int) = ((1 : Nat) : Int) from rfl, HT.sIx_nat] at e
  omega
/-- a word within a line -/
def Tok (z : Str) : Prop := z.length ≤ 16 ∧ ∀ c ∈ tl z, 33 ≤ c ∧ c < 128
structure LineOk (ws : List Str) : Prop where
  ne : ws ≠ []
  len : ws.length ≤ 16
  tok : ∀ z ∈ ws, Tok z
theorem LineOk.ln {ws : List Str} (h : LineOk ws) : (lnS ws).length ≤ 600 := by
  have h1 := lineS_len (b := 16) fun z hz => (h.tok z hz).1
  have h2 := h.len
  unfold lnS
  rw [Str.length_append, show ("\n" : Str).length = 1 from rfl]
  omega
theorem tok_lit {z : Str} (h : (decide (z.length ≤ 16) && (tl z).all fun c => decide (33 ≤ c ∧ c < 128)) = true) : Tok z := by
  rw [Bool.and_eq_true] at h
  exact ⟨of_decide_eq_true h.1, fun c hc => of_decide_eq_true (List.all_eq_true.mp h.2 c hc)⟩
theorem tok_num {n : Nat} (h : Nb n) : Tok (numS n) := by
  refine ⟨Nat.le_trans (numS_len h) (by decide), fun c hc => ?_⟩
  rw [numS_tl] at hc
  have := numL_digits n c hc
  omega
theorem nm_sign {z : Str} (h : Nm z) : ∀ c ∈ tl z, c ∈ tl (sSmall ++ sDigits) := by
  unfold Nm nameWord at h
  simp only [Bool.and_eq_true] at h
  have h2 := h.2.2
  unfold allIn at h2
  exact fun c hc => of_decide_eq_true (List.all_eq_true.mp h2 c hc)
theorem tok_nm {z : Str} (h : Nm z) : Tok z := by
  refine ⟨nm_len h, fun c hc => ?_⟩
  have h1 := nm_sign h c hc
  have h2 : ((tl (sSmall ++ sDigits)).all fun c => decide (33 ≤ c ∧ c < 128)) = true := by decide +kernel
  exact of_decide_eq_true (List.all_eq_true.mp h2 c h1)
theorem tok_b01 {b : Bool} : Tok (b01S b) := by
  cases b <;> exact tok_lit (by decide +kernel)
theorem line_cons {z : Str} {ws : List Str} (hz : Tok z) (hl : ws.length ≤ 15) (h : ∀ y ∈ ws, Tok y) : LineOk (z :: ws) := ⟨by simp, by rw [List.length_cons]; omega, fun y hy => by
  rcases List.mem_cons.mp hy with rfl | hy
  · exact hz
  · exact h y hy⟩
theorem toks_num {ns : List Nat} (h : ∀ n ∈ ns, Nb n) : ∀ y ∈ ns.map numS, Tok y := fun y hy => by
  obtain ⟨n, hn, rfl⟩ := List.mem_map.mp hy
  exact tok_num (h n hn)
theorem words_tok {r : RowT} (h : r.Ok) : ∀ ws ∈ r.words, LineOk ws := by
  intro ws hws
  cases r with
  | made n a b m f =>
    rw [List.mem_singleton.mp hws]
    refine line_cons (tok_lit (by decide +kernel)) (by simp) fun y hy => ?_
    simp only [List.mem_cons, List.not_mem_nil, or_false] at hy
    rcases hy with rfl | rfl | rfl | rfl | rfl
    · exact tok_num h.1
    · exact tok_nm h.2.1
    · exact tok_nm h.2.2.1
    · exact tok_num h.2.2.2
    · exact tok_b01
  | went n a =>
    rw [List.mem_singleton.mp hws]
    refine line_cons (tok_lit (by decide +kernel)) (by simp) fun y hy => ?_
    simp only [List.mem_cons, List.not_mem_nil, or_false] at hy
    rcases hy with rfl | rfl
    · exact tok_num h.1
    · exact tok_nm h.2
  | heard n =>
    rw [List.mem_singleton.mp hws]
    refine line_cons (tok_lit (by decide +kernel)) (by simp) fun y hy => ?_
    rw [List.mem_singleton.mp hy]
    exact tok_num h
  | gave a ns =>
    have okn : ns.length ≤ 5 ∧ ∀ n ∈ ns, Nb n := h.2
    rw [List.mem_singleton.mp hws]
    refine line_cons (tok_lit (by decide +kernel)) (by rw [List.length_cons, List.length_map]; omega) fun y hy => ?_
    rcases List.mem_cons.mp hy with rfl | hy
    · exact tok_nm h.1
    · exact toks_num okn.2 y hy
  | came a ns hs =>
    have okn : ns.length ≤ 5 ∧ ∀ n ∈ ns, Nb n := h.2.1
    have okh : hs.length ≤ 5 ∧ ∀ h ∈ hs, h.Ok := h.2.2
    rcases List.mem_cons.mp hws with rfl | hws
    · refine line_cons (tok_lit (by decide +kernel)) (by rw [List.length_cons, List.length_map]; omega) fun y hy => ?_
      rcases List.mem_cons.mp hy with rfl | hy
      · exact tok_nm h.1
      · exact toks_num okn.2 y hy
    · obtain ⟨r, hr, rfl⟩ := List.mem_map.mp hws
      have o := okh.2 r hr
      refine line_cons (tok_lit (by decide +kernel)) (by show 7 ≤ 15; decide) fun y hy => ?_
      simp only [List.mem_cons, List.not_mem_nil, or_false] at hy
      rcases hy with rfl | rfl | rfl | rfl | rfl | rfl | rfl
      · exact tok_num o.h.cell
      · exact tok_num o.h.a
      · exact tok_num o.h.b
      · exact tok_num o.h.c
      · exact tok_num o.h.d
      · exact tok_num o.weak
      · exact tok_b01
  | pause rooms shown gone called moved sealed told =>
    have ok : PauseOk rooms shown gone called moved sealed told := h
    rcases List.mem_cons.mp hws with rfl | hws
    · exact line_cons (tok_lit (by decide +kernel)) (by have := ok.rooms.1; omega) fun y hy => tok_nm (ok.rooms.2 y hy)
    rcases List.mem_append.mp hws with hws | hws
    · obtain ⟨s, hs, hws⟩ := List.mem_flatMap.mp hws
      have oks := ok.shown.2 s hs
      rcases List.mem_cons.mp hws with rfl | hws
      · refine line_cons (tok_lit (by decide +kernel)) (by have := oks.cells.1; rw [List.length_cons, List.length_map]; omega) fun y hy => ?_
        rcases List.mem_cons.mp hy with rfl | hy
        · exact tok_nm oks.room
        · exact toks_num oks.cells.2 y hy
      · obtain ⟨r, hr, rfl⟩ := List.mem_map.mp hws
        have o := oks.homes.2 r hr
        refine line_cons (tok_lit (by decide +kernel)) (by show 5 ≤ 15; decide) fun y hy => ?_
        simp only [List.mem_cons, List.not_mem_nil, or_false] at hy
        rcases hy with rfl | rfl | rfl | rfl | rfl
        · exact tok_num o.cell
        · exact tok_num o.a
        · exact tok_num o.b
        · exact tok_num o.c
        · exact tok_num o.d
    · simp only [List.mem_cons, List.not_mem_nil, or_false] at hws
      rcases hws with rfl | rfl | rfl | rfl | rfl
      · exact line_cons (tok_lit (by decide +kernel)) (by have := ok.gone.1; rw [List.length_map]; omega) (toks_num ok.gone.2)
      · exact line_cons (tok_lit (by decide +kernel)) (by have := ok.called.1; rw [List.length_map]; omega) (toks_num ok.called.2)
      · refine line_cons (tok_lit (by decide +kernel)) ?_ fun y hy => ?_
        · refine Nat.le_trans (flat_len (b := 2) fun s _ => Nat.le_refl _) ?_
          have := ok.moved.1
          omega
        · obtain ⟨m, hm, hy⟩ := List.mem_flatMap.mp hy
          rcases List.mem_cons.mp hy with rfl | hy
          · exact tok_num (ok.moved.2 m hm).1
          · rw [List.mem_singleton.mp hy]
            exact tok_nm (ok.moved.2 m hm).2
      · exact line_cons (tok_lit (by decide +kernel)) (by have := ok.sealed.1; omega) fun y hy => tok_nm (ok.sealed.2 y hy)
      · cases told with
        | none => exact line_cons (tok_lit (by decide +kernel)) (by decide) fun y hy => by rw [List.mem_singleton.mp hy]; exact tok_lit (by decide +kernel)
        | some ts =>
          have okt := ok.told ts rfl
          refine line_cons (tok_lit (by decide +kernel)) ?_ fun y hy => ?_
          · refine Nat.le_trans (flat_len (b := 3) fun s _ => Nat.le_refl _) ?_
            omega
          · obtain ⟨m, hm, hy⟩ := List.mem_flatMap.mp hy
            unfold telW at hy
            simp only [List.mem_cons, List.not_mem_nil, or_false] at hy
            rcases hy with rfl | rfl | rfl
            · exact tok_nm (okt.2 m hm).1
            · exact tok_lit (by decide +kernel)
            · exact tok_nm (okt.2 m hm).2
theorem sc_view_text : FnScope ["view", "lines", "row", "cell", "fields", "weak", "last"] ["view"] (defScope s_view_text) := ⟨rfl, rfl, rfl, by decide +kernel, rfl, by decide +kernel, by decide +kernel⟩
theorem ok_view_text (T : Tx w K mg) : OkF P w K mg base CX0 3 "view_text" ["view"] (sp_view_text K) := by
  have G_pause_lines := ok_pause_lines (P := P) (base := base) T
  have G_line_of := ok_line_of (P := P) (base := base) T
  refine Tx.def0 T 5 rfl T.g_view_text sc_view_text (fun _ _ _ _ _ _ us hl => match us, hl with | [_], _ => rfl) (fun vs H Q E h => ?_) (fun f cdv A outer s H vs Q E hr h => ?_)
  · obtain ⟨a, rows, rfl, hd, hl, ok, q⟩ := h; rfl
  · obtain ⟨a, rows, rfl, hd, hl, ok, q⟩ := h
    refine ⟨_, (pss_cons (ps_set (i := 1) sc_view_text.nd rfl (by first | exact Or.inl rfl | exact Or.inr rfl) (pe_lst pa_nil))
      (pss_cons (ps_for PassesOwn.never rfl (pi_list (pv 0)) (pg_name (i := 2) sc_view_text.nd rfl (by first | exact Or.inl rfl | exact Or.inr rfl))
        (pss_one (ps_if (pt_cmpR (op_eqG hr.units) (pe_ix ix_seq (pv 2) pe_int (fun _ _ => rfl)) pe_str (nomark _))
          (pss_one (ps_expr (pe_bm PySem.F.plainAttrs_list PySem.F.slot_list_extend PySem.F.type_list_extend mt_extend (pv 1) (pa_cons (pe_callO G_pause_lines (hr.mono (by decide)) (by rfl) pass0 (pa_cons (pv 2) pa_nil)) pa_nil))))
          (pss_one (ps_if (pt_cmpR (op_eqG hr.units) (pe_ix ix_seq (pv 2) pe_int (fun _ _ => rfl)) pe_str (nomark _))
            (pss_one (ps_expr (pe_bm PySem.F.plainAttrs_list PySem.F.slot_list_append PySem.F.type_list_append mt_append (pv 1) (pa_cons (pe_callO G_line_of (hr.mono (by decide)) (by rfl) pass0 (pa_cons pe_str (pa_cons (pe_lst (pa_cons (pe_ix ix_seq (pv 2) pe_int (fun _ _ => rfl)) (pa_cons (pe_ix ix_seq (pv 2) pe_int (fun _ _ => rfl)) (pa_cons (pe_ix ix_seq (pv 2) pe_int (fun _ _ => rfl)) (pa_cons (pe_ix ix_seq (pv 2) pe_int (fun _ _ => rfl)) (pa_cons (pe_ifExp (pt_val (pe_ix ix_seq (pv 2) pe_int (fun _ _ => rfl))) pe_int pe_int) pa_nil)))))) pa_nil))) pa_nil))))
            (pss_one (ps_if (pt_cmpR (op_eqG hr.units) (pe_ix ix_seq (pv 2) pe_int (fun _ _ => rfl)) pe_str (nomark _))
              (pss_one (ps_expr (pe_bm PySem.F.plainAttrs_list PySem.F.slot_list_append PySem.F.type_list_append mt_append (pv 1) (pa_cons (pe_callO G_line_of (hr.mono (by decide)) (by rfl) pass0 (pa_cons pe_str (pa_cons (pe_op op_addG (pe_lst (pa_cons (pe_ix ix_seq (pv 2) pe_int (fun _ _ => rfl)) pa_nil)) (pe_callTy call_list_of (by rfl) T.f_list (by decide +kernel) (pa_cons (pe_ix ix_seq (pv 2) pe_int (fun _ _ => rfl)) pa_nil))) pa_nil))) pa_nil))))
              (pss_one (ps_if (pt_cmpR (op_eqG hr.units) (pe_ix ix_seq (pv 2) pe_int (fun _ _ => rfl)) pe_str (nomark _))
                (pss_cons (ps_expr (pe_bm PySem.F.plainAttrs_list PySem.F.slot_list_append PySem.F.type_list_append mt_append (pv 1) (pa_cons (pe_callO G_line_of (hr.mono (by decide)) (by rfl) pass0 (pa_cons pe_str (pa_cons (pe_op op_addG (pe_lst (pa_cons (pe_ix ix_seq (pv 2) pe_int (fun _ _ => rfl)) pa_nil)) (pe_callTy call_list_of (by rfl) T.f_list (by decide +kernel) (pa_cons (pe_ix ix_seq (pv 2) pe_int (fun _ _ => rfl)) pa_nil))) pa_nil))) pa_nil)))
                (pss_one (ps_for PassesOwn.never rfl (pi_list (pe_ix ix_seq (pv 2) pe_int (fun _ _ => rfl))) (pg_tup rfl (pgs_cons (pg_name (i := 3) sc_view_text.nd rfl (by first | exact Or.inl rfl | exact Or.inr rfl)) (pgs_cons (pg_name (i := 4) sc_view_text.nd rfl (by first | exact Or.inl rfl | exact Or.inr rfl)) (pgs_cons (pg_name (i := 5) sc_view_text.nd rfl (by first | exact Or.inl rfl | exact Or.inr rfl)) (pgs_cons (pg_name (i := 6) sc_view_text.nd rfl (by first | exact Or.inl rfl | exact Or.inr rfl)) pgs_nil)))))
                  (pss_one (ps_expr (pe_bm PySem.F.plainAttrs_list PySem.F.slot_list_append PySem.F.type_list_append mt_append (pv 1) (pa_cons (pe_callO G_line_of (hr.mono (by decide)) (by rfl) pass0 (pa_cons pe_str (pa_cons (pe_op op_addG (pe_op op_addG (pe_lst (pa_cons (pv 3) pa_nil)) (pe_callTy call_list_of (by rfl) T.f_list (by decide +kernel) (pa_cons (pv 4) pa_nil))) (pe_lst (pa_cons (pv 5) (pa_cons (pe_ifExp (pt_val (pv 6)) pe_int pe_int) pa_nil)))) pa_nil))) pa_nil)))))))
                (pss_one (ps_expr (pe_bm PySem.F.plainAttrs_list PySem.F.slot_list_append PySem.F.type_list_append mt_append (pv 1) (pa_cons (pe_callO G_line_of (hr.mono (by decide)) (by rfl) pass0 (pa_cons (pe_ix ix_seq (pv 2) pe_int (fun _ _ => rfl)) (pa_cons (pe_slice sl_G (pv 2) (po_some pe_int) po_none) pa_nil))) pa_nil)))))))))))))
      (pss_one (ps_ret (pe_join pe_str (pv 1)))))), ?_⟩
    obtain ⟨a', vs, ea, hs, h0⟩ := dp_lst hd
    cases ea
    walk_at "rd"
    refine ⟨sz_lit (n := 0), fun l hl => ?_⟩
    have L1 : Ln H l (([] : List (List Str)).map lnV) (upd H l (.lst [])) := Ln.new hl
    generalize upd H l (.lst []) = H1 at L1 ⊢
    walk_at "rd"
    refine forL (L1.sm.seq hs) (fun i σ H' => (∃ x2 x3 x4 x5 x6, σ = vtS a l [x2, x3, x4, x5, x6]) ∧ Ln H l (((rows.take i).flatMap RowT.words).map lnV) H') ⟨⟨_, _, _, _, _, rfl⟩, L1⟩ (fun i σ H' _ h => h.2.sm.seq hs) ?_ ?_
    · rintro i x σ H2 hx ⟨⟨x2, x3, x4, x5, x6, rfl⟩, L2⟩
      obtain ⟨r, hr', dr⟩ := dp_at h0 hx
      have okr := ok r (List.mem_of_getElem? hr')
      have hlen : ((rows.take i).flatMap RowT.words).length ≤ 400 := by
        refine Nat.le_trans (flat_len (b := 40) fun s hs => words_len (ok s (List.mem_of_mem_take hs))) ?_
        rw [List.length_take]; omega
      walk_at "rd"
      cases r with
      | made n c b m f =>
        obtain ⟨a1, xs, rfl, h1, h0⟩ := dp_tup dr
        obtain ⟨v0, xs, rfl, d0, h0⟩ := dp_cons h0
        obtain ⟨v1, xs, rfl, d1, h0⟩ := dp_cons h0
        obtain ⟨v2, xs, rfl, d2, h0⟩ := dp_cons h0
        obtain ⟨v3, xs, rfl, d3, h0⟩ := dp_cons h0
        obtain ⟨v4, xs, rfl, d4, h0⟩ := dp_cons h0
        obtain ⟨v5, xs, rfl, d5, h0⟩ := dp_cons h0
        have h0 := dp_nil h0
        subst h0
        rw [dp_str d0, dp_int d1, dp_str d2, dp_str d3, dp_int d4, dp_bl d5] at h1
        clear d0 d1 d2 d3 d4 d5
        have h1 := Same.sqT L2.sm h1
        refine a_ixT h1 (atI_nat (j := 0) rfl) ?_
        walk_at "rd"
        refine iteF ?_
        walk_at "rd"
        refine a_ixT h1 (atI_nat (j := 0) rfl) ?_
        walk_at "rd"
        refine iteT ?_
        walk_at "rd"
        refine x_tyL L2.seq ?_
        walk_at "rd"
        refine a_ixT h1 (atI_nat (j := 1) rfl) ?_
        walk_at "rd"
        refine a_ixT h1 (atI_nat (j := 2) rfl) ?_
        walk_at "rd"
        refine a_ixT h1 (atI_nat (j := 3) rfl) ?_
        walk_at "rd"
        refine a_ixT h1 (atI_nat (j := 4) rfl) ?_
        walk_at "rd"
        refine a_ixT h1 (atI_nat (j := 5) rfl) ?_
        walk_at "rd"
        have ef : ∃ t : Int, (if f = true then V.int 1 else V.int 0) = .int t ∧ Th (.int t) ∧ thS (.int t) = b01S f := by
          cases f
          · exact ⟨0, rfl, .int 0 (by decide), by decide +kernel⟩
          · exact ⟨1, rfl, .int 1 (by decide), by decide +kernel⟩
        obtain ⟨t, et, tt, ez⟩ := ef
        cases f
        all_goals first | refine iteT ?_ | refine iteF ?_
        all_goals
          have et := V.int.inj et
          subst et
          walk_at "rd"
          refine ⟨sz_lit (n := 5), fun p hp => ?_⟩
          walk_at "rd"
          refine ⟨"made", p, _, rfl, .inl (SqL.of upd_same), by decide +kernel, (by show 5 ≤ 1000; decide), ?_, fun H7 sm7 => ?_⟩
          · intro y hy
            simp only [List.mem_cons, List.not_mem_nil, or_false] at hy
            rcases hy with rfl | rfl | rfl | rfl | rfl
            · exact th_num okr.1
            · exact th_nm okr.2.1
            · exact th_nm okr.2.2.1
            · exact th_num okr.2.2.2
            · exact tt
          have L7 := (L2.ext (same_new hp)).ext sm7
          walk_at "rd"
          refine x_append L7.at_ (sz_lt ?_) ?_
          · rw [List.length_map]; omega
          refine ⟨⟨_, _, _, _, _, rfl⟩, ?_⟩
          refine ln_push L7 (w := _) ?_
          rw [flat_snoc hr']
          show _ ++ [("made" : Str) :: [thS (.int n), c, b, thS (.int m), thS (.int _)]] = _
          rw [ez]
          rfl
      | went n c =>
        obtain ⟨a1, xs, rfl, h1, h0⟩ := dp_tup dr
        obtain ⟨v0, xs, rfl, d0, h0⟩ := dp_cons h0
        obtain ⟨v1, xs, rfl, d1, h0⟩ := dp_cons h0
        obtain ⟨v2, xs, rfl, d2, h0⟩ := dp_cons h0
        have h0 := dp_nil h0
        subst h0
        rw [dp_str d0, dp_int d1, dp_str d2] at h1
        clear d0 d1 d2
        have h1 := Same.sqT L2.sm h1
        refine a_ixT h1 (atI_nat (j := 0) rfl) ?_
        walk_at "rd"
        refine iteF ?_
        walk_at "rd"
        refine a_ixT h1 (atI_nat (j := 0) rfl) ?_
        walk_at "rd"
        refine iteF ?_
        walk_at "rd"
        refine a_ixT h1 (atI_nat (j := 0) rfl) ?_
        walk_at "rd"
        refine iteF ?_
        walk_at "rd"
        refine a_ixT h1 (atI_nat (j := 0) rfl) ?_
        walk_at "rd"
        refine iteF ?_
        walk_at "rd"
        refine x_tyL L2.seq ?_
        walk_at "rd"
        refine a_ixT h1 (atI_nat (j := 0) rfl) ?_
        walk_at "rd"
        refine .inr (.inl ⟨_, _, rfl, h1, cut_ok (by simp), fun p hp => ?_⟩)
        have L3 := L2.ext (same_new (o := .tup (cutV [V.str "went", .int n, .str c] (some 1) none)) hp)
        walk_at "rd"
        refine ⟨"went", p, [.int n, .str c], rfl, .inr (SqT.of upd_same), by decide +kernel, (by show 2 ≤ 1000; decide), ?_, fun H7 sm7 => ?_⟩
        · intro y hy
          simp only [List.mem_cons, List.not_mem_nil, or_false] at hy
          rcases hy with rfl | rfl
          · exact th_num okr.1
          · exact th_nm okr.2
        have L7 := L3.ext sm7
        walk_at "rd"
        refine x_append L7.at_ (sz_lt ?_) ?_
        · rw [List.length_map]; omega
        refine ⟨⟨_, _, _, _, _, rfl⟩, ?_⟩
        refine ln_push L7 (w := [("went" : Str), numS n, c]) ?_
        rw [flat_snoc hr']
        rfl
      | heard n =>
        obtain ⟨a1, xs, rfl, h1, h0⟩ := dp_tup dr
        obtain ⟨v0, xs, rfl, d0, h0⟩ := dp_cons h0
        obtain ⟨v1, xs, rfl, d1, h0⟩ := dp_cons h0
        have h0 := dp_nil h0
        subst h0
        rw [dp_str d0, dp_int d1] at h1
        clear d0 d1
        have h1 := Same.sqT L2.sm h1
        refine a_ixT h1 (atI_nat (j := 0) rfl) ?_
        walk_at "rd"
        refine iteF ?_
        walk_at "rd"
        refine a_ixT h1 (atI_nat (j := 0) rfl) ?_
        walk_at "rd"
        refine iteF ?_
        walk_at "rd"
        refine a_ixT h1 (atI_nat (j := 0) rfl) ?_
        walk_at "rd"
        refine iteF ?_
        walk_at "rd"
        refine a_ixT h1 (atI_nat (j := 0) rfl) ?_
        walk_at "rd"
        refine iteF ?_
        walk_at "rd"
        refine x_tyL L2.seq ?_
        walk_at "rd"
        refine a_ixT h1 (atI_nat (j := 0) rfl) ?_
        walk_at "rd"
        refine .inr (.inl ⟨_, _, rfl, h1, cut_ok (by simp), fun p hp => ?_⟩)
        have L3 := L2.ext (same_new (o := .tup (cutV [V.str "heard", .int n] (some 1) none)) hp)
        walk_at "rd"
        refine ⟨"heard", p, [.int n], rfl, .inr (SqT.of upd_same), by decide +kernel, (by show 1 ≤ 1000; decide), ?_, fun H7 sm7 => ?_⟩
        · intro y hy
          rw [List.mem_singleton.mp hy]
          exact th_num okr
        have L7 := L3.ext sm7
        walk_at "rd"
        refine x_append L7.at_ (sz_lt ?_) ?_
        · rw [List.length_map]; omega
        refine ⟨⟨_, _, _, _, _, rfl⟩, ?_⟩
        refine ln_push L7 (w := [("heard" : Str), numS n]) ?_
        rw [flat_snoc hr']
        rfl
      | pause rooms shown gone called moved sealed told =>
        have dr' := dr
        obtain ⟨a1, xs, rfl, h1, h0⟩ := dp_tup dr
        obtain ⟨v0, xs, rfl, d0, h0⟩ := dp_cons h0
        rw [dp_str d0] at h1
        have h1 := Same.sqT L2.sm h1
        refine a_ixT h1 (atI_nat (j := 0) rfl) ?_
        walk_at "rd"
        refine iteT ?_
        walk_at "rd"
        refine x_tyL L2.seq ?_
        walk_at "rd"
        refine ⟨a1, rooms, shown, gone, called, moved, sealed, told, rfl, dp_mono L2.sm dr', okr, fun p H7 hp sm7 hp7 => ?_⟩
        have L7 := L2.ext sm7
        have hw := words_len okr
        walk_at "rd"
        refine x_extend L7.at_ hp7 (sz_le (by rw [List.length_map, List.length_map]; omega)) ?_
        refine ⟨⟨_, _, _, _, _, rfl⟩, ?_⟩
        have := L7.put (ws := ((rows.take (i + 1)).flatMap RowT.words).map lnV)
        rw [flat_snoc hr', List.map_append] at this ⊢
        exact this
      | gave c ns =>
        have okn : ns.length ≤ 5 ∧ ∀ n ∈ ns, Nb n := okr.2
        have okn1 := okn.1
        obtain ⟨a1, xs, rfl, h1, h0⟩ := dp_tup dr
        obtain ⟨v0, xs, rfl, d0, h0⟩ := dp_cons h0
        obtain ⟨v1, xs, rfl, d1, h0⟩ := dp_cons h0
        obtain ⟨v2, xs, rfl, d2, h0⟩ := dp_cons h0
        have h0 := dp_nil h0
        subst h0
        obtain ⟨b1, xs, rfl, g2, g3⟩ := dp_lst d2
        rw [dp_nums g3] at g2
        rw [dp_str d0, dp_str d1] at h1
        clear d0 d1 d2
        have h1 := Same.sqT L2.sm h1
        refine a_ixT h1 (atI_nat (j := 0) rfl) ?_
        walk_at "rd"
        refine iteF ?_
        walk_at "rd"
        refine a_ixT h1 (atI_nat (j := 0) rfl) ?_
        walk_at "rd"
        refine iteF ?_
        walk_at "rd"
        refine a_ixT h1 (atI_nat (j := 0) rfl) ?_
        walk_at "rd"
        refine iteT ?_
        walk_at "rd"
        refine x_tyL L2.seq ?_
        walk_at "rd"
        refine a_ixT h1 (atI_nat (j := 1) rfl) ?_
        walk_at "rd"
        refine ⟨sz_lit (n := 1), fun p hp => ?_⟩
        have L4 := L2.ext (same_new (o := .lst [.str c]) hp)
        have hp4 : (upd H2 p (.lst [.str c])) p = some (.lst [.str c]) := upd_same
        have h14 := Same.sqT (same_new (o := .lst [.str c]) hp) h1
        generalize upd H2 p (.lst [.str c]) = H4 at L4 hp4 h14 ⊢
        walk_at "rd"
        refine a_ixT h14 (atI_nat (j := 2) rfl) ?_
        walk_at "rd"
        refine ⟨b1, _, rfl, .inl (L4.sm.seq g2), fun p2 hp2 => ?_⟩
        have L5 := L4.ext (same_new (o := .lst (ns.map intV)) hp2)
        have hp5 : (upd H4 p2 (.lst (ns.map intV))) p2 = some (.lst (ns.map intV)) := upd_same
        have hp4' := same_new (o := .lst (ns.map intV)) hp2 _ _ hp4
        generalize upd H4 p2 (.lst (ns.map intV)) = H5 at L5 hp5 hp4' ⊢
        refine a_addL hp4' hp5 (sz_le (by rw [List.length_map]; show 1 + _ ≤ _; omega)) fun p3 hp3 => ?_
        have L6 := L5.ext (same_new (o := .lst (V.str c :: ns.map intV)) hp3)
        walk_at "rd"
        refine ⟨"gave", p3, _, rfl, .inl (SqL.of upd_same), by decide +kernel, ?_, ?_, fun H7 sm7 => ?_⟩
        · show (V.str c :: ns.map intV).length ≤ 1000
          rw [List.length_cons, List.length_map]; omega
        · intro y hy
          rcases List.mem_cons.mp hy with rfl | hy
          · exact th_nm okr.1
          · exact th_list okn.2 y hy
        have L7 := L6.ext sm7
        walk_at "rd"
        refine x_append L7.at_ (sz_lt (by rw [List.length_map]; omega)) ?_
        have el : [V.str (lineS ("gave" :: List.map thS ([V.str c] ++ ns.map intV)) ++ "\n")] = [lnV (("gave" : Str) :: c :: ns.map numS)] := by
          show [V.str (lineS ("gave" :: c :: List.map thS (ns.map intV)) ++ "\n")] = _
          rw [th_nums]
          rfl
        rw [el]
        refine ⟨⟨_, _, _, _, _, rfl⟩, ?_⟩
        refine ln_push L7 ?_
        rw [flat_snoc hr']
        rfl
      | came c ns hs =>
        have okn : ns.length ≤ 5 ∧ ∀ n ∈ ns, Nb n := okr.2.1
        have okn1 := okn.1
        have okh : hs.length ≤ 5 ∧ ∀ h ∈ hs, h.Ok := okr.2.2
        have okh1 := okh.1
        obtain ⟨a1, xs, rfl, h1, h0⟩ := dp_tup dr
        obtain ⟨v0, xs, rfl, d0, h0⟩ := dp_cons h0
        obtain ⟨v1, xs, rfl, d1, h0⟩ := dp_cons h0
        obtain ⟨v2, xs, rfl, d2, h0⟩ := dp_cons h0
        obtain ⟨v3, xs, rfl, d3, h0⟩ := dp_cons h0
        have h0 := dp_nil h0
        subst h0
        obtain ⟨b1, xs, rfl, g2, g3⟩ := dp_lst d2
        rw [dp_nums g3] at g2
        obtain ⟨b3, cs, rfl, g4, g5⟩ := dp_lst d3
        rw [dp_str d0, dp_str d1] at h1
        clear d0 d1 d2
        have dr1 := h1
        have h1 := Same.sqT L2.sm h1
        refine a_ixT h1 (atI_nat (j := 0) rfl) ?_
        walk_at "rd"
        refine iteF ?_
        walk_at "rd"
        refine a_ixT h1 (atI_nat (j := 0) rfl) ?_
        walk_at "rd"
        refine iteF ?_
        walk_at "rd"
        refine a_ixT h1 (atI_nat (j := 0) rfl) ?_
        walk_at "rd"
        refine iteF ?_
        walk_at "rd"
        refine a_ixT h1 (atI_nat (j := 0) rfl) ?_
        walk_at "rd"
        refine iteT ?_
        walk_at "rd"
        refine x_tyL L2.seq ?_
        walk_at "rd"
        refine a_ixT h1 (atI_nat (j := 1) rfl) ?_
        walk_at "rd"
        refine ⟨sz_lit (n := 1), fun p hp => ?_⟩
        have L4 := L2.ext (same_new (o := .lst [.str c]) hp)
        have hp4 : (upd H2 p (.lst [.str c])) p = some (.lst [.str c]) := upd_same
        have h14 := Same.sqT (same_new (o := .lst [.str c]) hp) h1
        generalize upd H2 p (.lst [.str c]) = H4 at L4 hp4 h14 ⊢
        walk_at "rd"
        refine a_ixT h14 (atI_nat (j := 2) rfl) ?_
        walk_at "rd"
        refine ⟨b1, _, rfl, .inl (L4.sm.seq g2), fun p2 hp2 => ?_⟩
        have L5 := L4.ext (same_new (o := .lst (ns.map intV)) hp2)
        have hp5 : (upd H4 p2 (.lst (ns.map intV))) p2 = some (.lst (ns.map intV)) := upd_same
        have hp4' := same_new (o := .lst (ns.map intV)) hp2 _ _ hp4
        generalize upd H4 p2 (.lst (ns.map intV)) = H5 at L5 hp5 hp4' ⊢
        refine a_addL hp4' hp5 (sz_le (by rw [List.length_map]; show 1 + _ ≤ _; omega)) fun p3 hp3 => ?_
        have L6 := L5.ext (same_new (o := .lst (V.str c :: ns.map intV)) hp3)
        walk_at "rd"
        refine ⟨"came", p3, _, rfl, .inl (SqL.of upd_same), by decide +kernel, ?_, ?_, fun H7 sm7 => ?_⟩
        · show (V.str c :: ns.map intV).length ≤ 1000
          rw [List.length_cons, List.length_map]; omega
        · intro y hy
          rcases List.mem_cons.mp hy with rfl | hy
          · exact th_nm okr.1
          · exact th_list okn.2 y hy
        have L7 := L6.ext sm7
        walk_at "rd"
        refine x_append L7.at_ (sz_lt (by rw [List.length_map]; omega)) ?_
        have el : [V.str (lineS ("came" :: List.map thS ([V.str c] ++ ns.map intV)) ++ "\n")] = [lnV (("came" : Str) :: c :: ns.map numS)] := by
          show [V.str (lineS ("came" :: c :: List.map thS (ns.map intV)) ++ "\n")] = _
          rw [th_nums]
          rfl
        rw [el]
        have L8 := ln_push L7 (w := ("came" : Str) :: c :: ns.map numS) rfl
        have h18 := Same.sqT (L8.sm) (dr1)
        generalize upd H7 l _ = H8 at L8 h18 ⊢
        walk_at "rd"
        refine a_ixT h18 (atI_nat (j := 3) rfl) ?_
        walk_at "rd"
        refine forL (L8.sm.seq g4) (fun j σ H' => (∃ x3 x4 x5 x6, σ = vtS a l [some (.ref a1), x3, x4, x5, x6]) ∧
          Ln H l ((((rows.take i).flatMap RowT.words ++ [("came" : Str) :: c :: ns.map numS]) ++ (hs.take j).map NewR.words).map lnV) H') ⟨⟨_, _, _, _, rfl⟩, by rw [List.take_zero, List.map_nil, List.append_nil]; exact L8⟩ (fun j σ H' _ h => h.2.sm.seq g4) ?_ ?_
        · rintro j x σ H9 hx ⟨⟨x3, x4, x5, x6, rfl⟩, L9⟩
          obtain ⟨hm, hhm, dhm⟩ := dp_at g5 hx
          have ok1 := okh.2 hm (List.mem_of_getElem? hhm)
          obtain ⟨e1, e2, rfl, k1, k2⟩ := dp_new dhm
          refine x_gTup (Same.sqT L9.sm k1) rfl ?_
          walk_at "rd"
          refine x_tyL L9.seq ?_
          walk_at "rd"
          refine ⟨sz_lit (n := 1), fun p hp => ?_⟩
          have L4 := L9.ext (same_new (o := .lst [intV hm.h.cell]) hp)
          have hp4 : (upd H9 p (.lst [intV hm.h.cell])) p = some (.lst [intV hm.h.cell]) := upd_same
          generalize upd H9 p (.lst [intV hm.h.cell]) = H4 at L4 hp4 ⊢
          walk_at "rd"
          refine ⟨e2, _, rfl, .inr (Same.sqT L4.sm k2), fun p2 hp2 => ?_⟩
          have L5 := L4.ext (same_new (o := .lst [intV hm.h.a, intV hm.h.b, intV hm.h.c, intV hm.h.d]) hp2)
          have hp5 : (upd H4 p2 (.lst [intV hm.h.a, intV hm.h.b, intV hm.h.c, intV hm.h.d])) p2 = some (.lst [intV hm.h.a, intV hm.h.b, intV hm.h.c, intV hm.h.d]) := upd_same
          have hp4' := same_new (o := .lst [intV hm.h.a, intV hm.h.b, intV hm.h.c, intV hm.h.d]) hp2 _ _ hp4
          generalize upd H4 p2 (.lst [intV hm.h.a, intV hm.h.b, intV hm.h.c, intV hm.h.d]) = H5 at L5 hp5 hp4' ⊢
          refine a_addL hp4' hp5 (sz_lit (n := 5)) fun p3 hp3 => ?_
          have L6 := L5.ext (same_new (o := .lst ([intV hm.h.cell] ++ [intV hm.h.a, intV hm.h.b, intV hm.h.c, intV hm.h.d])) hp3)
          have hp6 : (upd H5 p3 (.lst ([intV hm.h.cell] ++ [intV hm.h.a, intV hm.h.b, intV hm.h.c, intV hm.h.d]))) p3 = some (.lst [intV hm.h.cell, intV hm.h.a, intV hm.h.b, intV hm.h.c, intV hm.h.d]) := upd_same
          generalize upd H5 p3 (.lst ([intV hm.h.cell] ++ [intV hm.h.a, intV hm.h.b, intV hm.h.c, intV hm.h.d])) = H6 at L6 hp6 ⊢
          walk_at "rd"
          have et : ∃ t : Int, Th (.int t) ∧ thS (.int t) = b01S hm.last ∧ t = if hm.last = true then 1 else 0 := by
            cases hm.last
            · exact ⟨0, .int 0 (by decide), by decide +kernel, rfl⟩
            · exact ⟨1, .int 1 (by decide), by decide +kernel, rfl⟩
          obtain ⟨t, tt, ez, et⟩ := et
          refine x_ite (fun g => ?_) (fun g => ?_)
          all_goals
            first | rw [if_pos g] at et | rw [if_neg (by rw [g]; decide)] at et
            subst et
            walk_at "rd"
            refine ⟨sz_lit (n := 2), fun p4 hp4 => ?_⟩
            refine a_addL (same_new hp4 _ _ hp6) upd_same (sz_lit (n := 7)) fun p5 hp5 => ?_
            walk_at "rd"
            refine ⟨"new", p5, _, rfl, .inl (SqL.of upd_same), by decide +kernel, (by show 7 ≤ 1000; decide), ?_, fun H7 sm7 => ?_⟩
            · intro y hy
              have : y ∈ [intV hm.h.cell, intV hm.h.a, intV hm.h.b, intV hm.h.c, intV hm.h.d, intV hm.weak, .int _] := hy
              simp only [List.mem_cons, List.not_mem_nil, or_false] at this
              rcases this with rfl | rfl | rfl | rfl | rfl | rfl | rfl
              · exact th_num ok1.h.cell
              · exact th_num ok1.h.a
              · exact th_num ok1.h.b
              · exact th_num ok1.h.c
              · exact th_num ok1.h.d
              · exact th_num ok1.weak
              · exact tt
            have L8 := ((L6.ext (same_new hp4)).ext (same_new hp5)).ext sm7
            walk_at "rd"
            refine x_append L8.at_ (sz_lt ?_) ?_
            · simp only [List.length_map, List.length_append, List.length_cons, List.length_take, List.length_nil]
              omega
            refine ⟨⟨_, _, _, _, rfl⟩, ?_⟩
            refine ln_push L8 (w := ("new" : Str) :: [thS (intV hm.h.cell), thS (intV hm.h.a), thS (intV hm.h.b), thS (intV hm.h.c), thS (intV hm.h.d), thS (intV hm.weak), thS (.int _)]) ?_
            rw [ez, take_snoc hhm, List.map_append, List.append_assoc]
            rfl
        · rintro σ H9 ⟨⟨x3, x4, x5, x6, rfl⟩, L9⟩
          refine ⟨⟨_, _, _, _, _, rfl⟩, ?_⟩
          rw [flat_snoc hr']
          have e : hs.take cs.length = hs := by rw [dpl_len g5, List.take_length]
          rw [e, List.append_assoc] at L9
          exact L9
    · rintro σ H2 ⟨⟨x2, x3, x4, x5, x6, rfl⟩, L2⟩
      have e : rows.take vs.length = rows := by rw [dpl_len h0, List.take_length]
      rw [e] at L2
      walk_at "rd"
      refine ⟨"", l, ((rows.flatMap RowT.words).map lnS), rfl, rfl, .inl ?_, ?_, q _ L2.sm⟩
      · rw [List.map_map]
        exact L2.seq
      · have h1 : (((rows.flatMap RowT.words).map lnS).map (fun x : Str => x.length)).sum ≤ ((rows.flatMap RowT.words).map lnS).length * 600 := sum_le fun y hy => by
          obtain ⟨ws, hws, rfl⟩ := List.mem_map.mp hy
          obtain ⟨r, hr, hws⟩ := List.mem_flatMap.mp hws
          exact (words_tok (ok r hr) ws hws).ln
        have h2 : ((rows.flatMap RowT.words).map lnS).length ≤ 400 := by
          rw [List.length_map]
          refine Nat.le_trans (flat_len (b := 40) fun s hs => words_len (ok s hs)) ?_
          omega
        rw [show ("" : Str).length = 0 from rfl]
        omega
end
end K97


set_option maxRecDepth 100000
set_option maxHeartbeats 4000000
namespace K97
open PySem PySem.Spec PyProof.Rows L2 TL NB
local macro_rules | `(tactic| walk_at "rd") => `(tactic| repeat (first
  | (with_reducible refine x_seq ?_) | (with_reducible refine x_asg ?_) | (with_reducible refine x_gName ?_) | (with_reducible refine x_ret ?_) | (with_reducible refine x_drop ?_) | (with_reducible refine x_ifS ?_)
  | (with_reducible refine x_op ?_) | (with_reducible refine x_c ?_) | ((with_reducible refine' x_var ?k1 ?_); (case k1 => with_unfolding_all rfl)) | (with_reducible refine x_cb ?_) | (with_reducible refine x_call0 ?_) | (with_reducible refine x_cons ?_) | (with_reducible refine x_nil ?_)
  | (with_reducible refine x_test ?_) | (with_reducible refine x_B ?_) | (with_reducible refine x_bl ?_) | (with_reducible refine x_and ?_) | (with_reducible refine x_or ?_) | (with_reducible refine x_not ?_)
  | (with_reducible refine x_andV ?_) | (with_reducible refine x_orV ?_) | (with_reducible refine x_notV ?_) | (with_reducible refine x_if ?_) | (with_reducible refine x_isN ?_) | (with_reducible refine x_notN ?_)
  | (with_reducible refine x_tup ?_) | (with_reducible refine x_lst ?_) | (with_reducible refine x_sl ?_) | (with_reducible refine x_noPart ?_) | (with_reducible refine x_part ?_) | (with_reducible refine x_int ?_)
  | (with_reducible refine x_bm ?_) | (with_reducible refine x_m1 ?_) | (with_reducible refine x_tyS ?_) | (with_reducible refine x_gNil ?_) | (with_reducible refine x_gCons ?_) | (with_reducible refine x_gSub ?_) | (with_reducible refine x_next ?_) | (with_reducible refine x_brk ?_)
  | (with_reducible refine x_slStep ?_) | (with_reducible refine x_lc ?_) | (with_reducible refine x_for ?_) | (with_reducible refine x_iL ?_) | (with_reducible refine x_iR1 ?_) | (with_reducible refine x_iR3 ?_) | (with_reducible refine x_iS ?_) | (with_reducible refine x_ref ?_) | (with_reducible refine x_yes ?_)
  | (with_reducible refine a_addI ?_) | (with_reducible refine x_I0 ?_) | (with_reducible refine a_eq rfl ?_) | (with_reducible refine a_ne rfl ?_) | (with_reducible refine a_inS ?_) | (with_reducible refine a_ninS ?_) | (with_reducible refine x_strS ?_) | (with_reducible refine x_intI ?_) | (with_reducible refine x_iB ?_) | (with_reducible refine x_iT ?_)))

section
variable {P : Program} {w : World} {K : PySem.W.Frag} {mg : Str → Option Value} {base : Heap}
/-! ### papers -/
abbrev Paper := List (List (Nat × Str))
def coupD (cs : List (Nat × Str)) : PyData := .list (cs.map movD)
def paperD (p : Paper) : PyData := .list (p.map coupD)
def coupW (cs : List (Nat × Str)) : List (List Str) := [("pause" : Str)] :: cs.map movW
def paperW (p : Paper) : List (List Str) := p.flatMap coupW
structure PaperOk (p : Paper) : Prop where
  len : p.length ≤ 10
  cs : ∀ cs ∈ p, cs.length ≤ 5 ∧ ∀ m ∈ cs, Nb m.1 ∧ Nm m.2
theorem PaperOk.wlen {p : Paper} (h : PaperOk p) (i : Nat) : (paperW (p.take i)).length ≤ 60 := by
  refine Nat.le_trans (flat_len (b := 6) fun s hs => ?_) ?_
  · have := (h.cs s (List.mem_of_mem_take hs)).1
    unfold coupW
    rw [List.length_cons, List.length_map]; omega
  · have := h.len
    rw [List.length_take]; omega
theorem PaperOk.tok {p : Paper} (h : PaperOk p) : ∀ ws ∈ paperW p, LineOk ws := by
  intro ws hws
  obtain ⟨cs, hcs, hws⟩ := List.mem_flatMap.mp hws
  have o := h.cs cs hcs
  rcases List.mem_cons.mp hws with rfl | hws
  · exact line_cons (tok_lit (by decide +kernel)) (by simp) fun y hy => by cases hy
  · obtain ⟨m, hm, rfl⟩ := List.mem_map.mp hws
    refine line_cons (tok_num (o.2 m hm).1) (by simp) fun y hy => ?_
    rw [List.mem_singleton.mp hy]
    exact tok_nm (o.2 m hm).2
theorem cat_size {ls : List (List Str)} (h : ∀ ws ∈ ls, LineOk ws) (hl : ls.length ≤ 400) : ((ls.map lnS).map (fun x : Str => x.length)).sum + (ls.map lnS).length * ("" : Str).length ≤ 16777216 := by
  have h1 : ((ls.map lnS).map (fun x : Str => x.length)).sum ≤ (ls.map lnS).length * 600 := sum_le fun y hy => by
    obtain ⟨ws, hws, rfl⟩ := List.mem_map.mp hy
    exact (h ws hws).ln
  have h2 : (ls.map lnS).length ≤ 400 := by
    rw [List.length_map]
    exact hl
  rw [show ("" : Str).length = 0 from rfl]
  omega
def sp_paper_text (K : PySem.W.Frag) : Sp := fun vs H Q _ => ∃ (a : Addr) (p : Paper), vs = [.ref a] ∧ Dp K H (.ref a) (paperD p) ∧ PaperOk p ∧ ∀ H', Same H H' → Q (.str (catS (paperW p))) H'
theorem sc_paper_text : FnScope ["paper", "lines", "couples", "cell", "room"] ["paper"] (defScope s_paper_text) := ⟨rfl, rfl, rfl, by decide +kernel, rfl, by decide +kernel, by decide +kernel⟩
theorem ok_paper_text (T : Tx w K mg) : OkF P w K mg base CX0 3 "paper_text" ["paper"] (sp_paper_text K) := by
  have G_line_of := ok_line_of (P := P) (base := base) T
  refine Tx.def0 T 18 rfl T.g_paper_text sc_paper_text (fun _ _ _ _ _ _ us hl => match us, hl with | [_], _ => rfl) (fun vs H Q E h => ?_) (fun f cdv A outer s H vs Q E hr h => ?_)
  · obtain ⟨a, pp, rfl, hd, ok, q⟩ := h; rfl
  · obtain ⟨a, pp, rfl, hd, ok, q⟩ := h
    refine ⟨_, (pss_cons (ps_set (i := 1) sc_paper_text.nd rfl (by first | exact Or.inl rfl | exact Or.inr rfl) (pe_lst pa_nil))
      (pss_cons (ps_for PassesOwn.never rfl (pi_list (pv 0)) (pg_name (i := 2) sc_paper_text.nd rfl (by first | exact Or.inl rfl | exact Or.inr rfl))
        (pss_cons (ps_expr (pe_bm PySem.F.plainAttrs_list PySem.F.slot_list_append PySem.F.type_list_append mt_append (pv 1) (pa_cons pe_str pa_nil)))
        (pss_one (ps_for PassesOwn.never rfl (pi_list (pv 2)) (pg_tup rfl (pgs_cons (pg_name (i := 3) sc_paper_text.nd rfl (by first | exact Or.inl rfl | exact Or.inr rfl)) (pgs_cons (pg_name (i := 4) sc_paper_text.nd rfl (by first | exact Or.inl rfl | exact Or.inr rfl)) pgs_nil)))
          (pss_one (ps_expr (pe_bm PySem.F.plainAttrs_list PySem.F.slot_list_append PySem.F.type_list_append mt_append (pv 1) (pa_cons (pe_callO G_line_of (hr.mono (by decide)) (by rfl) pass0 (pa_cons (pe_callTy call_strG (by rfl) T.f_str (by decide +kernel) (pa_cons (pv 3) pa_nil)) (pa_cons (pe_lst (pa_cons (pv 4) pa_nil)) pa_nil))) pa_nil))))))))
      (pss_one (ps_ret (pe_join pe_str (pv 1)))))), ?_⟩
    obtain ⟨a', vs, ea, hs, h0⟩ := dp_lst hd
    cases ea
    walk_at "rd"
    refine ⟨sz_lit (n := 0), fun l hl => ?_⟩
    have L1 : Ln H l (([] : List (List Str)).map lnV) (upd H l (.lst [])) := Ln.new hl
    generalize upd H l (.lst []) = H1 at L1 ⊢
    walk_at "rd"
    refine forL (L1.sm.seq hs) (fun i σ H' => (∃ x2 x3 x4, σ = vtS a l [x2, x3, x4]) ∧ Ln H l ((paperW (pp.take i)).map lnV) H') ⟨⟨_, _, _, rfl⟩, L1⟩ (fun i σ H' _ h => h.2.sm.seq hs) ?_ ?_
    · rintro i x σ H2 hx ⟨⟨x2, x3, x4, rfl⟩, L2⟩
      obtain ⟨cs, hcs, dcs⟩ := dp_at h0 hx
      have okc := ok.cs cs (List.mem_of_getElem? hcs)
      have hlen := ok.wlen i
      obtain ⟨b, xs, rfl, g1, g2⟩ := dp_lst dcs
      walk_at "rd"
      refine x_tyL L2.seq ?_
      walk_at "rd"
      refine x_append L2.at_ (sz_lt (by rw [List.length_map]; omega)) ?_
      have L3 := ln_push L2 (w := [("pause" : Str)]) rfl
      rw [show V.str "pause\n" = lnV [("pause" : Str)] from by decide +kernel]
      generalize upd H2 l _ = H3 at L3 ⊢
      walk_at "rd"
      refine forL (L3.sm.seq g1) (fun j σ H' => (∃ x3 x4, σ = vtS a l [some (.ref b), x3, x4]) ∧ Ln H l (((paperW (pp.take i) ++ [[("pause" : Str)]]) ++ (cs.take j).map movW).map lnV) H')
        ⟨⟨_, _, rfl⟩, by rw [List.take_zero, List.map_nil, List.append_nil]; exact L3⟩ (fun j σ H' _ h => h.2.sm.seq g1) ?_ ?_
      · rintro j x σ H4 hx ⟨⟨x3, x4, rfl⟩, L4⟩
        obtain ⟨m, hm, dm⟩ := dp_at g2 hx
        have okm := okc.2 m (List.mem_of_getElem? hm)
        obtain ⟨b2, rfl, g3⟩ := dp_mov dm
        refine x_gTup (vs := [intV m.1, V.str m.2]) (Same.sqT L4.sm g3) rfl ?_
        walk_at "rd"
        refine x_tyL L4.seq ?_
        walk_at "rd"
        refine x_strI (log_ok okm.1) ?_
        walk_at "rd"
        refine ⟨sz_lit (n := 1), fun p hp => ?_⟩
        walk_at "rd"
        refine ⟨numS m.1, p, _, rfl, .inl (SqL.of upd_same), Nat.le_trans (numS_len okm.1) (by decide), (by show 1 ≤ 1000; decide), ?_, fun H7 sm7 => ?_⟩
        · intro y hy
          rw [List.mem_singleton.mp hy]
          exact th_nm okm.2
        have L7 := (L4.ext (same_new hp)).ext sm7
        walk_at "rd"
        have hc5 := okc.1
        refine x_append L7.at_ (sz_lt ?_) ?_
        · simp only [List.length_map, List.length_append, List.length_cons, List.length_take, List.length_nil]
          omega
        refine ⟨⟨_, _, rfl⟩, ?_⟩
        exact ln_push L7 (w := movW m) (by rw [take_snoc hm, List.map_append, List.append_assoc]; rfl)
      · rintro σ H4 ⟨⟨x3, x4, rfl⟩, L4⟩
        refine ⟨⟨_, _, _, rfl⟩, ?_⟩
        have e : cs.take xs.length = cs := by rw [dpl_len g2, List.take_length]
        rw [e, List.append_assoc] at L4
        unfold paperW
        rw [flat_snoc hcs]
        exact L4
    · rintro σ H2 ⟨⟨x2, x3, x4, rfl⟩, L2⟩
      have e : pp.take vs.length = pp := by rw [dpl_len h0, List.take_length]
      have hlen := ok.wlen vs.length
      rw [e] at L2 hlen
      walk_at "rd"
      refine ⟨"", l, ((paperW pp).map lnS), rfl, rfl, .inl ?_, cat_size ok.tok (by omega), q _ L2.sm⟩
      rw [List.map_map]
      exact L2.seq
/-! ### lines as one text -/
def textS (ls : List Str) : Str := Txt.join "" (ls.map fun z : Str => z ++ ("\n" : Str))
theorem cat_text (ls : List (List Str)) : catS ls = textS (ls.map lineS) := by
  unfold catS textS
  rw [List.map_map]
  rfl
def sp_law_text (K : PySem.W.Frag) : Sp := fun vs H Q _ => ∃ (a : Addr) (ls : List Str), vs = [.ref a] ∧ SqL K H a (ls.map V.str) ∧ ls.length ≤ 500 ∧ (∀ z ∈ ls, z.length ≤ 2000) ∧ ∀ H', Same H H' → Q (.str (textS ls)) H'
def endF (v : V) : V := match v with
  | .str z => .str (z ++ "\n")
  | _ => .non
theorem sc_law_text : FnScope ["lines", "line"] ["lines"] (defScope s_law_text) := ⟨rfl, rfl, rfl, by decide +kernel, rfl, by decide +kernel, by decide +kernel⟩
theorem ok_law_text (T : Tx w K mg) : OkF P w K mg base CX0 1 "_law_text" ["lines"] (sp_law_text K) := by
  refine Tx.def0 T 35 rfl T.g_law_text sc_law_text (fun _ _ _ _ _ _ us hl => match us, hl with | [_], _ => rfl) (fun vs H Q E h => ?_) (fun f cdv A outer s H vs Q E hr h => ?_)
  · obtain ⟨a, ls, rfl, hs, hl, hw, q⟩ := h; rfl
  · obtain ⟨a, ls, rfl, hs, hl, hw, q⟩ := h
    refine ⟨_, (pss_one (ps_ret (pe_join pe_str (pe_lc (own := [("line", 1)]) rfl sc_law_text.nd (pi_list (pv 0)) (blkOk_by (own := [("line", 1)]) (N := ["lines", "line"]) (sc := (defScope s_law_text)) (by decide +kernel)) (fun _ _ _ _ _ => (pg_name (i := 1) sc_law_text.nd rfl (by first | exact Or.inl rfl | exact Or.inr rfl))) (fun _ _ _ _ _ => pts_nil) (fun _ _ _ _ _ => (pe_op op_addG (pv 1) pe_str)))))), ?_⟩
    walk_at "rd"
    refine lcP hs endF (by rw [List.length_map]; omega) (fun x H2 QQ hx sm qq => ?_) (fun p H' hp sm hp' => ?_)
    · obtain ⟨z, hz, rfl⟩ := List.mem_map.mp hx
      have := hw z hz
      walk_at "rd"
      refine ⟨rfl, ?_⟩
      walk_at "rd"
      exact a_addS (sz_le (by rw [show ("\n" : Str).length = 1 from rfl]; omega)) (qq _ (Same.refl _))
    · refine ⟨"", p, ls.map (fun z : Str => z ++ ("\n" : Str)), rfl, rfl, .inl ?_, ?_, q _ sm⟩
      · rw [List.map_map] at hp' ⊢
        exact SqL.of hp'
      · have h1 : ((ls.map fun z : Str => z ++ ("\n" : Str)).map (fun x : Str => x.length)).sum ≤ (ls.map fun z : Str => z ++ ("\n" : Str)).length * 2001 := sum_le fun y hy => by
          obtain ⟨z, hz, rfl⟩ := List.mem_map.mp hy
          have := hw z hz
          rw [Str.length_append, show ("\n" : Str).length = 1 from rfl]
          omega
        rw [List.length_map] at h1 ⊢
        rw [show ("" : Str).length = 0 from rfl]
        omega
/-! ### the law's own lines of a paper -/
def sp_law_paper_lines (K : PySem.W.Frag) : Sp := fun vs H Q _ => ∃ (a : Addr) (p : Paper), vs = [.ref a] ∧ Dp K H (.ref a) (paperD p) ∧ PaperOk p ∧ ∀ l H', H l = none → Same H H' → H' l = some (.lst (((paperW p).map lineS).map V.str)) → Q (.ref l) H'
theorem sc_law_paper_lines : FnScope ["paper", "lines", "couples", "cell", "room"] ["paper"] (defScope s_law_paper_lines) := ⟨rfl, rfl, rfl, by decide +kernel, rfl, by decide +kernel, by decide +kernel⟩
theorem ok_law_paper_lines (T : Tx w K mg) : OkF P w K mg base CX0 1 "_law_paper_lines" ["paper"] (sp_law_paper_lines K) := by
  refine Tx.def0 T 27 rfl T.g_law_paper_lines sc_law_paper_lines (fun _ _ _ _ _ _ us hl => match us, hl with | [_], _ => rfl) (fun vs H Q E h => ?_) (fun f cdv A outer s H vs Q E hr h => ?_)
  · obtain ⟨a, pp, rfl, hd, ok, q⟩ := h; rfl
  · obtain ⟨a, pp, rfl, hd, ok, q⟩ := h
    refine ⟨_, (pss_cons (ps_set (i := 1) sc_law_paper_lines.nd rfl (by first | exact Or.inl rfl | exact Or.inr rfl) (pe_lst pa_nil))
      (pss_cons (ps_for PassesOwn.never rfl (pi_list (pv 0)) (pg_name (i := 2) sc_law_paper_lines.nd rfl (by first | exact Or.inl rfl | exact Or.inr rfl))
        (pss_one (ps_set (i := 1) sc_law_paper_lines.nd rfl (by first | exact Or.inl rfl | exact Or.inr rfl) (pe_op op_addG (pe_op op_addG (pv 1) (pe_lst (pa_cons pe_str pa_nil))) (pe_lc (own := [("cell", 3), ("room", 4)]) rfl sc_law_paper_lines.nd (pi_list (pv 2)) (blkOk_by (own := [("cell", 3), ("room", 4)]) (N := ["paper", "lines", "couples", "cell", "room"]) (sc := (defScope s_law_paper_lines)) (by decide +kernel)) (fun _ _ _ _ _ => (pg_tupB (n := 2) rfl (pgs_cons (pg_name (i := 3) sc_law_paper_lines.nd rfl (by first | exact Or.inl rfl | exact Or.inr rfl)) (pgs_cons (pg_name (i := 4) sc_law_paper_lines.nd rfl (by first | exact Or.inl rfl | exact Or.inr rfl)) pgs_nil)))) (fun _ _ _ _ _ => pts_nil) (fun _ _ _ _ _ => (pe_op op_addG (pe_op op_addG (pe_callTy call_strG (by rfl) T.f_str (by decide +kernel) (pa_cons (pv 3) pa_nil)) pe_str) (pv 4))))))))
      (pss_one (ps_ret (pv 1))))), ?_⟩
    obtain ⟨a', vs, ea, hs, h0⟩ := dp_lst hd
    cases ea
    walk_at "rd"
    refine ⟨sz_lit (n := 0), fun l hl => ?_⟩
    have L1 : Ln H l ((([] : List (List Str)).map lineS).map V.str) (upd H l (.lst [])) := Ln.new hl
    generalize upd H l (.lst []) = H1 at L1 ⊢
    walk_at "rd"
    refine forL (L1.sm.seq hs) (fun i σ H' => ∃ l, (∃ x2 x3 x4, σ = vtS a l [x2, x3, x4]) ∧ Ln H l (((paperW (pp.take i)).map lineS).map V.str) H') ⟨l, ⟨_, _, _, rfl⟩, L1⟩ (fun i σ H' _ ⟨l, h⟩ => h.2.sm.seq hs) ?_ ?_
    · rintro i x σ H2 hx ⟨l2, ⟨x2, x3, x4, rfl⟩, L2⟩
      obtain ⟨cs, hcs, dcs⟩ := dp_at h0 hx
      have okc := ok.cs cs (List.mem_of_getElem? hcs)
      have hlen := ok.wlen i
      obtain ⟨b, xs, rfl, g1, g2⟩ := dp_lst dcs
      walk_at "rd"
      refine ⟨sz_lit (n := 1), fun p hp => ?_⟩
      have L3 := L2.ext (same_new (o := .lst [.str "pause"]) hp)
      have hp3 : (upd H2 p (.lst [.str "pause"])) p = some (.lst [.str "pause"]) := upd_same
      generalize upd H2 p (.lst [.str "pause"]) = H3 at L3 hp3 ⊢
      refine a_addL L3.at_ hp3 (sz_le (by rw [List.length_map, List.length_map]; show _ + 1 ≤ _; omega)) fun p2 hp2 => ?_
      have L4 : Ln H p2 (((paperW (pp.take i) ++ [[("pause" : Str)]]).map lineS).map V.str) (upd H3 p2 (.lst (((paperW (pp.take i)).map lineS).map V.str ++ [.str "pause"]))) := by
        refine ⟨L3.sm.trans (same_new hp2), ?_, L3.sm.free hp2⟩
        rw [upd_same, List.map_append, List.map_append]
        rfl
      generalize upd H3 p2 _ = H4 at L4 ⊢
      walk_at "rd"
      refine lcL (L4.sm.seq g1) (fun D j acc H' => Same H4 H' ∧ H' D = some (.lst (((cs.take j).map fun m => V.str (lineS (movW m)))))) (fun D hD => ⟨same_new hD, upd_same⟩) (fun D j acc H' hD h => h.1.seq (L4.sm.seq g1)) (fun D j x acc H5 hD hx h => ?_) (fun D acc H5 hD h => ?_)
      · obtain ⟨sm5, hd5⟩ := h
        obtain ⟨m, hm, dm⟩ := dp_at g2 hx
        have okm := okc.2 m (List.mem_of_getElem? hm)
        obtain ⟨b2, rfl, g3⟩ := dp_mov dm
        have n1 := nm_len okm.2
        have n2 := numS_len okm.1
        refine x_gTup (vs := [intV m.1, V.str m.2]) (Same.sqT sm5 (Same.sqT L4.sm g3)) rfl ?_
        walk_at "rd"
        refine ⟨rfl, ?_⟩
        walk_at "rd"
        refine iteT ?_
        walk_at "rd"
        refine x_strI (log_ok okm.1) ?_
        walk_at "rd"
        refine a_addS (a := numS m.1) (sz_le (by rw [show (" " : Str).length = 1 from rfl]; omega)) ?_
        walk_at "rd"
        refine a_addS (sz_le (by rw [Str.length_append, show (" " : Str).length = 1 from rfl]; omega)) ?_
        refine ⟨_, hd5, sz_lt (by have := okc.1; rw [List.length_map, List.length_take]; omega), (cs.take (j + 1)).map fun m => V.str (lineS (movW m)), ?_, ?_⟩
        · intro b o e
          rw [upd_ne (ne_of_none e hD)]
          exact sm5 _ _ e
        · rw [upd_same, take_snoc hm, List.map_append, lineS_mov]
          rfl
      · obtain ⟨sm5, hd5⟩ := h
        have e : cs.take xs.length = cs := by rw [dpl_len g2, List.take_length]
        rw [e] at hd5
        have L5 := L4.ext sm5
        refine a_addL L5.at_ hd5 (sz_le (by have := okc.1; simp only [List.length_map, List.length_append, List.length_cons, List.length_nil]; omega)) fun p3 hp3 => ?_
        walk_at "rd"
        refine ⟨p3, ⟨_, _, _, rfl⟩, L5.sm.trans (same_new hp3), ?_, L5.sm.free hp3⟩
        rw [upd_same]
        unfold paperW
        rw [flat_snoc hcs, List.map_append, List.map_append, List.map_append, List.map_append]
        unfold coupW
        simp only [List.map_cons, List.map_map, List.append_assoc, List.map_nil, List.cons_append, List.nil_append]
        rfl
    · rintro σ H2 ⟨l2, ⟨x2, x3, x4, rfl⟩, L2⟩
      have e : pp.take vs.length = pp := by rw [dpl_len h0, List.take_length]
      rw [e] at L2
      walk_at "rd"
      exact q _ _ L2.fr L2.sm L2.at_
end
end K97


set_option maxRecDepth 100000
set_option maxHeartbeats 4000000
namespace K97
open PySem PySem.Spec PyProof.Rows L2 TL NB
local macro_rules | `(tactic| walk_at "rd") => `(tactic| repeat (first
  | (with_reducible refine x_seq ?_) | (with_reducible refine x_asg ?_) | (with_reducible refine x_gName ?_) | (with_reducible refine x_ret ?_) | (with_reducible refine x_drop ?_) | (with_reducible refine x_ifS ?_)
  | (with_reducible refine x_op ?_) | (with_reducible refine x_c ?_) | ((with_reducible refine' x_var ?k1 ?_); (case k1 => with_unfolding_all rfl)) | (with_reducible refine x_cb ?_) | (with_reducible refine x_call0 ?_) | (with_reducible refine x_cons ?_) | (with_reducible refine x_nil ?_)
  | (with_reducible refine x_test ?_) | (with_reducible refine x_B ?_) | (with_reducible refine x_bl ?_) | (with_reducible refine x_and ?_) | (with_reducible refine x_or ?_) | (with_reducible refine x_not ?_)
  | (with_reducible refine x_andV ?_) | (with_reducible refine x_orV ?_) | (with_reducible refine x_notV ?_) | (with_reducible refine x_if ?_) | (with_reducible refine x_isN ?_) | (with_reducible refine x_notN ?_)
  | (with_reducible refine x_tup ?_) | (with_reducible refine x_lst ?_) | (with_reducible refine x_sl ?_) | (with_reducible refine x_noPart ?_) | (with_reducible refine x_part ?_) | (with_reducible refine x_int ?_)
  | (with_reducible refine x_bm ?_) | (with_reducible refine x_m1 ?_) | (with_reducible refine x_tyS ?_) | (with_reducible refine x_gNil ?_) | (with_reducible refine x_gCons ?_) | (with_reducible refine x_gSub ?_) | (with_reducible refine x_next ?_) | (with_reducible refine x_brk ?_)
  | (with_reducible refine x_slStep ?_) | (with_reducible refine x_lc ?_) | (with_reducible refine x_for ?_) | (with_reducible refine x_iL ?_) | (with_reducible refine x_iR1 ?_) | (with_reducible refine x_iR3 ?_) | (with_reducible refine x_iS ?_) | (with_reducible refine x_ref ?_) | (with_reducible refine x_yes ?_)
  | (with_reducible refine a_addI ?_) | (with_reducible refine x_I0 ?_) | (with_reducible refine a_eq rfl ?_) | (with_reducible refine a_ne rfl ?_) | (with_reducible refine a_inS ?_) | (with_reducible refine a_ninS ?_) | (with_reducible refine x_strS ?_) | (with_reducible refine x_intI ?_) | (with_reducible refine x_iB ?_) | (with_reducible refine x_iT ?_)))

section
variable {P : Program} {w : World} {K : PySem.W.Frag} {mg : Str → Option Value} {base : Heap}
/-! ### the law's own lines of a view -/
def liV (ws : List Str) : V := .str (lineS ws)
theorem ln_pushV {H0 H : Hp} {l : Addr} {ls ls' : List (List Str)} {w : List Str} (h : Ln H0 l (ls.map liV) H) (e : ls ++ [w] = ls') : Ln H0 l (ls'.map liV) (upd H l (.lst (ls.map liV ++ [liV w]))) := by
  subst e
  rw [List.map_append]
  exact h.put
theorem strs_num {ns : List Nat} : (ns.map intV).map (fun v => V.str (thS v)) = (ns.map numS).map V.str := by
  rw [List.map_map, List.map_map]
  rfl
theorem join_size {ws : List Str} {b : Nat} (hb : ∀ z ∈ ws, z.length ≤ b) (hl : ws.length * b + ws.length ≤ 16777216) : (ws.map (fun x : Str => x.length)).sum + ws.length * (" " : Str).length ≤ 16777216 := by
  have h1 : (ws.map (fun x : Str => x.length)).sum ≤ ws.length * b := sum_le hb
  rw [show (" " : Str).length = 1 from rfl]
  omega
def sp_law_view_lines (K : PySem.W.Frag) : Sp := fun vs H Q _ => ∃ (a : Addr) (rows : List RowT), vs = [.ref a] ∧ DpL K H (.ref a) (.list (rows.map RowT.dat)) ∧ rows.length ≤ 10 ∧ (∀ r ∈ rows, r.Ok) ∧
  ∀ l H', H l = none → Same H H' → H' l = some (.lst ((rows.flatMap RowT.words).map liV)) → Q (.ref l) H'
theorem line_went {n : Nat} {c : Str} : (("went " : Str) ++ numS n ++ " " ++ c) = lineS [("went" : Str), numS n, c] := by
  refine ext_tl ?_
  rw [lineS_tl, tl_append, tl_append, tl_append]
  show tl ("went " : Str) ++ tl (numS n) ++ tl (" " : Str) ++ tl c = tl ("went" : Str) ++ ([32] ++ (tl (numS n) ++ ([32] ++ tl c)))
  rw [show tl ("went " : Str) = tl ("went" : Str) ++ [32] from rfl, show tl (" " : Str) = [32] from rfl]
  simp only [List.append_assoc]
theorem line_heard {n : Nat} : (("heard " : Str) ++ numS n) = lineS [("heard" : Str), numS n] := by
  refine ext_tl ?_
  rw [lineS_tl, tl_append]
  show tl ("heard " : Str) ++ tl (numS n) = tl ("heard" : Str) ++ ([32] ++ tl (numS n))
  rw [show tl ("heard " : Str) = tl ("heard" : Str) ++ [32] from rfl]
  simp only [List.append_assoc]
theorem sc_law_view_lines : FnScope ["view", "lines", "row", "room", "cells", "homes", "cell", "fields", "weak", "last", "u", "hall", "x", "y"] ["view"] (defScope s_law_view_lines) := ⟨rfl, rfl, rfl, by decide +kernel, rfl, by decide +kernel, by decide +kernel⟩
theorem ok_law_view_lines (T : Tx w K mg) : OkF P w K mg base CX0 1 "_law_view_lines" ["view"] (sp_law_view_lines K) := by
  refine Tx.def0 T 26 rfl T.g_law_view_lines sc_law_view_lines (fun _ _ _ _ _ _ us hl => match us, hl with | [_], _ => rfl) (fun vs H Q E h => ?_) (fun f cdv A outer s H vs Q E hr h => ?_)
  · obtain ⟨a, rows, rfl, hdl, hl, ok, q⟩ := h; rfl
  · obtain ⟨a, rows, rfl, hdl, hl, ok, q⟩ := h
    refine ⟨_, (pss_cons (ps_set (i := 1) sc_law_view_lines.nd rfl (by first | exact Or.inl rfl | exact Or.inr rfl) (pe_lst pa_nil))
      (pss_cons (ps_for PassesOwn.never rfl (pi_list (pv 0)) (pg_name (i := 2) sc_law_view_lines.nd rfl (by first | exact Or.inl rfl | exact Or.inr rfl))
        (pss_one (ps_if (pt_cmpR (op_eqG hr.units) (pe_ix ix_seq (pv 2) pe_int (fun _ _ => rfl)) pe_str (nomark _))
          (pss_cons (ps_expr (pe_bm PySem.F.plainAttrs_list PySem.F.slot_list_append PySem.F.type_list_append mt_append (pv 1) (pa_cons (pe_join pe_str (pe_op op_addG (pe_lst (pa_cons pe_str pa_nil)) (pe_ix ix_seq (pv 2) pe_int (fun _ _ => rfl)))) pa_nil)))
          (pss_cons (ps_for PassesOwn.never rfl (pi_list (pe_ix ix_seq (pv 2) pe_int (fun _ _ => rfl))) (pg_tup rfl (pgs_cons (pg_name (i := 3) sc_law_view_lines.nd rfl (by first | exact Or.inl rfl | exact Or.inr rfl)) (pgs_cons (pg_name (i := 4) sc_law_view_lines.nd rfl (by first | exact Or.inl rfl | exact Or.inr rfl)) (pgs_cons (pg_name (i := 5) sc_law_view_lines.nd rfl (by first | exact Or.inl rfl | exact Or.inr rfl)) pgs_nil))))
            (pss_cons (ps_expr (pe_bm PySem.F.plainAttrs_list PySem.F.slot_list_append PySem.F.type_list_append mt_append (pv 1) (pa_cons (pe_join pe_str (pe_op op_addG (pe_lst (pa_cons pe_str (pa_cons (pv 3) pa_nil))) (pe_lc (own := [("cell", 6)]) rfl sc_law_view_lines.nd (pi_list (pv 4)) (blkOk_by (own := [("cell", 6)]) (N := ["view", "lines", "row", "room", "cells", "homes", "cell", "fields", "weak", "last", "u", "hall", "x", "y"]) (sc := (defScope s_law_view_lines)) (by decide +kernel)) (fun _ _ _ _ _ => (pg_name (i := 6) sc_law_view_lines.nd rfl (by first | exact Or.inl rfl | exact Or.inr rfl))) (fun _ _ _ _ _ => pts_nil) (fun _ _ _ _ _ => (pe_callTy call_strG (by rfl) T.f_str (by decide +kernel) (pa_cons (pv 6) pa_nil)))))) pa_nil)))
            (pss_one (ps_for PassesOwn.never rfl (pi_list (pv 5)) (pg_tup rfl (pgs_cons (pg_name (i := 6) sc_law_view_lines.nd rfl (by first | exact Or.inl rfl | exact Or.inr rfl)) (pgs_cons (pg_name (i := 7) sc_law_view_lines.nd rfl (by first | exact Or.inl rfl | exact Or.inr rfl)) pgs_nil)))
              (pss_one (ps_expr (pe_bm PySem.F.plainAttrs_list PySem.F.slot_list_append PySem.F.type_list_append mt_append (pv 1) (pa_cons (pe_join pe_str (pe_op op_addG (pe_lst (pa_cons pe_str (pa_cons (pe_callTy call_strG (by rfl) T.f_str (by decide +kernel) (pa_cons (pv 6) pa_nil)) pa_nil))) (pe_lc (own := [("u", 10)]) rfl sc_law_view_lines.nd (pi_tup (pv 7)) (blkOk_by (own := [("u", 10)]) (N := ["view", "lines", "row", "room", "cells", "homes", "cell", "fields", "weak", "last", "u", "hall", "x", "y"]) (sc := (defScope s_law_view_lines)) (by decide +kernel)) (fun _ _ _ _ _ => (pg_name (i := 10) sc_law_view_lines.nd rfl (by first | exact Or.inl rfl | exact Or.inr rfl))) (fun _ _ _ _ _ => pts_nil) (fun _ _ _ _ _ => (pe_callTy call_strG (by rfl) T.f_str (by decide +kernel) (pa_cons (pv 10) pa_nil)))))) pa_nil))))))))
          (pss_cons (ps_expr (pe_bm PySem.F.plainAttrs_list PySem.F.slot_list_append PySem.F.type_list_append mt_append (pv 1) (pa_cons (pe_join pe_str (pe_op op_addG (pe_lst (pa_cons pe_str pa_nil)) (pe_lc (own := [("cell", 6)]) rfl sc_law_view_lines.nd (pi_list (pe_ix ix_seq (pv 2) pe_int (fun _ _ => rfl))) (blkOk_by (own := [("cell", 6)]) (N := ["view", "lines", "row", "room", "cells", "homes", "cell", "fields", "weak", "last", "u", "hall", "x", "y"]) (sc := (defScope s_law_view_lines)) (by decide +kernel)) (fun _ _ _ _ _ => (pg_name (i := 6) sc_law_view_lines.nd rfl (by first | exact Or.inl rfl | exact Or.inr rfl))) (fun _ _ _ _ _ => pts_nil) (fun _ _ _ _ _ => (pe_callTy call_strG (by rfl) T.f_str (by decide +kernel) (pa_cons (pv 6) pa_nil)))))) pa_nil)))
          (pss_cons (ps_expr (pe_bm PySem.F.plainAttrs_list PySem.F.slot_list_append PySem.F.type_list_append mt_append (pv 1) (pa_cons (pe_join pe_str (pe_op op_addG (pe_lst (pa_cons pe_str pa_nil)) (pe_lc (own := [("cell", 6)]) rfl sc_law_view_lines.nd (pi_list (pe_ix ix_seq (pv 2) pe_int (fun _ _ => rfl))) (blkOk_by (own := [("cell", 6)]) (N := ["view", "lines", "row", "room", "cells", "homes", "cell", "fields", "weak", "last", "u", "hall", "x", "y"]) (sc := (defScope s_law_view_lines)) (by decide +kernel)) (fun _ _ _ _ _ => (pg_name (i := 6) sc_law_view_lines.nd rfl (by first | exact Or.inl rfl | exact Or.inr rfl))) (fun _ _ _ _ _ => pts_nil) (fun _ _ _ _ _ => (pe_callTy call_strG (by rfl) T.f_str (by decide +kernel) (pa_cons (pv 6) pa_nil)))))) pa_nil)))
          (pss_cons (ps_expr (pe_bm PySem.F.plainAttrs_list PySem.F.slot_list_append PySem.F.type_list_append mt_append (pv 1) (pa_cons (pe_join pe_str (pe_op op_addG (pe_lst (pa_cons pe_str pa_nil)) (pe_lc (own := [("cell", 6), ("hall", 11)]) rfl sc_law_view_lines.nd (pi_list (pe_ix ix_seq (pv 2) pe_int (fun _ _ => rfl))) (blkOk_by (own := [("cell", 6), ("hall", 11)]) (N := ["view", "lines", "row", "room", "cells", "homes", "cell", "fields", "weak", "last", "u", "hall", "x", "y"]) (sc := (defScope s_law_view_lines)) (by decide +kernel)) (fun _ _ _ _ _ => (pg_tupB (n := 2) rfl (pgs_cons (pg_name (i := 6) sc_law_view_lines.nd rfl (by first | exact Or.inl rfl | exact Or.inr rfl)) (pgs_cons (pg_name (i := 11) sc_law_view_lines.nd rfl (by first | exact Or.inl rfl | exact Or.inr rfl)) pgs_nil)))) (fun _ _ _ _ _ => pts_nil) (fun _ _ _ _ _ => (pe_op op_addG (pe_op op_addG (pe_callTy call_strG (by rfl) T.f_str (by decide +kernel) (pa_cons (pv 6) pa_nil)) pe_str) (pv 11)))))) pa_nil)))
          (pss_cons (ps_expr (pe_bm PySem.F.plainAttrs_list PySem.F.slot_list_append PySem.F.type_list_append mt_append (pv 1) (pa_cons (pe_join pe_str (pe_op op_addG (pe_lst (pa_cons pe_str pa_nil)) (pe_ix ix_seq (pv 2) pe_int (fun _ _ => rfl)))) pa_nil)))
          (pss_one (ps_expr (pe_bm PySem.F.plainAttrs_list PySem.F.slot_list_append PySem.F.type_list_append mt_append (pv 1) (pa_cons (pe_ifExp (pt_cmp (pc_isN (pe_ix ix_seq (pv 2) pe_int (fun _ _ => rfl))) (by rfl)) pe_str (pe_join pe_str (pe_op op_addG (pe_lst (pa_cons pe_str pa_nil)) (pe_lc (own := [("x", 12), ("y", 13)]) rfl sc_law_view_lines.nd (pi_list (pe_ix ix_seq (pv 2) pe_int (fun _ _ => rfl))) (blkOk_by (own := [("x", 12), ("y", 13)]) (N := ["view", "lines", "row", "room", "cells", "homes", "cell", "fields", "weak", "last", "u", "hall", "x", "y"]) (sc := (defScope s_law_view_lines)) (by decide +kernel)) (fun _ _ _ _ _ => (pg_tupB (n := 2) rfl (pgs_cons (pg_name (i := 12) sc_law_view_lines.nd rfl (by first | exact Or.inl rfl | exact Or.inr rfl)) (pgs_cons (pg_name (i := 13) sc_law_view_lines.nd rfl (by first | exact Or.inl rfl | exact Or.inr rfl)) pgs_nil)))) (fun _ _ _ _ _ => pts_nil) (fun _ _ _ _ _ => (pe_op op_addG (pe_op op_addG (pv 12) pe_str) (pv 13))))))) pa_nil))))))))))
          (pss_one (ps_if (pt_cmpR (op_eqG hr.units) (pe_ix ix_seq (pv 2) pe_int (fun _ _ => rfl)) pe_str (nomark _))
            (pss_one (ps_expr (pe_bm PySem.F.plainAttrs_list PySem.F.slot_list_append PySem.F.type_list_append mt_append (pv 1) (pa_cons (pe_join pe_str (pe_lst (pa_cons pe_str (pa_cons (pe_callTy call_strG (by rfl) T.f_str (by decide +kernel) (pa_cons (pe_ix ix_seq (pv 2) pe_int (fun _ _ => rfl)) pa_nil)) (pa_cons (pe_ix ix_seq (pv 2) pe_int (fun _ _ => rfl)) (pa_cons (pe_ix ix_seq (pv 2) pe_int (fun _ _ => rfl)) (pa_cons (pe_callTy call_strG (by rfl) T.f_str (by decide +kernel) (pa_cons (pe_ix ix_seq (pv 2) pe_int (fun _ _ => rfl)) pa_nil)) (pa_cons (pe_ifExp (pt_val (pe_ix ix_seq (pv 2) pe_int (fun _ _ => rfl))) pe_str pe_str) pa_nil)))))))) pa_nil))))
            (pss_one (ps_if (pt_cmpR (op_eqG hr.units) (pe_ix ix_seq (pv 2) pe_int (fun _ _ => rfl)) pe_str (nomark _))
              (pss_one (ps_expr (pe_bm PySem.F.plainAttrs_list PySem.F.slot_list_append PySem.F.type_list_append mt_append (pv 1) (pa_cons (pe_op op_addG pe_str (pe_callTy call_strG (by rfl) T.f_str (by decide +kernel) (pa_cons (pe_ix ix_seq (pv 2) pe_int (fun _ _ => rfl)) pa_nil))) pa_nil))))
              (pss_one (ps_if (pt_cmpR (op_eqG hr.units) (pe_ix ix_seq (pv 2) pe_int (fun _ _ => rfl)) pe_str (nomark _))
                (pss_one (ps_expr (pe_bm PySem.F.plainAttrs_list PySem.F.slot_list_append PySem.F.type_list_append mt_append (pv 1) (pa_cons (pe_op op_addG (pe_op op_addG (pe_op op_addG pe_str (pe_callTy call_strG (by rfl) T.f_str (by decide +kernel) (pa_cons (pe_ix ix_seq (pv 2) pe_int (fun _ _ => rfl)) pa_nil))) pe_str) (pe_ix ix_seq (pv 2) pe_int (fun _ _ => rfl))) pa_nil))))
                (pss_cons (ps_expr (pe_bm PySem.F.plainAttrs_list PySem.F.slot_list_append PySem.F.type_list_append mt_append (pv 1) (pa_cons (pe_join pe_str (pe_op op_addG (pe_lst (pa_cons (pe_ix ix_seq (pv 2) pe_int (fun _ _ => rfl)) (pa_cons (pe_ix ix_seq (pv 2) pe_int (fun _ _ => rfl)) pa_nil))) (pe_lc (own := [("cell", 6)]) rfl sc_law_view_lines.nd (pi_list (pe_ix ix_seq (pv 2) pe_int (fun _ _ => rfl))) (blkOk_by (own := [("cell", 6)]) (N := ["view", "lines", "row", "room", "cells", "homes", "cell", "fields", "weak", "last", "u", "hall", "x", "y"]) (sc := (defScope s_law_view_lines)) (by decide +kernel)) (fun _ _ _ _ _ => (pg_name (i := 6) sc_law_view_lines.nd rfl (by first | exact Or.inl rfl | exact Or.inr rfl))) (fun _ _ _ _ _ => pts_nil) (fun _ _ _ _ _ => (pe_callTy call_strG (by rfl) T.f_str (by decide +kernel) (pa_cons (pv 6) pa_nil)))))) pa_nil)))
                (pss_one (ps_for PassesOwn.never rfl (pi_list (pe_ifExp (pt_cmpR (op_eqG hr.units) (pe_ix ix_seq (pv 2) pe_int (fun _ _ => rfl)) pe_str (nomark _)) (pe_ix ix_seq (pv 2) pe_int (fun _ _ => rfl)) (pe_lst pa_nil))) (pg_tup rfl (pgs_cons (pg_name (i := 6) sc_law_view_lines.nd rfl (by first | exact Or.inl rfl | exact Or.inr rfl)) (pgs_cons (pg_name (i := 7) sc_law_view_lines.nd rfl (by first | exact Or.inl rfl | exact Or.inr rfl)) (pgs_cons (pg_name (i := 8) sc_law_view_lines.nd rfl (by first | exact Or.inl rfl | exact Or.inr rfl)) (pgs_cons (pg_name (i := 9) sc_law_view_lines.nd rfl (by first | exact Or.inl rfl | exact Or.inr rfl)) pgs_nil)))))
                  (pss_one (ps_expr (pe_bm PySem.F.plainAttrs_list PySem.F.slot_list_append PySem.F.type_list_append mt_append (pv 1) (pa_cons (pe_join pe_str (pe_op op_addG (pe_op op_addG (pe_lst (pa_cons pe_str (pa_cons (pe_callTy call_strG (by rfl) T.f_str (by decide +kernel) (pa_cons (pv 6) pa_nil)) pa_nil))) (pe_lc (own := [("u", 10)]) rfl sc_law_view_lines.nd (pi_tup (pv 7)) (blkOk_by (own := [("u", 10)]) (N := ["view", "lines", "row", "room", "cells", "homes", "cell", "fields", "weak", "last", "u", "hall", "x", "y"]) (sc := (defScope s_law_view_lines)) (by decide +kernel)) (fun _ _ _ _ _ => (pg_name (i := 10) sc_law_view_lines.nd rfl (by first | exact Or.inl rfl | exact Or.inr rfl))) (fun _ _ _ _ _ => pts_nil) (fun _ _ _ _ _ => (pe_callTy call_strG (by rfl) T.f_str (by decide +kernel) (pa_cons (pv 10) pa_nil))))) (pe_lst (pa_cons (pe_callTy call_strG (by rfl) T.f_str (by decide +kernel) (pa_cons (pv 8) pa_nil)) (pa_cons (pe_ifExp (pt_val (pv 9)) pe_str pe_str) pa_nil))))) pa_nil))))))))))))))))
      (pss_one (ps_ret (pv 1))))), ?_⟩
    obtain ⟨a', vs, ea, hsl, h0l⟩ := dpL_lst hdl
    cases ea
    have hs : SqL K H a vs := SqL.of hsl
    have h0 := h0l.dp
    walk_at "rd"
    refine ⟨sz_lit (n := 0), fun l hl => ?_⟩
    have L1 : Ln H l (([] : List (List Str)).map liV) (upd H l (.lst [])) := Ln.new hl
    generalize upd H l (.lst []) = H1 at L1 ⊢
    walk_at "rd"
    refine forL (L1.sm.seq hs) (fun i σ H' => (∃ x2 x3 x4 x5 x6 x7 x8 x9, σ = vtS a l [x2, x3, x4, x5, x6, x7, x8, x9, none, none, none, none]) ∧ Ln H l (((rows.take i).flatMap RowT.words).map liV) H') ⟨⟨_, _, _, _, _, _, _, _, rfl⟩, L1⟩ (fun i σ H' _ h => h.2.sm.seq hs) ?_ ?_
    · rintro i x σ H2 hx ⟨⟨x2, x3, x4, x5, x6, x7, x8, x9, rfl⟩, L2⟩
      obtain ⟨r, hr', drl⟩ := dpL_at h0l hx
      have dr := drl.dp
      have okr := ok r (List.mem_of_getElem? hr')
      have hlen : ((rows.take i).flatMap RowT.words).length ≤ 400 := by
        refine Nat.le_trans (flat_len (b := 40) fun s hs => words_len (ok s (List.mem_of_mem_take hs))) ?_
        rw [List.length_take]; omega
      have hw := words_len okr
      have htok := words_tok okr
      walk_at "rd"
      cases r with
      | made n c b m f =>
        obtain ⟨a1, xs, rfl, h1, h0⟩ := dp_tup dr
        obtain ⟨v0, xs, rfl, d0, h0⟩ := dp_cons h0
        obtain ⟨v1, xs, rfl, d1, h0⟩ := dp_cons h0
        obtain ⟨v2, xs, rfl, d2, h0⟩ := dp_cons h0
        obtain ⟨v3, xs, rfl, d3, h0⟩ := dp_cons h0
        obtain ⟨v4, xs, rfl, d4, h0⟩ := dp_cons h0
        obtain ⟨v5, xs, rfl, d5, h0⟩ := dp_cons h0
        have h0 := dp_nil h0
        subst h0
        rw [dp_str d0, dp_int d1, dp_str d2, dp_str d3, dp_int d4, dp_bl d5] at h1
        clear d0 d1 d2 d3 d4 d5
        have h1 := Same.sqT L2.sm h1
        refine a_ixT h1 (atI_nat (j := 0) rfl) ?_
        walk_at "rd"
        refine iteF ?_
        walk_at "rd"
        refine a_ixT h1 (atI_nat (j := 0) rfl) ?_
        walk_at "rd"
        refine iteT ?_
        walk_at "rd"
        refine x_tyL L2.seq ?_
        walk_at "rd"
        refine a_ixT h1 (atI_nat (j := 1) rfl) ?_
        walk_at "rd"
        refine x_strI (log_ok okr.1) ?_
        walk_at "rd"
        refine a_ixT h1 (atI_nat (j := 2) rfl) ?_
        walk_at "rd"
        refine a_ixT h1 (atI_nat (j := 3) rfl) ?_
        walk_at "rd"
        refine a_ixT h1 (atI_nat (j := 4) rfl) ?_
        walk_at "rd"
        refine x_strI (log_ok okr.2.2.2) ?_
        walk_at "rd"
        refine a_ixT h1 (atI_nat (j := 5) rfl) ?_
        walk_at "rd"
        have hz : ∀ z ∈ [("made" : Str), numS n, c, b, numS m, b01S f], z.length ≤ 16 := fun z hz => ((htok _ (List.mem_singleton.mpr rfl)).tok z hz).1
        cases f
        all_goals first | refine iteT ?_ | refine iteF ?_
        all_goals
          walk_at "rd"
          refine ⟨sz_lit (n := 6), fun p hp => ?_⟩
          refine ⟨" ", p, [("made" : Str), numS n, c, b, numS m, b01S _], rfl, rfl, .inl (SqL.of upd_same), join_size hz (by show 6 * 16 + 6 ≤ _; decide), ?_⟩
          walk_at "rd"
          refine x_append (L2.ext (same_new hp)).at_ (sz_lt (by rw [List.length_map]; omega)) ?_
          refine ⟨⟨_, _, _, _, _, _, _, _, rfl⟩, ?_⟩
          refine ln_pushV (L2.ext (same_new hp)) ?_
          rw [flat_snoc hr']
          rfl
      | went n c =>
        obtain ⟨a1, xs, rfl, h1, h0⟩ := dp_tup dr
        obtain ⟨v0, xs, rfl, d0, h0⟩ := dp_cons h0
        obtain ⟨v1, xs, rfl, d1, h0⟩ := dp_cons h0
        obtain ⟨v2, xs, rfl, d2, h0⟩ := dp_cons h0
        have h0 := dp_nil h0
        subst h0
        rw [dp_str d0, dp_int d1, dp_str d2] at h1
        have dr1 := h1
        have h1 := Same.sqT L2.sm h1
        refine a_ixT h1 (atI_nat (j := 0) rfl) ?_
        walk_at "rd"
        refine iteF ?_
        walk_at "rd"
        refine a_ixT h1 (atI_nat (j := 0) rfl) ?_
        walk_at "rd"
        refine iteF ?_
        walk_at "rd"
        refine a_ixT h1 (atI_nat (j := 0) rfl) ?_
        walk_at "rd"
        refine iteF ?_
        walk_at "rd"
        refine a_ixT h1 (atI_nat (j := 0) rfl) ?_
        walk_at "rd"
        refine iteT ?_
        walk_at "rd"
        refine x_tyL L2.seq ?_
        walk_at "rd"
        refine a_ixT h1 (atI_nat (j := 1) rfl) ?_
        walk_at "rd"
        refine x_strI (log_ok okr.1) ?_
        walk_at "rd"
        have n1 := numS_len okr.1
        have n2 := nm_len okr.2
        refine a_addS (b := numS n) (sz_le (by rw [show ("went " : Str).length = 5 from rfl]; omega)) ?_
        walk_at "rd"
        refine a_addS (sz_le (by rw [Str.length_append, show ("went " : Str).length = 5 from rfl, show (" " : Str).length = 1 from rfl]; omega)) ?_
        walk_at "rd"
        refine a_ixT h1 (atI_nat (j := 2) rfl) ?_
        refine a_addS (sz_le (by rw [Str.length_append, Str.length_append, show ("went " : Str).length = 5 from rfl, show (" " : Str).length = 1 from rfl]; omega)) ?_
        walk_at "rd"
        refine x_append L2.at_ (sz_lt (by rw [List.length_map]; omega)) ?_
        refine ⟨⟨_, _, _, _, _, _, _, _, rfl⟩, ?_⟩
        rw [line_went]
        refine ln_pushV L2 (w := [("went" : Str), numS n, c]) ?_
        rw [flat_snoc hr']
        rfl
      | heard n =>
        obtain ⟨a1, xs, rfl, h1, h0⟩ := dp_tup dr
        obtain ⟨v0, xs, rfl, d0, h0⟩ := dp_cons h0
        obtain ⟨v1, xs, rfl, d1, h0⟩ := dp_cons h0
        have h0 := dp_nil h0
        subst h0
        rw [dp_str d0, dp_int d1] at h1
        have dr1 := h1
        have h1 := Same.sqT L2.sm h1
        refine a_ixT h1 (atI_nat (j := 0) rfl) ?_
        walk_at "rd"
        refine iteF ?_
        walk_at "rd"
        refine a_ixT h1 (atI_nat (j := 0) rfl) ?_
        walk_at "rd"
        refine iteF ?_
        walk_at "rd"
        refine a_ixT h1 (atI_nat (j := 0) rfl) ?_
        walk_at "rd"
        refine iteT ?_
        walk_at "rd"
        refine x_tyL L2.seq ?_
        walk_at "rd"
        refine a_ixT h1 (atI_nat (j := 1) rfl) ?_
        walk_at "rd"
        refine x_strI (log_ok okr) ?_
        walk_at "rd"
        have n1 := numS_len okr
        refine a_addS (b := numS n) (sz_le (by rw [show ("heard " : Str).length = 6 from rfl]; omega)) ?_
        walk_at "rd"
        refine x_append L2.at_ (sz_lt (by rw [List.length_map]; omega)) ?_
        refine ⟨⟨_, _, _, _, _, _, _, _, rfl⟩, ?_⟩
        rw [line_heard]
        refine ln_pushV L2 (w := [("heard" : Str), numS n]) ?_
        rw [flat_snoc hr']
        rfl
      | pause rooms shown gone called moved sealed told =>
        have okp : PauseOk rooms shown gone called moved sealed told := okr
        have ok1 := okp.rooms.1
        have ok2 := okp.shown.1
        have ok3 := okp.gone.1
        have ok4 := okp.called.1
        have ok5 := okp.moved.1
        have ok6 := okp.sealed.1
        obtain ⟨a1, xs, ea1, h1, hl0⟩ := dpL_tup drl
        cases ea1
        obtain ⟨v0, xs, rfl, dl0, hl0⟩ := dpL_cons hl0
        obtain ⟨v1, xs, rfl, dl1, hl0⟩ := dpL_cons hl0
        obtain ⟨v2, xs, rfl, dl2, hl0⟩ := dpL_cons hl0
        obtain ⟨v3, xs, rfl, dl3, hl0⟩ := dpL_cons hl0
        obtain ⟨v4, xs, rfl, dl4, hl0⟩ := dpL_cons hl0
        obtain ⟨v5, xs, rfl, dl5, hl0⟩ := dpL_cons hl0
        obtain ⟨v6, xs, rfl, dl6, hl0⟩ := dpL_cons hl0
        obtain ⟨v7, xs, rfl, dl7, hl0⟩ := dpL_cons hl0
        have hl0 := dp_nil hl0.dp
        subst hl0
        obtain ⟨b1, xs, rfl, g1, z1⟩ := dpL_lst dl1
        rw [strs_of_dp z1.dp] at g1
        obtain ⟨b2, cs2, rfl, g2, z2⟩ := dp_lst dl2.dp
        obtain ⟨b3, xs, rfl, g3, z3⟩ := dp_lst dl3.dp
        rw [dp_nums z3] at g3
        obtain ⟨b4, xs, rfl, g4, z4⟩ := dp_lst dl4.dp
        rw [dp_nums z4] at g4
        obtain ⟨b5, cs5, rfl, g5, z5⟩ := dp_lst dl5.dp
        obtain ⟨b6, xs, rfl, g6, z6⟩ := dpL_lst dl6
        rw [strs_of_dp z6.dp] at g6
        rw [dp_str dl0.dp] at h1
        have dr1 : SqT K H a1 [V.str "pause", .ref b1, .ref b2, .ref b3, .ref b4, .ref b5, .ref b6, v7] := SqT.of h1
        have h1 := Same.sqT L2.sm dr1
        clear hl0 dl0 dl1 dl2 dl3 dl4 dl5 dl6
        have htk : ∀ ws ∈ shown.flatMap Seen.words ++ ([("gone" : Str) :: gone.map numS, ("called" : Str) :: called.map numS, ("moved" : Str) :: moved.flatMap movW, ("sealed" : Str) :: sealed, tolW told] : List (List Str)), LineOk ws := fun ws h => htok ws (List.mem_cons_of_mem _ h)
        have hlenS : (shown.flatMap Seen.words).length ≤ 30 := by
          refine Nat.le_trans (flat_len (b := 6) fun s hs => ?_) ?_
          · have := (okp.shown.2 s hs).homes.1
            unfold Seen.words
            rw [List.length_cons, List.length_map]; omega
          · omega
        generalize hls : (rows.take i).flatMap RowT.words = ls at L2 hlen
        refine a_ixT h1 (atI_nat (j := 0) rfl) ?_
        walk_at "rd"
        refine iteT ?_
        walk_at "rd"
        -- pause
        have hzpause : ∀ z ∈ ("pause" : Str) :: rooms, z.length ≤ 60 := (fun z hz => Nat.le_trans ((htok (_ :: rooms) List.mem_cons_self).tok z hz).1 (by decide))
        refine x_tyL L2.seq ?_
        walk_at "rd"
        refine ⟨sz_lit (n := 1), fun p hp => ?_⟩
        have LA := L2.ext (same_new (o := .lst [.str "pause"]) hp)
        have hpA : (upd H2 p (.lst [.str "pause"])) p = some (.lst [.str "pause"]) := upd_same
        generalize upd H2 p (.lst [.str "pause"]) = HA at LA hpA ⊢
        walk_at "rd"
        refine a_ixT (Same.sqT LA.sm dr1) (atI_nat (j := 1) rfl) ?_
        have LB := LA
        refine a_addL hpA (LA.sm _ _ g1) (sz_le (by rw [List.length_map]; show 1 + _ ≤ _; omega)) fun p3 hp3 => ?_
        have LC := LB.ext (same_new (o := .lst ([V.str "pause"] ++ (rooms).map V.str)) hp3)
        refine ⟨" ", p3, ("pause" : Str) :: rooms, rfl, rfl, .inl (SqL.of upd_same), join_size hzpause (by simp only [List.length_cons, List.length_map]; omega), ?_⟩
        walk_at "rd"
        refine x_append LC.at_ (sz_lt ?_) ?_
        · simp only [List.length_map, List.length_append, List.length_cons, List.length_nil, List.length_take]
          omega
        have e8 : (.str (Txt.join " " (("pause" : Str) :: rooms))) = liV (("pause" : Str) :: rooms) := rfl
        rw [e8]
        have L3 := ln_pushV LC (w := ("pause" : Str) :: rooms) rfl
        clear LC
        generalize upd _ l _ = HL3 at L3 ⊢
        walk_at "rd"
        refine a_ixT (Same.sqT L3.sm dr1) (atI_nat (j := 2) rfl) ?_
        walk_at "rd"
        refine forL (L3.sm.seq g2) (fun i σ H' => (∃ x3 x4 x5 x6 x7, σ = vtS a l [some (.ref a1), x3, x4, x5, x6, x7, x8, x9, none, none, none, none]) ∧ Ln H l ((ls ++ [("pause" : Str) :: rooms] ++ (shown.take i).flatMap Seen.words).map liV) H') ⟨⟨_, _, _, _, _, rfl⟩, by rw [List.take_zero, List.flatMap_nil, List.append_nil]; exact L3⟩ (fun i σ H' _ h => h.2.sm.seq g2) ?_ ?_
        · rintro k x σ H2 hx ⟨⟨x3, x4, x5, x6, x7, rfl⟩, L2⟩
          obtain ⟨sn, hsn, dsn⟩ := dp_at z2 hx
          have oks := okp.shown.2 sn (List.mem_of_getElem? hsn)
          have oks1 := oks.cells.1
          obtain ⟨c, c1, c2, cs, rfl, k1, k2, k3, k4⟩ := dp_seen dsn
          have htk2 : ∀ ws ∈ sn.words, LineOk ws := fun ws h => htk ws (List.mem_append_left _ (List.mem_flatMap.mpr ⟨sn, List.mem_of_getElem? hsn, h⟩))
          have hlenK : ((shown.take k).flatMap Seen.words).length ≤ 30 := by
            refine Nat.le_trans (flat_len (b := 6) fun s hs => ?_) ?_
            · have := (okp.shown.2 s (List.mem_of_mem_take hs)).homes.1
              unfold Seen.words
              rw [List.length_cons, List.length_map]; omega
            · rw [List.length_take]; omega
          refine x_gTup (Same.sqT L2.sm k1) rfl ?_
          walk_at "rd"
          -- seen
          have hzseen : ∀ z ∈ ("seen" : Str) :: sn.room :: sn.cells.map numS, z.length ≤ 60 := fun z hz => Nat.le_trans ((htk2 (_ :: sn.room :: sn.cells.map numS) List.mem_cons_self).tok z hz).1 (by decide)
          refine x_tyL L2.seq ?_
          walk_at "rd"
          refine ⟨sz_lit (n := 2), fun p hp => ?_⟩
          have LA := L2.ext (same_new (o := .lst [.str "seen", .str sn.room]) hp)
          have hpA : (upd H2 p (.lst [.str "seen", .str sn.room])) p = some (.lst [.str "seen", .str sn.room]) := upd_same
          generalize upd H2 p (.lst [.str "seen", .str sn.room]) = HA at LA hpA ⊢
          walk_at "rd"
          refine lcP (LA.sm.seq k2) (fun v => .str (thS v)) (by rw [List.length_map]; omega) (fun x H5 QQ hx sm qq => ?_) (fun p2 HB hp2 smB hpB => ?_)
          · obtain ⟨n, hn, rfl⟩ := List.mem_map.mp hx
            walk_at "rd"
            refine ⟨rfl, ?_⟩
            walk_at "rd"
            exact x_strI (log_ok (oks.cells.2 n hn)) (qq _ (Same.refl _))
          rw [strs_num] at hpB
          have LB := LA.ext smB
          refine a_addL (smB _ _ hpA) hpB (sz_le (by rw [List.length_map, List.length_map]; show 2 + _ ≤ _; omega)) fun p3 hp3 => ?_
          have LC := LB.ext (same_new (o := .lst ([V.str "seen", .str sn.room] ++ (sn.cells.map numS).map V.str)) hp3)
          refine ⟨" ", p3, ("seen" : Str) :: sn.room :: sn.cells.map numS, rfl, rfl, .inl (SqL.of upd_same), join_size hzseen (by simp only [List.length_cons, List.length_map]; omega), ?_⟩
          walk_at "rd"
          refine x_append LC.at_ (sz_lt ?_) ?_
          · simp only [List.length_map, List.length_append, List.length_cons, List.length_nil, List.length_take]
            omega
          have e8 : (.str (Txt.join " " (("seen" : Str) :: sn.room :: sn.cells.map numS))) = liV (("seen" : Str) :: sn.room :: sn.cells.map numS) := rfl
          rw [e8]
          have L4 := ln_pushV LC (w := ("seen" : Str) :: sn.room :: sn.cells.map numS) rfl
          clear LC
          generalize upd _ l _ = HL4 at L4 ⊢
          walk_at "rd"
          refine forL (L4.sm.seq k3) (fun j σ H' => (∃ x6 x7, σ = vtS a l [some (.ref a1), some (.str sn.room), some (.ref c1), some (.ref c2), x6, x7, x8, x9, none, none, none, none]) ∧ Ln H l ((ls ++ [("pause" : Str) :: rooms] ++ (shown.take k).flatMap Seen.words ++ [("seen" : Str) :: sn.room :: sn.cells.map numS] ++ (sn.homes.take j).map Home.words).map liV) H')
            ⟨⟨_, _, rfl⟩, by rw [List.take_zero, List.map_nil, List.append_nil]; exact L4⟩ (fun j σ H' _ h => h.2.sm.seq k3) ?_ ?_
          · rintro j x σ H9 hx ⟨⟨x6, x7, rfl⟩, L9⟩
            obtain ⟨hm, hhm, dhm⟩ := dp_at k4 hx
            have okh := oks.homes.2 hm (List.mem_of_getElem? hhm)
            have okh1 := oks.homes.1
            obtain ⟨e1, e2, rfl, m1, m2⟩ := dp_home dhm
            have hz : ∀ z ∈ hm.words, z.length ≤ 16 := fun z hz => ((htk2 hm.words (List.mem_cons_of_mem _ (List.mem_map.mpr ⟨hm, List.mem_of_getElem? hhm, rfl⟩))).tok z hz).1
            refine x_gTup (Same.sqT L9.sm m1) rfl ?_
            walk_at "rd"
            refine x_tyL L9.seq ?_
            walk_at "rd"
            refine x_strI (log_ok okh.cell) ?_
            walk_at "rd"
            refine ⟨sz_lit (n := 2), fun p hp => ?_⟩
            have L4 := L9.ext (same_new (o := .lst [.str "cell", .str (numS hm.cell)]) hp)
            have hp4 : (upd H9 p (.lst [.str "cell", .str (toString (hm.cell : Int))])) p = some (.lst [.str "cell", .str (numS hm.cell)]) := upd_same
            replace L4 : Ln H l _ (upd H9 p (.lst [.str "cell", .str (toString (hm.cell : Int))])) := L4
            generalize upd H9 p _ = H4 at L4 hp4 ⊢
            walk_at "rd"
            refine lcPT (Same.sqT L4.sm m2) (fun v => .str (thS v)) (by show 4 ≤ 100000; decide) (fun x H5 QQ hx sm qq => ?_) (fun p2 H5 hp2 sm hp5 => ?_)
            · walk_at "rd"
              refine ⟨rfl, ?_⟩
              walk_at "rd"
              simp only [List.mem_cons, List.not_mem_nil, or_false] at hx
              rcases hx with rfl | rfl | rfl | rfl
              · exact x_strI (log_ok okh.a) (qq _ (Same.refl _))
              · exact x_strI (log_ok okh.b) (qq _ (Same.refl _))
              · exact x_strI (log_ok okh.c) (qq _ (Same.refl _))
              · exact x_strI (log_ok okh.d) (qq _ (Same.refl _))
            replace hp5 : H5 p2 = some (.lst [.str (numS hm.a), .str (numS hm.b), .str (numS hm.c), .str (numS hm.d)]) := hp5
            refine a_addL (sm _ _ hp4) hp5 (sz_lit (n := 6)) fun p3 hp3 => ?_
            have L6 := (L4.ext sm).ext (same_new (o := .lst ([.str "cell", .str (numS hm.cell)] ++ [.str (numS hm.a), .str (numS hm.b), .str (numS hm.c), .str (numS hm.d)])) hp3)
            refine ⟨" ", p3, hm.words, rfl, rfl, .inl (SqL.of upd_same), join_size hz (by show 6 * 16 + 6 ≤ _; decide), ?_⟩
            walk_at "rd"
            refine x_append L6.at_ (sz_lt ?_) ?_
            · simp only [List.length_map, List.length_append, List.length_cons, List.length_take, List.length_nil]
              omega
            refine ⟨⟨_, _, rfl⟩, ?_⟩
            refine ln_pushV L6 (w := hm.words) ?_
            rw [take_snoc hhm, List.map_append]
            simp only [List.append_assoc]
            rfl
          · rintro σ H9 ⟨⟨x6, x7, rfl⟩, L9⟩
            refine ⟨⟨_, _, _, _, _, rfl⟩, ?_⟩
            rw [flat_snoc hsn]
            have e : sn.homes.take cs.length = sn.homes := by rw [dpl_len k4, List.take_length]
            rw [e] at L9
            unfold Seen.words
            simp only [List.append_assoc, List.cons_append, List.nil_append] at L9 ⊢
            exact L9
        · rintro σ HS ⟨⟨x3, x4, x5, x6, x7, rfl⟩, LS⟩
          have e : shown.take cs2.length = shown := by rw [dpl_len z2, List.take_length]
          rw [e] at LS
          clear L2 L3 e
          walk_at "rd"
          -- gone
          have hzgone : ∀ z ∈ ("gone" : Str) :: gone.map numS, z.length ≤ 60 := (fun z hz => Nat.le_trans ((htk (_ :: gone.map numS) (List.mem_append_right _ (by simp))).tok z hz).1 (by decide))
          refine x_tyL LS.seq ?_
          walk_at "rd"
          refine ⟨sz_lit (n := 1), fun p hp => ?_⟩
          have LA := LS.ext (same_new (o := .lst [.str "gone"]) hp)
          have hpA : (upd HS p (.lst [.str "gone"])) p = some (.lst [.str "gone"]) := upd_same
          generalize upd HS p (.lst [.str "gone"]) = HA at LA hpA ⊢
          walk_at "rd"
          refine a_ixT (Same.sqT LA.sm dr1) (atI_nat (j := 3) rfl) ?_
          walk_at "rd"
          refine lcP (LA.sm.seq g3) (fun v => .str (thS v)) (by rw [List.length_map]; omega) (fun x H5 QQ hx sm qq => ?_) (fun p2 HB hp2 smB hpB => ?_)
          · obtain ⟨n, hn, rfl⟩ := List.mem_map.mp hx
            walk_at "rd"
            refine ⟨rfl, ?_⟩
            walk_at "rd"
            exact x_strI (log_ok (okp.gone.2 n hn)) (qq _ (Same.refl _))
          rw [strs_num] at hpB
          have LB := LA.ext smB
          refine a_addL (smB _ _ hpA) hpB (sz_le (by rw [List.length_map, List.length_map]; show 1 + _ ≤ _; omega)) fun p3 hp3 => ?_
          have LC := LB.ext (same_new (o := .lst ([V.str "gone"] ++ (gone.map numS).map V.str)) hp3)
          refine ⟨" ", p3, ("gone" : Str) :: gone.map numS, rfl, rfl, .inl (SqL.of upd_same), join_size hzgone (by simp only [List.length_cons, List.length_map]; omega), ?_⟩
          walk_at "rd"
          refine x_append LC.at_ (sz_lt ?_) ?_
          · simp only [List.length_map, List.length_append, List.length_cons, List.length_nil, List.length_take]
            omega
          have e8 : (.str (Txt.join " " (("gone" : Str) :: gone.map numS))) = liV (("gone" : Str) :: gone.map numS) := rfl
          rw [e8]
          have L3 := ln_pushV LC (w := ("gone" : Str) :: gone.map numS) rfl
          clear LC
          generalize upd _ l _ = HL3 at L3 ⊢
          walk_at "rd"
          -- called
          have hzcalled : ∀ z ∈ ("called" : Str) :: called.map numS, z.length ≤ 60 := (fun z hz => Nat.le_trans ((htk (_ :: called.map numS) (List.mem_append_right _ (by simp))).tok z hz).1 (by decide))
          refine x_tyL L3.seq ?_
          walk_at "rd"
          refine ⟨sz_lit (n := 1), fun p hp => ?_⟩
          have LA := L3.ext (same_new (o := .lst [.str "called"]) hp)
          have hpA : (upd HL3 p (.lst [.str "called"])) p = some (.lst [.str "called"]) := upd_same
          generalize upd HL3 p (.lst [.str "called"]) = HA at LA hpA ⊢
          walk_at "rd"
          refine a_ixT (Same.sqT LA.sm dr1) (atI_nat (j := 4) rfl) ?_
          walk_at "rd"
          refine lcP (LA.sm.seq g4) (fun v => .str (thS v)) (by rw [List.length_map]; omega) (fun x H5 QQ hx sm qq => ?_) (fun p2 HB hp2 smB hpB => ?_)
          · obtain ⟨n, hn, rfl⟩ := List.mem_map.mp hx
            walk_at "rd"
            refine ⟨rfl, ?_⟩
            walk_at "rd"
            exact x_strI (log_ok (okp.called.2 n hn)) (qq _ (Same.refl _))
          rw [strs_num] at hpB
          have LB := LA.ext smB
          refine a_addL (smB _ _ hpA) hpB (sz_le (by rw [List.length_map, List.length_map]; show 1 + _ ≤ _; omega)) fun p3 hp3 => ?_
          have LC := LB.ext (same_new (o := .lst ([V.str "called"] ++ (called.map numS).map V.str)) hp3)
          refine ⟨" ", p3, ("called" : Str) :: called.map numS, rfl, rfl, .inl (SqL.of upd_same), join_size hzcalled (by simp only [List.length_cons, List.length_map]; omega), ?_⟩
          walk_at "rd"
          refine x_append LC.at_ (sz_lt ?_) ?_
          · simp only [List.length_map, List.length_append, List.length_cons, List.length_nil, List.length_take]
            omega
          have e8 : (.str (Txt.join " " (("called" : Str) :: called.map numS))) = liV (("called" : Str) :: called.map numS) := rfl
          rw [e8]
          have L4 := ln_pushV LC (w := ("called" : Str) :: called.map numS) rfl
          clear LC
          generalize upd _ l _ = HL4 at L4 ⊢
          walk_at "rd"
          -- moved
          have hzmoved : ∀ z ∈ ("moved" : Str) :: (moved.map fun m => lineS (movW m)), z.length ≤ 60 := (fun z hz => by
            rcases List.mem_cons.mp hz with rfl | hz
            · exact (by decide +kernel)
            · obtain ⟨m, hm, rfl⟩ := List.mem_map.mp hz
              have n1 := numS_len (okp.moved.2 m hm).1
              have n2 := nm_len (okp.moved.2 m hm).2
              rw [← lineS_mov, Str.length_append, Str.length_append, show (" " : Str).length = 1 from rfl]
              omega)
          refine x_tyL L4.seq ?_
          walk_at "rd"
          refine ⟨sz_lit (n := 1), fun p hp => ?_⟩
          have LA := L4.ext (same_new (o := .lst [.str "moved"]) hp)
          have hpA : (upd HL4 p (.lst [.str "moved"])) p = some (.lst [.str "moved"]) := upd_same
          generalize upd HL4 p (.lst [.str "moved"]) = HA at LA hpA ⊢
          walk_at "rd"
          refine a_ixT (Same.sqT LA.sm dr1) (atI_nat (j := 5) rfl) ?_
          walk_at "rd"
          refine lcL (LA.sm.seq g5) (fun D j acc H' => Same HA H' ∧ H' D = some (.lst ((moved.take j).map fun m => V.str (lineS (movW m))))) (fun D hD => ⟨same_new hD, upd_same⟩) (fun D j acc H' hD h => h.1.seq (LA.sm.seq g5)) (fun D j x acc H5 hD hx h => ?_) (fun D acc HB hD h => ?_)
          · obtain ⟨sm5, hd5⟩ := h
            obtain ⟨m, hm, dm⟩ := dp_at z5 hx
            have okm := okp.moved.2 m (List.mem_of_getElem? hm)
            obtain ⟨e2, rfl, k3⟩ := dp_mov dm
            have n1 := nm_len okm.2
            have n2 := numS_len okm.1
            refine x_gTup (vs := [intV m.1, V.str m.2]) (Same.sqT sm5 (Same.sqT LA.sm k3)) rfl ?_
            walk_at "rd"
            refine ⟨rfl, ?_⟩
            walk_at "rd"
            refine iteT ?_
            walk_at "rd"
            refine x_strI (log_ok okm.1) ?_
            walk_at "rd"
            refine a_addS (a := numS m.1) (sz_le (by rw [show (" " : Str).length = 1 from rfl]; omega)) ?_
            walk_at "rd"
            refine a_addS (sz_le (by rw [Str.length_append, show (" " : Str).length = 1 from rfl]; omega)) ?_
            refine ⟨_, hd5, sz_lt (by rw [List.length_map, List.length_take]; omega), (moved.take (j + 1)).map fun m => V.str (lineS (movW m)), ?_, ?_⟩
            · intro b o e
              rw [upd_ne (ne_of_none e hD)]
              exact sm5 _ _ e
            · rw [upd_same, take_snoc hm, List.map_append, lineS_mov]
              rfl
          obtain ⟨smB, hpB⟩ := h
          have e : moved.take cs5.length = moved := by rw [dpl_len z5, List.take_length]
          rw [e] at hpB
          have LB := LA.ext smB
          replace hpB : HB D = some (.lst ((moved.map fun m => lineS (movW m)).map V.str)) := by rw [hpB, List.map_map]; rfl
          refine a_addL (smB _ _ hpA) hpB (sz_le (by rw [List.length_map, List.length_map]; show 1 + _ ≤ _; omega)) fun p3 hp3 => ?_
          have LC := LB.ext (same_new (o := .lst ([V.str "moved"] ++ ((moved.map fun m => lineS (movW m))).map V.str)) hp3)
          refine ⟨" ", p3, ("moved" : Str) :: (moved.map fun m => lineS (movW m)), rfl, rfl, .inl (SqL.of upd_same), join_size hzmoved (by simp only [List.length_cons, List.length_map]; omega), ?_⟩
          walk_at "rd"
          refine x_append LC.at_ (sz_lt ?_) ?_
          · simp only [List.length_map, List.length_append, List.length_cons, List.length_nil, List.length_take]
            omega
          have e8 : (.str (Txt.join " " (("moved" : Str) :: (moved.map fun m => lineS (movW m))))) = liV (("moved" : Str) :: (moved.map fun m => lineS (movW m))) := rfl
          rw [e8]
          have emv : liV (("moved" : Str) :: moved.map fun m => lineS (movW m)) = liV (("moved" : Str) :: moved.flatMap movW) := congrArg V.str (lineS_flat (g := movW) fun x _ => by unfold movW; simp)
          rw [emv]
          have L5 := ln_pushV LC (w := ("moved" : Str) :: moved.flatMap movW) rfl
          clear LC
          generalize upd _ l _ = HL5 at L5 ⊢
          walk_at "rd"
          -- sealed
          have hzsealed : ∀ z ∈ ("sealed" : Str) :: sealed, z.length ≤ 60 := (fun z hz => Nat.le_trans ((htk (_ :: sealed) (List.mem_append_right _ (by simp))).tok z hz).1 (by decide))
          refine x_tyL L5.seq ?_
          walk_at "rd"
          refine ⟨sz_lit (n := 1), fun p hp => ?_⟩
          have LA := L5.ext (same_new (o := .lst [.str "sealed"]) hp)
          have hpA : (upd HL5 p (.lst [.str "sealed"])) p = some (.lst [.str "sealed"]) := upd_same
          generalize upd HL5 p (.lst [.str "sealed"]) = HA at LA hpA ⊢
          walk_at "rd"
          refine a_ixT (Same.sqT LA.sm dr1) (atI_nat (j := 6) rfl) ?_
          have LB := LA
          refine a_addL hpA (LA.sm _ _ g6) (sz_le (by rw [List.length_map]; show 1 + _ ≤ _; omega)) fun p3 hp3 => ?_
          have LC := LB.ext (same_new (o := .lst ([V.str "sealed"] ++ (sealed).map V.str)) hp3)
          refine ⟨" ", p3, ("sealed" : Str) :: sealed, rfl, rfl, .inl (SqL.of upd_same), join_size hzsealed (by simp only [List.length_cons, List.length_map]; omega), ?_⟩
          walk_at "rd"
          refine x_append LC.at_ (sz_lt ?_) ?_
          · simp only [List.length_map, List.length_append, List.length_cons, List.length_nil, List.length_take]
            omega
          have e8 : (.str (Txt.join " " (("sealed" : Str) :: sealed))) = liV (("sealed" : Str) :: sealed) := rfl
          rw [e8]
          have L6 := ln_pushV LC (w := ("sealed" : Str) :: sealed) rfl
          clear LC
          generalize upd _ l _ = HL6 at L6 ⊢
          walk_at "rd"
          have hall : (rows.take (i + 1)).flatMap RowT.words = ls ++ [("pause" : Str) :: rooms] ++ shown.flatMap Seen.words ++ [("gone" : Str) :: gone.map numS] ++ [("called" : Str) :: called.map numS] ++ [("moved" : Str) :: moved.flatMap movW] ++ [("sealed" : Str) :: sealed] ++ [tolW told] := by
            rw [flat_snoc hr', hls]
            unfold RowT.words
            simp only [List.cons_append, List.append_assoc, List.nil_append]
          refine x_tyL L6.seq ?_
          walk_at "rd"
          refine a_ixT (Same.sqT L6.sm dr1) (atI_nat (j := 7) rfl) ?_
          walk_at "rd"
          cases told with
          | none =>
            have e7 := dp_non dl7.dp
            subst e7
            refine iteT ?_
            walk_at "rd"
            refine x_append L6.at_ (sz_lt ?_) ?_
            · simp only [List.length_map, List.length_append, List.length_cons, List.length_nil]
              omega
            refine ⟨⟨_, _, _, _, _, _, _, _, rfl⟩, ?_⟩
            rw [hall]
            rw [show V.str "told same" = liV (tolW none) from by decide +kernel]
            exact ln_pushV L6 (w := tolW none) rfl
          | some ts =>
            obtain ⟨b7, cs7, rfl, g7, z7⟩ := dp_lst dl7.dp
            have okt := okp.told ts rfl
            have okt1 := okt.1
            refine iteF ?_
            walk_at "rd"
            refine ⟨sz_lit (n := 1), fun p hp => ?_⟩
            have LA := L6.ext (same_new (o := .lst [.str "told"]) hp)
            have hpA : (upd HL6 p (.lst [.str "told"])) p = some (.lst [.str "told"]) := upd_same
            generalize upd HL6 p (.lst [.str "told"]) = HA at LA hpA ⊢
            walk_at "rd"
            refine a_ixT (Same.sqT LA.sm dr1) (atI_nat (j := 7) rfl) ?_
            walk_at "rd"
            refine lcL (LA.sm.seq g7) (fun D j acc H' => Same HA H' ∧ H' D = some (.lst ((ts.take j).map fun m => V.str (lineS (telW m))))) (fun D hD => ⟨same_new hD, upd_same⟩) (fun D j acc H' hD h => h.1.seq (LA.sm.seq g7)) (fun D j x acc H5 hD hx h => ?_) (fun D acc HB hD h => ?_)
            · obtain ⟨sm5, hd5⟩ := h
              obtain ⟨m, hm, dm⟩ := dp_at z7 hx
              have okm := okt.2 m (List.mem_of_getElem? hm)
              obtain ⟨e2, rfl, k3⟩ := dp_tel dm
              have n1 := nm_len okm.1
              have n2 := nm_len okm.2
              refine x_gTup (Same.sqT sm5 (Same.sqT LA.sm k3)) rfl ?_
              walk_at "rd"
              refine ⟨rfl, ?_⟩
              walk_at "rd"
              refine iteT ?_
              walk_at "rd"
              refine a_addS (sz_le (by rw [show (" -> " : Str).length = 4 from rfl]; omega)) ?_
              walk_at "rd"
              refine a_addS (sz_le (by rw [Str.length_append, show (" -> " : Str).length = 4 from rfl]; omega)) ?_
              refine ⟨_, hd5, sz_lt (by rw [List.length_map, List.length_take]; omega), (ts.take (j + 1)).map fun m => V.str (lineS (telW m)), ?_, ?_⟩
              · intro b o e
                rw [upd_ne (ne_of_none e hD)]
                exact sm5 _ _ e
              · rw [upd_same, take_snoc hm, List.map_append, lineS_tel]
                rfl
            obtain ⟨smB, hpB⟩ := h
            have e : ts.take cs7.length = ts := by rw [dpl_len z7, List.take_length]
            rw [e] at hpB
            have LB := LA.ext smB
            replace hpB : HB D = some (.lst ((ts.map fun m => lineS (telW m)).map V.str)) := by rw [hpB, List.map_map]; rfl
            refine a_addL (smB _ _ hpA) hpB (sz_le (by rw [List.length_map, List.length_map]; show 1 + _ ≤ _; omega)) fun p3 hp3 => ?_
            have LC := LB.ext (same_new (o := .lst ([V.str "told"] ++ (ts.map fun m => lineS (telW m)).map V.str)) hp3)
            have hztold : ∀ z ∈ ("told" : Str) :: ts.map fun m => lineS (telW m), z.length ≤ 60 := fun z hz => by
              rcases List.mem_cons.mp hz with rfl | hz
              · exact (by decide +kernel)
              · obtain ⟨m, hm, rfl⟩ := List.mem_map.mp hz
                have n1 := nm_len (okt.2 m hm).1
                have n2 := nm_len (okt.2 m hm).2
                rw [← lineS_tel, Str.length_append, Str.length_append, show (" -> " : Str).length = 4 from rfl]
                omega
            refine ⟨" ", p3, ("told" : Str) :: ts.map fun m => lineS (telW m), rfl, rfl, .inl (SqL.of upd_same), join_size hztold (by simp only [List.length_cons, List.length_map]; omega), ?_⟩
            walk_at "rd"
            refine x_append LC.at_ (sz_lt ?_) ?_
            · simp only [List.length_map, List.length_append, List.length_cons, List.length_nil]
              omega
            refine ⟨⟨_, _, _, _, _, _, _, _, rfl⟩, ?_⟩
            rw [hall]
            have e8 : (.str (Txt.join " " (("told" : Str) :: ts.map fun m => lineS (telW m)))) = liV (tolW (some ts)) := congrArg V.str (lineS_flat (g := telW) fun x _ => by unfold telW; simp)
            rw [e8]
            exact ln_pushV LC (w := tolW (some ts)) rfl
      | gave c ns =>
        have okn : ns.length ≤ 5 ∧ ∀ n ∈ ns, Nb n := okr.2
        have okn1 := okn.1
        obtain ⟨a1, xs, rfl, h1, h0⟩ := dp_tup dr
        obtain ⟨v0, xs, rfl, d0, h0⟩ := dp_cons h0
        obtain ⟨v1, xs, rfl, d1, h0⟩ := dp_cons h0
        obtain ⟨v2, xs, rfl, d2, h0⟩ := dp_cons h0
        have h0 := dp_nil h0
        subst h0
        obtain ⟨b2, xs, rfl, g2, z2⟩ := dp_lst d2
        rw [dp_nums z2] at g2
        rw [dp_str d0, dp_str d1] at h1
        have dr1 := h1
        have h1 := Same.sqT L2.sm h1
        refine a_ixT h1 (atI_nat (j := 0) rfl) ?_
        walk_at "rd"
        refine iteF ?_
        walk_at "rd"
        refine a_ixT h1 (atI_nat (j := 0) rfl) ?_
        walk_at "rd"
        refine iteF ?_
        walk_at "rd"
        refine a_ixT h1 (atI_nat (j := 0) rfl) ?_
        walk_at "rd"
        refine iteF ?_
        walk_at "rd"
        refine a_ixT h1 (atI_nat (j := 0) rfl) ?_
        walk_at "rd"
        refine iteF ?_
        walk_at "rd"
        have hz : ∀ z ∈ ("gave" : Str) :: c :: ns.map numS, z.length ≤ 16 := fun z hz => ((htok (("gave" : Str) :: c :: ns.map numS) (List.mem_singleton.mpr rfl)).tok z hz).1
        refine x_tyL L2.seq ?_
        walk_at "rd"
        refine a_ixT h1 (atI_nat (j := 0) rfl) ?_
        walk_at "rd"
        refine a_ixT h1 (atI_nat (j := 1) rfl) ?_
        walk_at "rd"
        refine ⟨sz_lit (n := 2), fun p hp => ?_⟩
        have L4 := L2.ext (same_new (o := .lst [.str "gave", .str c]) hp)
        have hp4 : (upd H2 p (.lst [.str "gave", .str c])) p = some (.lst [.str "gave", .str c]) := upd_same
        have h14 := Same.sqT (same_new (o := .lst [.str "gave", .str c]) hp) h1
        generalize upd H2 p (.lst [.str "gave", .str c]) = H4 at L4 hp4 h14 ⊢
        walk_at "rd"
        refine a_ixT h14 (atI_nat (j := 2) rfl) ?_
        walk_at "rd"
        refine lcP (L4.sm.seq g2) (fun v => .str (thS v)) (by rw [List.length_map]; omega) (fun x H5 QQ hx sm qq => ?_) (fun p2 H5 hp2 sm hp5 => ?_)
        · obtain ⟨n, hn, rfl⟩ := List.mem_map.mp hx
          walk_at "rd"
          refine ⟨rfl, ?_⟩
          walk_at "rd"
          exact x_strI (log_ok (okn.2 n hn)) (qq _ (Same.refl _))
        rw [strs_num] at hp5
        refine a_addL (sm _ _ hp4) hp5 (sz_le (by rw [List.length_map, List.length_map]; show 2 + _ ≤ _; omega)) fun p3 hp3 => ?_
        have L6 := (L4.ext sm).ext (same_new (o := .lst ([V.str "gave", V.str c] ++ (ns.map numS).map V.str)) hp3)
        refine ⟨" ", p3, ("gave" : Str) :: c :: ns.map numS, rfl, rfl, .inl (SqL.of upd_same), join_size hz (by simp only [List.length_cons, List.length_map]; omega), ?_⟩
        walk_at "rd"
        refine x_append L6.at_ (sz_lt (by rw [List.length_map]; omega)) ?_
        have L8 := ln_pushV L6 (w := ("gave" : Str) :: c :: ns.map numS) rfl
        have h18 := Same.sqT L8.sm dr1
        have e8 : (.str (Txt.join " " (("gave" : Str) :: c :: ns.map numS))) = liV (("gave" : Str) :: c :: ns.map numS) := rfl
        rw [e8]
        generalize upd _ l _ = H8 at L8 h18 ⊢
        walk_at "rd"
        refine a_ixT h18 (atI_nat (j := 0) rfl) ?_
        walk_at "rd"
        refine iteF ?_
        walk_at "rd"
        refine ⟨sz_lit (n := 0), fun p9 hp9 => ?_⟩
        have L9 := L8.ext (same_new (o := .lst []) hp9)
        walk_at "rd"
        refine forL (xs := []) (SqL.of upd_same) (fun j σ H' => (∃ x2 x3 x4 x5 x6 x7 x8 x9, σ = vtS a l [x2, x3, x4, x5, x6, x7, x8, x9, none, none, none, none]) ∧ Ln H l (((rows.take i).flatMap RowT.words ++ [("gave" : Str) :: c :: ns.map numS]).map liV) H' ∧ H' p9 = some (.lst [])) ⟨⟨_, _, _, _, _, _, _, _, rfl⟩, L9, upd_same⟩ (fun j σ H' _ h => SqL.of h.2.2) ?_ ?_
        · rintro j x σ H9 hx _
          cases hx
        · rintro σ H9 ⟨⟨x2, x3, x4, x5, x6, x7, x8, x9, rfl⟩, L9, _⟩
          refine ⟨⟨_, _, _, _, _, _, _, _, rfl⟩, ?_⟩
          rw [flat_snoc hr']
          exact L9
      | came c ns hs =>
        have okn : ns.length ≤ 5 ∧ ∀ n ∈ ns, Nb n := okr.2.1
        have okn1 := okn.1
        have okh : hs.length ≤ 5 ∧ ∀ h ∈ hs, h.Ok := okr.2.2
        have okh1 := okh.1
        obtain ⟨a1, xs, rfl, h1, h0⟩ := dp_tup dr
        obtain ⟨v0, xs, rfl, d0, h0⟩ := dp_cons h0
        obtain ⟨v1, xs, rfl, d1, h0⟩ := dp_cons h0
        obtain ⟨v2, xs, rfl, d2, h0⟩ := dp_cons h0
        obtain ⟨v3, xs, rfl, d3, h0⟩ := dp_cons h0
        have h0 := dp_nil h0
        subst h0
        obtain ⟨b2, xs, rfl, g2, z2⟩ := dp_lst d2
        rw [dp_nums z2] at g2
        obtain ⟨b3, cs3, rfl, g3, z3⟩ := dp_lst d3
        rw [dp_str d0, dp_str d1] at h1
        have dr1 := h1
        have h1 := Same.sqT L2.sm h1
        refine a_ixT h1 (atI_nat (j := 0) rfl) ?_
        walk_at "rd"
        refine iteF ?_
        walk_at "rd"
        refine a_ixT h1 (atI_nat (j := 0) rfl) ?_
        walk_at "rd"
        refine iteF ?_
        walk_at "rd"
        refine a_ixT h1 (atI_nat (j := 0) rfl) ?_
        walk_at "rd"
        refine iteF ?_
        walk_at "rd"
        refine a_ixT h1 (atI_nat (j := 0) rfl) ?_
        walk_at "rd"
        refine iteF ?_
        walk_at "rd"
        have hz : ∀ z ∈ ("came" : Str) :: c :: ns.map numS, z.length ≤ 16 := fun z hz => ((htok (("came" : Str) :: c :: ns.map numS) List.mem_cons_self).tok z hz).1
        refine x_tyL L2.seq ?_
        walk_at "rd"
        refine a_ixT h1 (atI_nat (j := 0) rfl) ?_
        walk_at "rd"
        refine a_ixT h1 (atI_nat (j := 1) rfl) ?_
        walk_at "rd"
        refine ⟨sz_lit (n := 2), fun p hp => ?_⟩
        have L4 := L2.ext (same_new (o := .lst [.str "came", .str c]) hp)
        have hp4 : (upd H2 p (.lst [.str "came", .str c])) p = some (.lst [.str "came", .str c]) := upd_same
        have h14 := Same.sqT (same_new (o := .lst [.str "came", .str c]) hp) h1
        generalize upd H2 p (.lst [.str "came", .str c]) = H4 at L4 hp4 h14 ⊢
        walk_at "rd"
        refine a_ixT h14 (atI_nat (j := 2) rfl) ?_
        walk_at "rd"
        refine lcP (L4.sm.seq g2) (fun v => .str (thS v)) (by rw [List.length_map]; omega) (fun x H5 QQ hx sm qq => ?_) (fun p2 H5 hp2 sm hp5 => ?_)
        · obtain ⟨n, hn, rfl⟩ := List.mem_map.mp hx
          walk_at "rd"
          refine ⟨rfl, ?_⟩
          walk_at "rd"
          exact x_strI (log_ok (okn.2 n hn)) (qq _ (Same.refl _))
        rw [strs_num] at hp5
        refine a_addL (sm _ _ hp4) hp5 (sz_le (by rw [List.length_map, List.length_map]; show 2 + _ ≤ _; omega)) fun p3 hp3 => ?_
        have L6 := (L4.ext sm).ext (same_new (o := .lst ([V.str "came", V.str c] ++ (ns.map numS).map V.str)) hp3)
        refine ⟨" ", p3, ("came" : Str) :: c :: ns.map numS, rfl, rfl, .inl (SqL.of upd_same), join_size hz (by simp only [List.length_cons, List.length_map]; omega), ?_⟩
        walk_at "rd"
        refine x_append L6.at_ (sz_lt (by rw [List.length_map]; omega)) ?_
        have L8 := ln_pushV L6 (w := ("came" : Str) :: c :: ns.map numS) rfl
        have h18 := Same.sqT L8.sm dr1
        have e8 : (.str (Txt.join " " (("came" : Str) :: c :: ns.map numS))) = liV (("came" : Str) :: c :: ns.map numS) := rfl
        rw [e8]
        generalize upd _ l _ = H8 at L8 h18 ⊢
        walk_at "rd"
        refine a_ixT h18 (atI_nat (j := 0) rfl) ?_
        walk_at "rd"
        refine iteT ?_
        walk_at "rd"
        refine a_ixT h18 (atI_nat (j := 3) rfl) ?_
        walk_at "rd"
        refine forL (L8.sm.seq g3) (fun j σ H' => (∃ x2 x3 x4 x5 x6 x7 x8 x9, σ = vtS a l [x2, x3, x4, x5, x6, x7, x8, x9, none, none, none, none]) ∧ Ln H l ((((rows.take i).flatMap RowT.words ++ [("came" : Str) :: c :: ns.map numS]) ++ (hs.take j).map NewR.words).map liV) H')
          ⟨⟨_, _, _, _, _, _, _, _, rfl⟩, by rw [List.take_zero, List.map_nil, List.append_nil]; exact L8⟩ (fun j σ H' _ h => h.2.sm.seq g3) ?_ ?_
        · rintro j x σ H9 hx ⟨⟨x2, x3, x4, x5, x6, x7, x8, x9, rfl⟩, L9⟩
          obtain ⟨hm, hhm, dhm⟩ := dp_at z3 hx
          have ok1 := okh.2 hm (List.mem_of_getElem? hhm)
          have hz : ∀ z ∈ hm.words, z.length ≤ 16 := fun z hz => ((htok hm.words (List.mem_cons_of_mem _ (List.mem_map.mpr ⟨hm, List.mem_of_getElem? hhm, rfl⟩))).tok z hz).1
          obtain ⟨e1, e2, rfl, k1, k2⟩ := dp_new dhm
          refine x_gTup (Same.sqT L9.sm k1) rfl ?_
          walk_at "rd"
          refine x_tyL L9.seq ?_
          walk_at "rd"
          refine x_strI (log_ok ok1.h.cell) ?_
          walk_at "rd"
          refine ⟨sz_lit (n := 2), fun p hp => ?_⟩
          have L4 := L9.ext (same_new (o := .lst [.str "new", .str (numS hm.h.cell)]) hp)
          have hp4 : (upd H9 p (.lst [.str "new", .str (toString (hm.h.cell : Int))])) p = some (.lst [.str "new", .str (numS hm.h.cell)]) := upd_same
          replace L4 : Ln H l _ (upd H9 p (.lst [.str "new", .str (toString (hm.h.cell : Int))])) := L4
          generalize upd H9 p _ = H4 at L4 hp4 ⊢
          walk_at "rd"
          refine lcPT (Same.sqT L4.sm k2) (fun v => .str (thS v)) (by show 4 ≤ 100000; decide) (fun x H5 QQ hx sm qq => ?_) (fun p2 H5 hp2 sm hp5 => ?_)
          · walk_at "rd"
            refine ⟨rfl, ?_⟩
            walk_at "rd"
            simp only [List.mem_cons, List.not_mem_nil, or_false] at hx
            rcases hx with rfl | rfl | rfl | rfl
            · exact x_strI (log_ok ok1.h.a) (qq _ (Same.refl _))
            · exact x_strI (log_ok ok1.h.b) (qq _ (Same.refl _))
            · exact x_strI (log_ok ok1.h.c) (qq _ (Same.refl _))
            · exact x_strI (log_ok ok1.h.d) (qq _ (Same.refl _))
          replace hp5 : H5 p2 = some (.lst [.str (numS hm.h.a), .str (numS hm.h.b), .str (numS hm.h.c), .str (numS hm.h.d)]) := hp5
          refine a_addL (sm _ _ hp4) hp5 (sz_lit (n := 6)) fun p3 hp3 => ?_
          have L6 := (L4.ext sm).ext (same_new (o := .lst ([.str "new", .str (numS hm.h.cell)] ++ [.str (numS hm.h.a), .str (numS hm.h.b), .str (numS hm.h.c), .str (numS hm.h.d)])) hp3)
          have hp6 : (upd H5 p3 (.lst ([.str "new", .str (numS hm.h.cell)] ++ [.str (numS hm.h.a), .str (numS hm.h.b), .str (numS hm.h.c), .str (numS hm.h.d)]))) p3 = some (.lst [.str "new", .str (numS hm.h.cell), .str (numS hm.h.a), .str (numS hm.h.b), .str (numS hm.h.c), .str (numS hm.h.d)]) := upd_same
          generalize upd H5 p3 _ = H6 at L6 hp6 ⊢
          walk_at "rd"
          refine x_strI (log_ok ok1.weak) ?_
          walk_at "rd"
          refine x_ite (fun g => ?_) (fun g => ?_)
          all_goals
            have eb : b01S hm.last = b01S _ := congrArg b01S g
            walk_at "rd"
            refine ⟨sz_lit (n := 2), fun p4 hp4 => ?_⟩
            refine a_addL (same_new hp4 _ _ hp6) upd_same (sz_lit (n := 8)) fun p5 hp5 => ?_
            refine ⟨" ", p5, hm.words, rfl, rfl, .inl ?_, join_size hz (by show 8 * 16 + 8 ≤ _; decide), ?_⟩
            · unfold NewR.words
              rw [eb]
              exact SqL.of upd_same
            walk_at "rd"
            refine x_append ((L6.ext (same_new hp4)).ext (same_new hp5)).at_ (sz_lt ?_) ?_
            · simp only [List.length_map, List.length_append, List.length_cons, List.length_take, List.length_nil]
              omega
            refine ⟨⟨_, _, _, _, _, _, _, _, rfl⟩, ?_⟩
            refine ln_pushV ((L6.ext (same_new hp4)).ext (same_new hp5)) (w := hm.words) ?_
            rw [take_snoc hhm, List.map_append, List.append_assoc]
            rfl
        · rintro σ H9 ⟨⟨x2, x3, x4, x5, x6, x7, x8, x9, rfl⟩, L9⟩
          refine ⟨⟨_, _, _, _, _, _, _, _, rfl⟩, ?_⟩
          rw [flat_snoc hr']
          have e : hs.take cs3.length = hs := by rw [dpl_len z3, List.take_length]
          rw [e, List.append_assoc] at L9
          exact L9
    · rintro σ H2 ⟨⟨x2, x3, x4, x5, x6, x7, x8, x9, rfl⟩, L2⟩
      have e : rows.take vs.length = rows := by rw [dpl_len h0, List.take_length]
      rw [e] at L2
      walk_at "rd"
      exact q _ _ L2.fr L2.sm L2.at_
end
end K97


set_option maxRecDepth 100000
set_option maxHeartbeats 4000000
namespace K97
open PySem PySem.Spec PyProof.Rows L2 TL NB
local macro_rules | `(tactic| walk_at "rd") => `(tactic| repeat (first
  | (with_reducible refine x_seq ?_) | (with_reducible refine x_asg ?_) | (with_reducible refine x_gName ?_) | (with_reducible refine x_ret ?_) | (with_reducible refine x_drop ?_) | (with_reducible refine x_ifS ?_)
  | (with_reducible refine x_op ?_) | (with_reducible refine x_c ?_) | ((with_reducible refine' x_var ?k1 ?_); (case k1 => with_unfolding_all rfl)) | (with_reducible refine x_cb ?_) | (with_reducible refine x_call0 ?_) | (with_reducible refine x_cons ?_) | (with_reducible refine x_nil ?_)
  | (with_reducible refine x_test ?_) | (with_reducible refine x_B ?_) | (with_reducible refine x_bl ?_) | (with_reducible refine x_and ?_) | (with_reducible refine x_or ?_) | (with_reducible refine x_not ?_)
  | (with_reducible refine x_andV ?_) | (with_reducible refine x_orV ?_) | (with_reducible refine x_notV ?_) | (with_reducible refine x_if ?_) | (with_reducible refine x_isN ?_) | (with_reducible refine x_notN ?_)
  | (with_reducible refine x_tup ?_) | (with_reducible refine x_lst ?_) | (with_reducible refine x_sl ?_) | (with_reducible refine x_noPart ?_) | (with_reducible refine x_part ?_) | (with_reducible refine x_int ?_)
  | (with_reducible refine x_bm ?_) | (with_reducible refine x_m1 ?_) | (with_reducible refine x_tyS ?_) | (with_reducible refine x_gNil ?_) | (with_reducible refine x_gCons ?_) | (with_reducible refine x_gSub ?_) | (with_reducible refine x_next ?_) | (with_reducible refine x_brk ?_)
  | (with_reducible refine x_slStep ?_) | (with_reducible refine x_lc ?_) | (with_reducible refine x_for ?_) | (with_reducible refine x_iL ?_) | (with_reducible refine x_iR1 ?_) | (with_reducible refine x_iR3 ?_) | (with_reducible refine x_iS ?_) | (with_reducible refine x_ref ?_) | (with_reducible refine x_yes ?_)
  | (with_reducible refine a_addI ?_) | (with_reducible refine x_I0 ?_) | (with_reducible refine a_eq rfl ?_) | (with_reducible refine a_ne rfl ?_) | (with_reducible refine a_inS ?_) | (with_reducible refine a_ninS ?_) | (with_reducible refine x_strS ?_) | (with_reducible refine x_intI ?_) | (with_reducible refine x_iB ?_) | (with_reducible refine x_iT ?_)))

section
variable {P : Program} {w : World} {K : PySem.W.Frag} {mg : Str → Option Value} {base : Heap}
/-! ### a def that calls itself -/
theorem OkF.imp {CX : CXT} {k : Nat} {x : Str} {ps : List Str} {sp sp' : Sp} (F : OkF P w K mg base CX k x ps sp) (h : ∀ vs H Q E, sp' vs H Q E → sp vs H Q E) : OkF P w K mg base CX k x ps sp' := by
  obtain ⟨fd, hb, hF⟩ := F.ok
  exact ⟨⟨fd, hb, hF.imp h⟩, F.g, F.kp⟩
theorem Tx.never (T : Tx w K mg) {x : Str} {st : Stmt} {ps : List Str} (i : Nat) (hi : fn[i]? = some (dd x st)) (g : mg x = some (.ref (He.ga K x)))
    (hb : ∀ (kV doc pm : Value) (an : Option Addr) (cdv ct : Value) (us : List Value), us.length = ps.length → bindArgs (PySem.W.fnOf x x (defArgs st) (defBody st) (defScope st) .none kV doc pm an cdv ct) ⟨us, []⟩ = pure (ps.zip us)) :
    OkF P w K mg base CX0 0 x ps (fun _ _ _ _ => False) := by
  obtain ⟨fd, F⟩ := T.fun_ i hi
  exact ⟨⟨fd, F.binds hb, ⟨fun _ _ _ _ h => h.elim, fun _ _ _ _ _ _ _ _ _ _ _ _ _ h => h.elim⟩⟩, g, F.kp⟩
/-! ### isinstance -/
theorem ty_bl {H : Hp} {b : Bool} : TyX K H (.bl b) (.type "bool") := .base (.bl b)
theorem ty_int {H : Hp} {i : Int} : TyX K H (.int i) (.type "int") := .base (.int i)
theorem ty_str {H : Hp} {z : Str} : TyX K H (.str z) (.type "str") := .base (.str z)
theorem ty_non {H : Hp} : TyX K H .non (.type "NoneType") := .base .non
theorem ty_lst {H : Hp} {a : Addr} {xs : List V} (h : SqL K H a xs) : TyX K H (.ref a) (.type "list") := by
  rcases h with (h | ⟨o, h⟩) | ⟨o, its, n, h, hc, _⟩
  · exact .base (.lst h)
  · exact .base (.frz h)
  · exact .kList h hc
theorem ty_tup {H : Hp} {a : Addr} {xs : List V} (h : SqT K H a xs) : TyX K H (.ref a) (.type "tuple") := by
  rcases h with (h | ⟨o, h⟩) | ⟨o, its, n, h, hc, _⟩
  · exact .base (.tup h)
  · exact .fTuple h
  · exact .kTuple h hc
theorem a_isi {H : Hp} {Q : VK} {x : V} {a b : String} {r : Bool} (t : TyX K H x (.type a)) (h : kitB a b = some r) (q : Q (.bl r) H) : rIsi K [x, .ty b] H Q :=
  ⟨_, _, _, _, r, rfl, .ty b, t, kit_ty h, q⟩
/-! ### data of some depth -/
inductive De : Nat → PyData → Prop
  | non (n) : De (n + 1) .none
  | bl (n b) : De (n + 1) (.bool b)
  | int (n i) : De (n + 1) (.int i)
  | str (n z) : De (n + 1) (.str z)
  | lst (n ds) : ds.length ≤ 1000 → (∀ d ∈ ds, De n d) → De (n + 1) (.list ds)
  | tup (n ds) : ds.length ≤ 1000 → (∀ d ∈ ds, De n d) → De (n + 1) (.tuple ds)
def sp_law_same (K : PySem.W.Frag) (n : Nat) : Sp := fun vs H Q _ => ∃ (x y : V) (d : PyData), vs = [x, y] ∧ Dp K H x d ∧ Dp K H y d ∧ De n d ∧ ∀ H', Same H H' → Q (.bl true) H'
theorem sp0_law_same {vs : List V} {H : Hp} {Q : VK} {E : XK} (h : sp_law_same K 0 vs H Q E) : False := by
  obtain ⟨_, _, _, _, _, _, de, _⟩ := h
  cases de
theorem sc_law_same : FnScope ["answer", "due", "key", "at"] ["answer", "due"] (defScope s_law_same) := ⟨rfl, rfl, rfl, by decide +kernel, rfl, by decide +kernel, by decide +kernel⟩
theorem ok_law_same (T : Tx w K mg) : ∀ n : Nat, OkF P w K mg base CX0 n "_law_same" ["answer", "due"] (sp_law_same K n) := by
  intro n
  induction n
  case zero => exact (Tx.never T 22 rfl T.g_law_same (fun _ _ _ _ _ _ us hl => match us, hl with | [_, _], _ => rfl)).imp fun vs H Q E h => sp0_law_same h
  rename_i n G_law_same
  refine Tx.def0 T 22 rfl T.g_law_same sc_law_same (fun _ _ _ _ _ _ us hl => match us, hl with | [_, _], _ => rfl) (fun vs H Q E h => ?_) (fun f cdv A outer s H vs Q E hr h => ?_)
  · obtain ⟨x, y, d, rfl, hx, hy, de, q⟩ := h; rfl
  · obtain ⟨x, y, d, rfl, hx, hy, de, q⟩ := h
    refine ⟨_, (pss_cons (ps_if (PW.pt (pw_or (pt_cmp (pc_isN (pv 1)) (by rfl)) (pw_or1 (pt_cmp (pc_isN (pv 0)) (by rfl)))))
        (pss_one (ps_ret (pe_and (pe_cmp (pc_isN (pv 1)) (by rfl)) (pe_one (pe_cmp (pc_isN (pv 0)) (by rfl))))))
        pss_nil)
      (pss_cons (ps_if (PW.pt (pw_or (pt_val (pe_callB (call_isi) (by rfl) T.f_isinstance (by decide +kernel) (pa_cons (pv 1) (pa_cons (pe_bltn (v := .ty "bool") (by rfl) T.f_bool (by decide +kernel) rfl) pa_nil)))) (pw_or1 (pt_val (pe_callB (call_isi) (by rfl) T.f_isinstance (by decide +kernel) (pa_cons (pv 0) (pa_cons (pe_bltn (v := .ty "bool") (by rfl) T.f_bool (by decide +kernel) rfl) pa_nil)))))))
        (pss_one (ps_ret (pe_and (pe_callB (call_isi) (by rfl) T.f_isinstance (by decide +kernel) (pa_cons (pv 1) (pa_cons (pe_bltn (v := .ty "bool") (by rfl) T.f_bool (by decide +kernel) rfl) pa_nil))) (pe_and (pe_callB (call_isi) (by rfl) T.f_isinstance (by decide +kernel) (pa_cons (pv 0) (pa_cons (pe_bltn (v := .ty "bool") (by rfl) T.f_bool (by decide +kernel) rfl) pa_nil))) (pe_one (pe_cmpR (op_eqG hr.units) (pv 0) (pv 1) (nomark _)))))))
        pss_nil)
      (pss_cons (ps_if (pt_val (pe_callB (call_isi) (by rfl) T.f_isinstance (by decide +kernel) (pa_cons (pv 1) (pa_cons (pe_bltn (v := .ty "int") (by rfl) T.f_int (by decide +kernel) rfl) pa_nil))))
        (pss_one (ps_ret (pe_and (pe_callB (call_isi) (by rfl) T.f_isinstance (by decide +kernel) (pa_cons (pv 0) (pa_cons (pe_bltn (v := .ty "int") (by rfl) T.f_int (by decide +kernel) rfl) pa_nil))) (pe_one (pe_cmpR (op_eqG hr.units) (pv 0) (pv 1) (nomark _))))))
        pss_nil)
      (pss_cons (ps_if (pt_val (pe_callB (call_isi) (by rfl) T.f_isinstance (by decide +kernel) (pa_cons (pv 1) (pa_cons (pe_bltn (v := .ty "str") (by rfl) T.f_str (by decide +kernel) rfl) pa_nil))))
        (pss_one (ps_ret (pe_and (pe_callB (call_isi) (by rfl) T.f_isinstance (by decide +kernel) (pa_cons (pv 0) (pa_cons (pe_bltn (v := .ty "str") (by rfl) T.f_str (by decide +kernel) rfl) pa_nil))) (pe_one (pe_cmpR (op_eqG hr.units) (pv 0) (pv 1) (nomark _))))))
        pss_nil)
      (pss_cons (ps_if (pt_val (pe_callB (call_isi) (by rfl) T.f_isinstance (by decide +kernel) (pa_cons (pv 1) (pa_cons (pe_bltn (v := .ty "dict") (by rfl) T.f_dict (by decide +kernel) rfl) pa_nil))))
        (pss_cons (ps_if (PW.pt (pw_or (pt_not (pt_val (pe_callB (call_isi) (by rfl) T.f_isinstance (by decide +kernel) (pa_cons (pv 0) (pa_cons (pe_bltn (v := .ty "dict") (by rfl) T.f_dict (by decide +kernel) rfl) pa_nil))))) (pw_or1 (pt_cmpR (op_neG hr.units) (pe_callB (call_lenG) (by rfl) T.f_len (by decide +kernel) (pa_cons (pv 0) pa_nil)) (pe_callB (call_lenG) (by rfl) T.f_len (by decide +kernel) (pa_cons (pv 1) pa_nil)) (nomark _)))))
          (pss_one (ps_ret pe_bl))
          pss_nil)
        (pss_one (ps_ret (pe_callB (cr_all rfl) (by rfl) T.f_all (by decide +kernel) (pa_cons (pe_lc (own := [("key", 2)]) rfl sc_law_same.nd (pi_list (pv 1)) (blkOk_by (own := [("key", 2)]) (N := ["answer", "due", "key", "at"]) (sc := (defScope s_law_same)) (by decide +kernel)) (fun _ _ _ _ _ => (pg_name (i := 2) sc_law_same.nd rfl (by first | exact Or.inl rfl | exact Or.inr rfl))) (fun _ _ _ _ _ => pts_nil) (fun _ _ _ _ _ => (pe_and (pe_cmpR op_inGB (pv 2) (pv 0) (by rfl)) (pe_one (pe_callO G_law_same (hr.mono (Nat.le_refl _)) (by rfl) pass0 (pa_cons (pe_ix ix_seqB (pv 0) (pv 2) (fun _ _ => rfl)) (pa_cons (pe_ix ix_seqB (pv 1) (pv 2) (fun _ _ => rfl)) pa_nil))))))) pa_nil)))))
        pss_nil)
      (pss_cons (ps_if (PW.pt (pw_and (pt_val (pe_callB (call_isi) (by rfl) T.f_isinstance (by decide +kernel) (pa_cons (pv 1) (pa_cons (pe_bltn (v := .ty "tuple") (by rfl) T.f_tuple (by decide +kernel) rfl) pa_nil)))) (pw_and1 (pt_not (pt_val (pe_callB (call_isi) (by rfl) T.f_isinstance (by decide +kernel) (pa_cons (pv 0) (pa_cons (pe_bltn (v := .ty "tuple") (by rfl) T.f_tuple (by decide +kernel) rfl) pa_nil))))))))
        (pss_one (ps_ret pe_bl))
        pss_nil)
      (pss_cons (ps_if (PW.pt (pw_and (pt_val (pe_callB (call_isi) (by rfl) T.f_isinstance (by decide +kernel) (pa_cons (pv 1) (pa_cons (pe_bltn (v := .ty "list") (by rfl) T.f_list (by decide +kernel) rfl) pa_nil)))) (pw_and1 (pt_not (pt_val (pe_callB (call_isi) (by rfl) T.f_isinstance (by decide +kernel) (pa_cons (pv 0) (pa_cons (pe_bltn (v := .ty "list") (by rfl) T.f_list (by decide +kernel) rfl) pa_nil))))))))
        (pss_one (ps_ret pe_bl))
        pss_nil)
      (pss_one (ps_ret (pe_and (pe_cmpR (op_eqG hr.units) (pe_callB (call_lenG) (by rfl) T.f_len (by decide +kernel) (pa_cons (pv 0) pa_nil)) (pe_callB (call_lenG) (by rfl) T.f_len (by decide +kernel) (pa_cons (pv 1) pa_nil)) (nomark _)) (pe_one (pe_callB (cr_all rfl) (by rfl) T.f_all (by decide +kernel) (pa_cons (pe_lc (own := [("at", 3)]) rfl sc_law_same.nd (pi_range1 (by rfl) T.f_range (pa_cons (pe_callB (call_lenG) (by rfl) T.f_len (by decide +kernel) (pa_cons (pv 1) pa_nil)) pa_nil)) (blkOk_by (own := [("at", 3)]) (N := ["answer", "due", "key", "at"]) (sc := (defScope s_law_same)) (by decide +kernel)) (fun _ _ _ _ _ => (pg_name (i := 3) sc_law_same.nd rfl (by first | exact Or.inl rfl | exact Or.inr rfl))) (fun _ _ _ _ _ => pts_nil) (fun _ _ _ _ _ => (pe_callO G_law_same (hr.mono (Nat.le_refl _)) (by rfl) pass0 (pa_cons (pe_ix ix_seqB (pv 0) (pv 3) (fun _ _ => rfl)) (pa_cons (pe_ix ix_seqB (pv 1) (pv 3) (fun _ _ => rfl)) pa_nil))))) pa_nil))))))))))))), ?_⟩
    cases de with
    | non n =>
      rw [dp_non hx, dp_non hy]
      walk_at "rd"
      refine x_ite (fun _ => ?_) (fun g => absurd rfl (of_decide_eq_false g))
      refine iteT ?_
      walk_at "rd"
      rw [decide_eq_true rfl]
      refine iteT ?_
      walk_at "rd"
      rw [decide_eq_true rfl]
      exact q _ (Same.refl _)
    | bl n b =>
      rw [dp_bl hx, dp_bl hy]
      walk_at "rd"
      refine x_ite (fun g => absurd (of_decide_eq_true g) (fun h => by cases h)) (fun _ => ?_)
      walk_at "rd"
      refine x_ite (fun g => absurd (of_decide_eq_true g) (fun h => by cases h)) (fun _ => ?_)
      walk_at "rd"
      refine a_isi ty_bl (r := true) (by decide +kernel) ?_
      walk_at "rd"
      refine iteT ?_
      refine iteT ?_
      walk_at "rd"
      refine a_isi ty_bl (r := true) (by decide +kernel) ?_
      walk_at "rd"
      refine iteT ?_
      walk_at "rd"
      refine a_isi ty_bl (r := true) (by decide +kernel) ?_
      walk_at "rd"
      refine iteT ?_
      walk_at "rd"
      rw [decide_eq_true rfl]
      exact q _ (Same.refl _)
    | int n i =>
      rw [dp_int hx, dp_int hy]
      walk_at "rd"
      refine x_ite (fun g => absurd (of_decide_eq_true g) (fun h => by cases h)) (fun _ => ?_)
      walk_at "rd"
      refine x_ite (fun g => absurd (of_decide_eq_true g) (fun h => by cases h)) (fun _ => ?_)
      walk_at "rd"
      refine a_isi ty_int (r := false) (by decide +kernel) ?_
      walk_at "rd"
      refine iteF ?_
      walk_at "rd"
      refine a_isi ty_int (r := false) (by decide +kernel) ?_
      walk_at "rd"
      refine iteF ?_
      walk_at "rd"
      refine a_isi ty_int (r := true) (by decide +kernel) ?_
      walk_at "rd"
      refine iteT ?_
      walk_at "rd"
      refine a_isi ty_int (r := true) (by decide +kernel) ?_
      walk_at "rd"
      refine iteT ?_
      walk_at "rd"
      rw [decide_eq_true rfl]
      exact q _ (Same.refl _)
    | str n z =>
      rw [dp_str hx, dp_str hy]
      walk_at "rd"
      refine x_ite (fun g => absurd (of_decide_eq_true g) (fun h => by cases h)) (fun _ => ?_)
      walk_at "rd"
      refine x_ite (fun g => absurd (of_decide_eq_true g) (fun h => by cases h)) (fun _ => ?_)
      walk_at "rd"
      refine a_isi ty_str (r := false) (by decide +kernel) ?_
      walk_at "rd"
      refine iteF ?_
      walk_at "rd"
      refine a_isi ty_str (r := false) (by decide +kernel) ?_
      walk_at "rd"
      refine iteF ?_
      walk_at "rd"
      refine a_isi ty_str (r := false) (by decide +kernel) ?_
      walk_at "rd"
      refine iteF ?_
      walk_at "rd"
      refine a_isi ty_str (r := true) (by decide +kernel) ?_
      walk_at "rd"
      refine iteT ?_
      walk_at "rd"
      refine a_isi ty_str (r := true) (by decide +kernel) ?_
      walk_at "rd"
      refine iteT ?_
      walk_at "rd"
      rw [decide_eq_true rfl]
      exact q _ (Same.refl _)
    | lst n ds hl hd =>
      obtain ⟨a, xs, rfl, hxs, dxs⟩ := dp_lst hx
      obtain ⟨b, ys, rfl, hys, dys⟩ := dp_lst hy
      walk_at "rd"
      refine x_ite (fun g => absurd (of_decide_eq_true g) (fun h => by cases h)) (fun _ => ?_)
      walk_at "rd"
      refine x_ite (fun g => absurd (of_decide_eq_true g) (fun h => by cases h)) (fun _ => ?_)
      walk_at "rd"
      refine a_isi (ty_lst hys) (r := false) (by decide +kernel) ?_
      walk_at "rd"
      refine iteF ?_
      walk_at "rd"
      refine a_isi (ty_lst hxs) (r := false) (by decide +kernel) ?_
      walk_at "rd"
      refine iteF ?_
      walk_at "rd"
      refine a_isi (ty_lst hys) (r := false) (by decide +kernel) ?_
      walk_at "rd"
      refine iteF ?_
      walk_at "rd"
      refine a_isi (ty_lst hys) (r := false) (by decide +kernel) ?_
      walk_at "rd"
      refine iteF ?_
      walk_at "rd"
      refine a_isi (ty_lst hys) (r := false) (by decide +kernel) ?_
      walk_at "rd"
      refine iteF ?_
      walk_at "rd"
      refine a_isi (ty_lst hys) (r := false) (by decide +kernel) ?_
      walk_at "rd"
      refine iteF ?_
      refine iteF ?_
      walk_at "rd"
      refine a_isi (ty_lst hys) (r := true) (by decide +kernel) ?_
      walk_at "rd"
      refine iteT ?_
      walk_at "rd"
      refine a_isi (ty_lst hxs) (r := true) (by decide +kernel) ?_
      walk_at "rd"
      refine iteF ?_
      walk_at "rd"
      refine a_lenL hxs ?_
      walk_at "rd"
      refine a_lenL hys ?_
      walk_at "rd"
      have e1 := dpAll_len dxs
      have e2 := dpAll_len dys
      rw [e1, e2, decide_eq_true rfl]
      refine iteT ?_
      walk_at "rd"
      refine a_lenL hys ?_
      walk_at "rd"
      rw [e2]
      refine x_r1 (by omega) (by omega) ?_
      refine lcR (fun D i acc H' => Same H H' ∧ H' D = some (.lst ((List.replicate i true).map V.bl))) (fun D hD => ⟨same_new hD, upd_same⟩) (fun D i acc H2 hD hi h => ?_) (fun D acc H' hD h => ?_)
      · obtain ⟨sm, hd'⟩ := h
        have hi : i < ds.length := by simpa using hi
        walk_at "rd"
        refine ⟨rfl, ?_⟩
        walk_at "rd"
        refine iteT ?_
        obtain ⟨v1, hv1, dv1⟩ := dpAll_get dxs (i := i) (d := ds[i]) (List.getElem?_eq_getElem hi)
        obtain ⟨v2, hv2, dv2⟩ := dpAll_get dys (i := i) (d := ds[i]) (List.getElem?_eq_getElem hi)
        walk_at "rd"
        refine a_ixL (sm.seq hxs) (i := 0 + (i : Int)) (by rw [Int.zero_add]; exact atI_nat hv1) ?_
        walk_at "rd"
        refine a_ixL (sm.seq hys) (i := 0 + (i : Int)) (by rw [Int.zero_add]; exact atI_nat hv2) ?_
        walk_at "rd"
        refine ⟨v1, v2, _, rfl, dp_mono sm dv1, dp_mono sm dv2, hd _ (List.getElem_mem hi), fun H3 s3 => ?_⟩
        refine ⟨_, s3 _ _ hd', sz_lt (by rw [List.length_map, List.length_replicate]; omega), (List.replicate (i + 1) true).map V.bl, ?_, ?_⟩
        · intro b o e
          rw [upd_ne (ne_of_none e hD)]
          exact s3 _ _ (sm _ _ e)
        · rw [upd_same, List.replicate_succ', List.map_append]
          rfl
      · obtain ⟨sm, hd'⟩ := h
        walk_at "rd"
        refine x_allB (SqL.of hd') ?_
        rw [show ((List.replicate ((ds.length : Int)).toNat true).all id) = true from by rw [List.all_eq_true]; intro b hb; rw [List.eq_of_mem_replicate hb]; rfl]
        exact q _ sm
    | tup n ds hl hd =>
      obtain ⟨a, xs, rfl, hxs, dxs⟩ := dp_tup hx
      obtain ⟨b, ys, rfl, hys, dys⟩ := dp_tup hy
      walk_at "rd"
      refine x_ite (fun g => absurd (of_decide_eq_true g) (fun h => by cases h)) (fun _ => ?_)
      walk_at "rd"
      refine x_ite (fun g => absurd (of_decide_eq_true g) (fun h => by cases h)) (fun _ => ?_)
      walk_at "rd"
      refine a_isi (ty_tup hys) (r := false) (by decide +kernel) ?_
      walk_at "rd"
      refine iteF ?_
      walk_at "rd"
      refine a_isi (ty_tup hxs) (r := false) (by decide +kernel) ?_
      walk_at "rd"
      refine iteF ?_
      walk_at "rd"
      refine a_isi (ty_tup hys) (r := false) (by decide +kernel) ?_
      walk_at "rd"
      refine iteF ?_
      walk_at "rd"
      refine a_isi (ty_tup hys) (r := false) (by decide +kernel) ?_
      walk_at "rd"
      refine iteF ?_
      walk_at "rd"
      refine a_isi (ty_tup hys) (r := false) (by decide +kernel) ?_
      walk_at "rd"
      refine iteF ?_
      walk_at "rd"
      refine a_isi (ty_tup hys) (r := true) (by decide +kernel) ?_
      walk_at "rd"
      refine iteT ?_
      walk_at "rd"
      refine a_isi (ty_tup hxs) (r := true) (by decide +kernel) ?_
      walk_at "rd"
      refine iteF ?_
      walk_at "rd"
      refine a_isi (ty_tup hys) (r := false) (by decide +kernel) ?_
      walk_at "rd"
      refine iteF ?_
      refine iteF ?_
      walk_at "rd"
      refine a_lenT hxs ?_
      walk_at "rd"
      refine a_lenT hys ?_
      walk_at "rd"
      have e1 := dpAll_len dxs
      have e2 := dpAll_len dys
      rw [e1, e2, decide_eq_true rfl]
      refine iteT ?_
      walk_at "rd"
      refine a_lenT hys ?_
      walk_at "rd"
      rw [e2]
      refine x_r1 (by omega) (by omega) ?_
      refine lcR (fun D i acc H' => Same H H' ∧ H' D = some (.lst ((List.replicate i true).map V.bl))) (fun D hD => ⟨same_new hD, upd_same⟩) (fun D i acc H2 hD hi h => ?_) (fun D acc H' hD h => ?_)
      · obtain ⟨sm, hd'⟩ := h
        have hi : i < ds.length := by simpa using hi
        walk_at "rd"
        refine ⟨rfl, ?_⟩
        walk_at "rd"
        refine iteT ?_
        obtain ⟨v1, hv1, dv1⟩ := dpAll_get dxs (i := i) (d := ds[i]) (List.getElem?_eq_getElem hi)
        obtain ⟨v2, hv2, dv2⟩ := dpAll_get dys (i := i) (d := ds[i]) (List.getElem?_eq_getElem hi)
        walk_at "rd"
        refine a_ixT (Same.sqT sm hxs) (i := 0 + (i : Int)) (by rw [Int.zero_add]; exact atI_nat hv1) ?_
        walk_at "rd"
        refine a_ixT (Same.sqT sm hys) (i := 0 + (i : Int)) (by rw [Int.zero_add]; exact atI_nat hv2) ?_
        walk_at "rd"
        refine ⟨v1, v2, _, rfl, dp_mono sm dv1, dp_mono sm dv2, hd _ (List.getElem_mem hi), fun H3 s3 => ?_⟩
        refine ⟨_, s3 _ _ hd', sz_lt (by rw [List.length_map, List.length_replicate]; omega), (List.replicate (i + 1) true).map V.bl, ?_, ?_⟩
        · intro b o e
          rw [upd_ne (ne_of_none e hD)]
          exact s3 _ _ (sm _ _ e)
        · rw [upd_same, List.replicate_succ', List.map_append]
          rfl
      · obtain ⟨sm, hd'⟩ := h
        walk_at "rd"
        refine x_allB (SqL.of hd') ?_
        rw [show ((List.replicate ((ds.length : Int)).toNat true).all id) = true from by rw [List.all_eq_true]; intro b hb; rw [List.eq_of_mem_replicate hb]; rfl]
        exact q _ sm
def sp_law_copied (K : PySem.W.Frag) (n : Nat) : Sp := fun vs H Q _ => ∃ (x : V) (d : PyData), vs = [x] ∧ Dp K H x d ∧ De n d ∧ ∀ y N H', Own H N [] H' → Dp K N y d → Q y H'
theorem sp0_law_copied {vs : List V} {H : Hp} {Q : VK} {E : XK} (h : sp_law_copied K 0 vs H Q E) : False := by
  obtain ⟨_, _, _, _, de, _⟩ := h
  cases de
theorem sc_law_copied : FnScope ["thing", "one"] ["thing"] (defScope s_law_copied) := ⟨rfl, rfl, rfl, by decide +kernel, rfl, by decide +kernel, by decide +kernel⟩
theorem ok_law_copied (T : Tx w K mg) : ∀ n : Nat, OkF P w K mg base CX0 n "_law_copied" ["thing"] (sp_law_copied K n) := by
  intro n
  induction n
  case zero => exact (Tx.never T 25 rfl T.g_law_copied (fun _ _ _ _ _ _ us hl => match us, hl with | [_], _ => rfl)).imp fun vs H Q E h => sp0_law_copied h
  rename_i n G_law_copied
  refine Tx.def0 T 25 rfl T.g_law_copied sc_law_copied (fun _ _ _ _ _ _ us hl => match us, hl with | [_], _ => rfl) (fun vs H Q E h => ?_) (fun f cdv A outer s H vs Q E hr h => ?_)
  · obtain ⟨x, d, rfl, hx, de, q⟩ := h; rfl
  · obtain ⟨x, d, rfl, hx, de, q⟩ := h
    refine ⟨_, (pss_cons (ps_if (pt_val (pe_callB (call_isi) (by rfl) T.f_isinstance (by decide +kernel) (pa_cons (pv 0) (pa_cons (pe_bltn (v := .ty "list") (by rfl) T.f_list (by decide +kernel) rfl) pa_nil))))
        (pss_one (ps_ret (pe_lc (own := [("one", 1)]) rfl sc_law_copied.nd (pi_both (pv 0)) (blkOk_by (own := [("one", 1)]) (N := ["thing", "one"]) (sc := (defScope s_law_copied)) (by decide +kernel)) (fun _ _ _ _ _ => (pg_name (i := 1) sc_law_copied.nd rfl (by first | exact Or.inl rfl | exact Or.inr rfl))) (fun _ _ _ _ _ => pts_nil) (fun _ _ _ _ _ => (pe_callO G_law_copied (hr.mono (Nat.le_refl _)) (by rfl) pass0 (pa_cons (pv 1) pa_nil))))))
        pss_nil)
      (pss_cons (ps_if (pt_val (pe_callB (call_isi) (by rfl) T.f_isinstance (by decide +kernel) (pa_cons (pv 0) (pa_cons (pe_bltn (v := .ty "tuple") (by rfl) T.f_tuple (by decide +kernel) rfl) pa_nil))))
        (pss_one (ps_ret (pe_callTy call_tuple_of (by rfl) T.f_tuple (by decide +kernel) (pa_cons (pe_lc (own := [("one", 1)]) rfl sc_law_copied.nd (pi_both (pv 0)) (blkOk_by (own := [("one", 1)]) (N := ["thing", "one"]) (sc := (defScope s_law_copied)) (by decide +kernel)) (fun _ _ _ _ _ => (pg_name (i := 1) sc_law_copied.nd rfl (by first | exact Or.inl rfl | exact Or.inr rfl))) (fun _ _ _ _ _ => pts_nil) (fun _ _ _ _ _ => (pe_callO G_law_copied (hr.mono (Nat.le_refl _)) (by rfl) pass0 (pa_cons (pv 1) pa_nil)))) pa_nil))))
        pss_nil)
      (pss_one (ps_ret (pv 0))))), ?_⟩
    cases de with
    | non n =>
      rw [dp_non hx]
      walk_at "rd"
      refine a_isi ty_non (r := false) (by decide +kernel) ?_
      walk_at "rd"
      refine iteF ?_
      walk_at "rd"
      refine a_isi ty_non (r := false) (by decide +kernel) ?_
      walk_at "rd"
      refine iteF ?_
      walk_at "rd"
      exact q _ _ _ (Own.start H) .non
    | bl n b =>
      rw [dp_bl hx]
      walk_at "rd"
      refine a_isi ty_bl (r := false) (by decide +kernel) ?_
      walk_at "rd"
      refine iteF ?_
      walk_at "rd"
      refine a_isi ty_bl (r := false) (by decide +kernel) ?_
      walk_at "rd"
      refine iteF ?_
      walk_at "rd"
      exact q _ _ _ (Own.start H) (.bl b)
    | int n i =>
      rw [dp_int hx]
      walk_at "rd"
      refine a_isi ty_int (r := false) (by decide +kernel) ?_
      walk_at "rd"
      refine iteF ?_
      walk_at "rd"
      refine a_isi ty_int (r := false) (by decide +kernel) ?_
      walk_at "rd"
      refine iteF ?_
      walk_at "rd"
      exact q _ _ _ (Own.start H) (.int i)
    | str n z =>
      rw [dp_str hx]
      walk_at "rd"
      refine a_isi ty_str (r := false) (by decide +kernel) ?_
      walk_at "rd"
      refine iteF ?_
      walk_at "rd"
      refine a_isi ty_str (r := false) (by decide +kernel) ?_
      walk_at "rd"
      refine iteF ?_
      walk_at "rd"
      exact q _ _ _ (Own.start H) (.str z)
    | lst n ds hl hd =>
      obtain ⟨a, xs, rfl, hxs, dxs⟩ := dp_lst hx
      have e1 := dpAll_len dxs
      walk_at "rd"
      refine a_isi (ty_lst hxs) (r := true) (by decide +kernel) ?_
      walk_at "rd"
      refine iteT ?_
      walk_at "rd"
      refine .inl ?_
      refine lcL hxs (fun D i acc H' => ∃ N, Own H N [(D, .lst acc)] H' ∧ DpAll K N acc (ds.take i)) (fun D hD => ⟨ho0, (Own.start H).new hD, .nil⟩) (fun D i acc H' hD ⟨N, O, _⟩ => O.g.seq hxs) (fun D i x acc H2 hD hx h => ?_) (fun D acc H' hD h => ?_)
      · obtain ⟨N, O, da⟩ := h
        obtain ⟨dd, hdd, dx⟩ := dpAll_get' dxs hx
        walk_at "rd"
        refine ⟨rfl, ?_⟩
        walk_at "rd"
        refine iteT ?_
        walk_at "rd"
        refine ⟨x, dd, rfl, dp_mono O.g dx, hd dd (List.mem_of_getElem? hdd), fun y N2 H3 O2 dy => ?_⟩
        have O3 := O.call1 O2
        have hla := dpAll_len da
        rw [List.length_take] at hla
        refine ⟨acc, O3.get 0, sz_lt (by omega), acc ++ [y], uni N N2, O3.put 0, ?_⟩
        rw [take_snoc hdd]
        exact dpAll_app (dpAll_mono uni_l da) (.cons (dp_mono (O.uni_new O2.nf) dy) .nil)
      · obtain ⟨N, O, da⟩ := h
        rw [e1, List.take_length] at da
        exact q _ _ _ O.fix (.lst (SqL.of upd_same) (dpAll_mono (fun b o e => by
          by_cases hb : b = D
          · subst hb
            rw [O.ln (b, .lst acc) List.mem_cons_self] at e
            cases e
          · rw [upd_ne hb]; exact e) da))
    | tup n ds hl hd =>
      obtain ⟨a, xs, rfl, hxs, dxs⟩ := dp_tup hx
      have e1 := dpAll_len dxs
      walk_at "rd"
      refine a_isi (ty_tup hxs) (r := false) (by decide +kernel) ?_
      walk_at "rd"
      refine iteF ?_
      walk_at "rd"
      refine a_isi (ty_tup hxs) (r := true) (by decide +kernel) ?_
      walk_at "rd"
      refine iteT ?_
      walk_at "rd"
      refine .inr ?_
      refine lcT hxs (fun D i acc H' => ∃ N, Own H N [(D, .lst acc)] H' ∧ DpAll K N acc (ds.take i)) (fun D hD => ⟨ho0, (Own.start H).new hD, .nil⟩) (fun D i acc H' hD ⟨N, O, _⟩ => Same.sqT O.g hxs) (fun D i x acc H2 hD hx h => ?_) (fun D acc H' hD h => ?_)
      · obtain ⟨N, O, da⟩ := h
        obtain ⟨dd, hdd, dx⟩ := dpAll_get' dxs hx
        walk_at "rd"
        refine ⟨rfl, ?_⟩
        walk_at "rd"
        refine iteT ?_
        walk_at "rd"
        refine ⟨x, dd, rfl, dp_mono O.g dx, hd dd (List.mem_of_getElem? hdd), fun y N2 H3 O2 dy => ?_⟩
        have O3 := O.call1 O2
        have hla := dpAll_len da
        rw [List.length_take] at hla
        refine ⟨acc, O3.get 0, sz_lt (by omega), acc ++ [y], uni N N2, O3.put 0, ?_⟩
        rw [take_snoc hdd]
        exact dpAll_app (dpAll_mono uni_l da) (.cons (dp_mono (O.uni_new O2.nf) dy) .nil)
      · obtain ⟨N, O, da⟩ := h
        rw [e1, List.take_length] at da
        walk_at "rd"
        refine ⟨D, acc, rfl, .inl ⟨SqL.of (O.get 0), fun p hp => ?_⟩⟩
        have O2 := O.forget.frz (o := .tup acc) hp
        exact q _ _ _ O2 (.tup (SqT.of upd_same) (dpAll_mono (same_new (O.n.free hp)) da))
end
end K97


set_option maxRecDepth 100000
set_option maxHeartbeats 4000000
namespace K97
open PySem PySem.Spec PyProof.Rows L2 TL NB
local macro_rules | `(tactic| walk_at "rd") => `(tactic| repeat (first
  | (with_reducible refine x_seq ?_) | (with_reducible refine x_asg ?_) | (with_reducible refine x_gName ?_) | (with_reducible refine x_ret ?_) | (with_reducible refine x_drop ?_) | (with_reducible refine x_ifS ?_)
  | (with_reducible refine x_op ?_) | (with_reducible refine x_c ?_) | ((with_reducible refine' x_var ?k1 ?_); (case k1 => with_unfolding_all rfl)) | (with_reducible refine x_cb ?_) | (with_reducible refine x_call0 ?_) | (with_reducible refine x_cons ?_) | (with_reducible refine x_nil ?_)
  | (with_reducible refine x_test ?_) | (with_reducible refine x_B ?_) | (with_reducible refine x_bl ?_) | (with_reducible refine x_and ?_) | (with_reducible refine x_or ?_) | (with_reducible refine x_not ?_)
  | (with_reducible refine x_andV ?_) | (with_reducible refine x_orV ?_) | (with_reducible refine x_notV ?_) | (with_reducible refine x_if ?_) | (with_reducible refine x_isN ?_) | (with_reducible refine x_notN ?_)
  | (with_reducible refine x_tup ?_) | (with_reducible refine x_lst ?_) | (with_reducible refine x_sl ?_) | (with_reducible refine x_noPart ?_) | (with_reducible refine x_part ?_) | (with_reducible refine x_int ?_)
  | (with_reducible refine x_bm ?_) | (with_reducible refine x_m1 ?_) | (with_reducible refine x_tyS ?_) | (with_reducible refine x_gNil ?_) | (with_reducible refine x_gCons ?_) | (with_reducible refine x_gSub ?_) | (with_reducible refine x_next ?_) | (with_reducible refine x_brk ?_)
  | (with_reducible refine x_slStep ?_) | (with_reducible refine x_lc ?_) | (with_reducible refine x_for ?_) | (with_reducible refine x_iL ?_) | (with_reducible refine x_iR1 ?_) | (with_reducible refine x_iR3 ?_) | (with_reducible refine x_iS ?_) | (with_reducible refine x_ref ?_) | (with_reducible refine x_yes ?_)
  | (with_reducible refine a_addI ?_) | (with_reducible refine x_I0 ?_) | (with_reducible refine a_eq rfl ?_) | (with_reducible refine a_ne rfl ?_) | (with_reducible refine a_inS ?_) | (with_reducible refine a_ninS ?_) | (with_reducible refine x_strS ?_) | (with_reducible refine x_intI ?_) | (with_reducible refine x_iB ?_) | (with_reducible refine x_iT ?_)))

section
variable {P : Program} {w : World} {K : PySem.W.Frag} {mg : Str → Option Value} {base : Heap}
/-! ### the state of the draws: all else stands -/
def hid (s d : Addr) (H : Hp) : Hp := fun a => if a = s ∨ a = d then none else H a
structure Sta (s d : Addr) (H : Hp) : Prop where
  ne : s ≠ d
  at_ : ∃ (m q : Int) (xs : List Int), 0 ≤ q ∧ H s = some (.lst [.int m, .ref d, .int q]) ∧ H d = some (.lst (xs.map V.int))
section
variable {s d p a : Addr} {H H' : Hp} {o : HO}
theorem hid_same (e : Same H H') : Same (hid s d H) (hid s d H') := fun b u h => by
  unfold hid at h ⊢
  split at h
  · cases h
  · rename_i g
    rw [if_neg g]
    exact e _ _ h
theorem hid_le : Same (hid s d H) H := fun b u h => by
  unfold hid at h
  split at h
  · cases h
  · exact h
theorem hid_s : hid s d (upd H s o) = hid s d H := by
  funext b
  unfold hid
  by_cases h : b = s ∨ b = d
  · rw [if_pos h, if_pos h]
  · rw [if_neg h, if_neg h, upd_ne fun e => h (.inl e)]
theorem hid_d : hid s d (upd H d o) = hid s d H := by
  funext b
  unfold hid
  by_cases h : b = s ∨ b = d
  · rw [if_pos h, if_pos h]
  · rw [if_neg h, if_neg h, upd_ne fun e => h (.inr e)]
theorem Sta.s_ne (S : Sta s d H) (hp : H p = none) : p ≠ s := fun e => by
  obtain ⟨_, m, q, xs, _, h, _⟩ := S
  rw [e, h] at hp
  cases hp
theorem Sta.d_ne (S : Sta s d H) (hp : H p = none) : p ≠ d := fun e => by
  obtain ⟨_, m, q, xs, _, _, h⟩ := S
  rw [e, h] at hp
  cases hp
theorem hid_new (S : Sta s d H) (hp : H p = none) : hid s d (upd H p o) = upd (hid s d H) p o := by
  have h1 := S.s_ne hp
  have h2 := S.d_ne hp
  funext b
  unfold hid
  by_cases hb : b = p
  · subst hb
    rw [if_neg (by rintro (h | h); exact h1 h; exact h2 h), upd_same, upd_same]
  · rw [upd_ne hb, upd_ne hb]
theorem hid_none (hp : H p = none) : hid s d H p = none := by
  unfold hid
  split
  · rfl
  · exact hp
theorem Sta.ext (S : Sta s d H) (e : Same H H') : Sta s d H' := by
  obtain ⟨h0, m, q, xs, h1, h2, h3⟩ := S
  exact ⟨h0, m, q, xs, h1, e _ _ h2, e _ _ h3⟩
theorem Sta.new (S : Sta s d H) (hp : H p = none) : Sta s d (upd H p o) := S.ext (same_new hp)
/-- something that is neither the state nor its numbers -/
theorem Sta.off (S : Sta s d H) (h : hid s d H a = some o) : H a = some o := hid_le _ _ h
end
theorem ints_ix {xs : List Int} {j : Nat} {v : Int} (h : xs[j]? = some v) : (xs.map V.int)[j]? = some (.int v) := by
  rw [List.getElem?_map, h]
  rfl
theorem x_setE {H : Hp} {p : Addr} {xs ys : List V} {k : Int} {j : Nat} {v : V} {QH : Hp → Prop} (hp : H p = some (.lst xs)) (hk : ixN xs.length k = some j) (e : xs.set j v = ys) (h : QH (upd H p (.lst ys))) : rSetL (.ref p) (.int k) v H QH := by
  subst e
  exact x_setL hp hk h
theorem ixN_nat {n j : Nat} (h : j < n) : ixN n (j : Int) = some j := by
  unfold ixN
  rw [if_pos (by omega), if_pos (by omega)]
  rfl
def sp_law_pick (K : PySem.W.Frag) : Sp := fun vs H Q _ => ∃ (s d : Addr) (many : Int), vs = [.ref s, .int many] ∧ Sta s d H ∧ (0 < many ∧ many < 1073741824) ∧ ∀ (r : Int) H', 0 ≤ r → r < many → Sta s d H' → hid s d H' = hid s d H → Q (.int r) H'
theorem sc_law_pick : FnScope ["s", "many", "digit", "cell"] ["s", "many"] (defScope s_law_pick) := ⟨rfl, rfl, rfl, by decide +kernel, rfl, by decide +kernel, by decide +kernel⟩
theorem ok_law_pick (T : Tx w K mg) : OkF P w K mg base CX0 1 "_law_pick" ["s", "many"] (sp_law_pick K) := by
  refine Tx.def0 T 21 rfl T.g_law_pick sc_law_pick (fun _ _ _ _ _ _ us hl => match us, hl with | [_, _], _ => rfl) (fun vs H Q E h => ?_) (fun f cdv A outer s H vs Q E hr h => ?_)
  · obtain ⟨sa, d, many, rfl, S, hm, q⟩ := h; rfl
  · obtain ⟨sa, d, many, rfl, S, hm, q⟩ := h
    refine ⟨_, (pss_cons (ps_asg (pe_op op_mod (pe_op op_addG (pe_op op_mul (pe_ix ix_seq (pv 0) pe_int (fun _ _ => rfl)) pe_int) pe_int) pe_int) (pg_sub (pv 0) pe_int set_list))
      (pss_cons (ps_set (i := 2) sc_law_pick.nd rfl (by first | exact Or.inl rfl | exact Or.inr rfl) pe_int)
      (pss_cons (ps_if (pt_cmpR op_lt (pe_ix ix_seq (pv 0) pe_int (fun _ _ => rfl)) (pe_callB (call_lenG) (by rfl) T.f_len (by decide +kernel) (pa_cons (pe_ix ix_seq (pv 0) pe_int (fun _ _ => rfl)) pa_nil)) (nomark _))
        (pss_cons (ps_set (i := 3) sc_law_pick.nd rfl (by first | exact Or.inl rfl | exact Or.inr rfl) (pe_callTy call_intG (by rfl) T.f_int (by decide +kernel) (pa_cons (pe_ix ix_seq (pe_ix ix_seq (pv 0) pe_int (fun _ _ => rfl)) (pe_ix ix_seq (pv 0) pe_int (fun _ _ => rfl)) (fun _ _ => rfl)) pa_nil)))
        (pss_cons (ps_set (i := 2) sc_law_pick.nd rfl (by first | exact Or.inl rfl | exact Or.inr rfl) (pe_op op_mod (pv 3) (pv 1)))
        (pss_cons (ps_asg (pe_op op_fdiv (pv 3) (pv 1)) (pg_sub (pe_ix ix_seq (pv 0) pe_int (fun _ _ => rfl)) (pe_ix ix_seq (pv 0) pe_int (fun _ _ => rfl)) set_list))
        (pss_one (ps_if (pt_cmpR op_lt (pv 3) (pv 1) (nomark _))
          (pss_one (ps_augS (pv 0) pe_int get_list pe_int ip_add set_list))
          pss_nil)))))
        pss_nil)
      (pss_one (ps_ret (pe_op op_mod (pe_op op_addG (pe_op op_fdiv (pe_ix ix_seq (pv 0) pe_int (fun _ _ => rfl)) pe_int) (pv 2)) (pv 1))))))), ?_⟩
    obtain ⟨hne, m, qq, xs, hq0, hs, hd⟩ := S
    walk_at "rd"
    refine a_ixL (SqL.of hs) (atI_nat (j := 0) rfl) ?_
    walk_at "rd"
    refine x_I (.inr ⟨by decide, by decide⟩) ?_
    walk_at "rd"
    refine x_I (by decide) ?_
    walk_at "rd"
    refine x_setE (j := 0) hs rfl (ys := [.int ((m * 69621 + 1327) % 2147483647), .ref d, .int qq]) rfl ?_
    have h1s : (upd H sa (.lst [.int ((m * 69621 + 1327) % 2147483647), .ref d, .int qq])) sa = some (.lst [.int ((m * 69621 + 1327) % 2147483647), .ref d, .int qq]) := upd_same
    have h1d : (upd H sa (.lst [.int ((m * 69621 + 1327) % 2147483647), .ref d, .int qq])) d = some (.lst (xs.map V.int)) := by rw [upd_ne (Ne.symm hne)]; exact hd
    have h1h : hid sa d (upd H sa (.lst [.int ((m * 69621 + 1327) % 2147483647), .ref d, .int qq])) = hid sa d H := hid_s
    generalize (m * 69621 + 1327) % 2147483647 = m1 at h1s h1d h1h ⊢
    generalize upd H sa _ = H1 at h1s h1d h1h ⊢
    have fin : ∀ H' (m q x : Int) (xs : List Int), 0 ≤ q → H' sa = some (.lst [.int m, .ref d, .int q]) → H' d = some (.lst (xs.map V.int)) → hid sa d H' = hid sa d H → Q (.int ((m / 8 + x) % many)) H' := fun H' m q' x xs h0 h1 h2 h3 =>
      q _ _ (Int.emod_nonneg _ (by omega)) (Int.emod_lt_of_pos _ hm.1) ⟨hne, m, q', xs, h0, h1, h2⟩ h3
    walk_at "rd"
    refine a_ixL (SqL.of h1s) (atI_nat (j := 2) rfl) ?_
    walk_at "rd"
    refine a_ixL (SqL.of h1s) (atI_nat (j := 1) rfl) ?_
    walk_at "rd"
    refine a_lenL (SqL.of h1d) ?_
    walk_at "rd"
    rw [List.length_map]
    refine x_ite (fun g => ?_) (fun g => ?_)
    · have g := of_decide_eq_true g
      obtain ⟨k, rfl⟩ : ∃ k : Nat, qq = (k : Int) := ⟨qq.toNat, by omega⟩
      have hk : k < xs.length := by omega
      have hx : xs[k]? = some xs[k] := List.getElem?_eq_getElem hk
      walk_at "rd"
      refine a_ixL (SqL.of h1s) (atI_nat (j := 1) rfl) ?_
      walk_at "rd"
      refine a_ixL (SqL.of h1s) (atI_nat (j := 2) rfl) ?_
      walk_at "rd"
      refine a_ixL (SqL.of h1d) (atI_nat (ints_ix hx)) ?_
      walk_at "rd"
      refine x_I hm.1 ?_
      walk_at "rd"
      refine x_I hm ?_
      walk_at "rd"
      refine a_ixL (SqL.of h1s) (atI_nat (j := 1) rfl) ?_
      walk_at "rd"
      refine a_ixL (SqL.of h1s) (atI_nat (j := 2) rfl) ?_
      walk_at "rd"
      refine x_setE (j := k) h1d (ixN_nat (by rw [List.length_map]; exact hk)) (ys := (xs.set k (xs[k] / many)).map V.int) List.map_set.symm ?_
      have h2s : (upd H1 d (.lst ((xs.set k (xs[k] / many)).map V.int))) sa = some (.lst [.int m1, .ref d, .int k]) := by rw [upd_ne hne]; exact h1s
      have h2d : (upd H1 d (.lst ((xs.set k (xs[k] / many)).map V.int))) d = some (.lst ((xs.set k (xs[k] / many)).map V.int)) := upd_same
      have h2h : hid sa d (upd H1 d (.lst ((xs.set k (xs[k] / many)).map V.int))) = hid sa d H := hid_d.trans h1h
      generalize upd H1 d _ = H2 at h2s h2d h2h ⊢
      walk_at "rd"
      refine x_ite (fun g2 => ?_) (fun g2 => ?_)
      · show tAugS _ _ _ _ _ _ _ _ _
        unfold tAugS
        walk_at "rd"
        refine ⟨sa, _, _, _, rfl, rfl, SqL.of h2s, atI_nat (j := 2) rfl, ?_⟩
        walk_at "rd"
        refine ⟨_, _, rfl, rfl, ?_⟩
        refine x_setE (j := 2) h2s rfl (ys := [.int m1, .ref d, .int ((k : Int) + 1)]) rfl ?_
        have h3s : (upd H2 sa (.lst [.int m1, .ref d, .int ((k : Int) + 1)])) sa = some (.lst [.int m1, .ref d, .int ((k : Int) + 1)]) := upd_same
        have h3d : (upd H2 sa (.lst [.int m1, .ref d, .int ((k : Int) + 1)])) d = some (.lst ((xs.set k (xs[k] / many)).map V.int)) := by rw [upd_ne (Ne.symm hne)]; exact h2d
        have h3h : hid sa d (upd H2 sa (.lst [.int m1, .ref d, .int ((k : Int) + 1)])) = hid sa d H := hid_s.trans h2h
        generalize upd H2 sa _ = H3 at h3s h3d h3h ⊢
        walk_at "rd"
        refine a_ixL (SqL.of h3s) (atI_nat (j := 0) rfl) ?_
        walk_at "rd"
        refine x_I ⟨by decide, by decide⟩ ?_
        walk_at "rd"
        refine x_I hm.1 ?_
        exact fin _ _ _ _ _ (by omega) h3s h3d h3h
      · walk_at "rd"
        refine a_ixL (SqL.of h2s) (atI_nat (j := 0) rfl) ?_
        walk_at "rd"
        refine x_I ⟨by decide, by decide⟩ ?_
        walk_at "rd"
        refine x_I hm.1 ?_
        exact fin _ _ _ _ _ hq0 h2s h2d h2h
    · walk_at "rd"
      refine a_ixL (SqL.of h1s) (atI_nat (j := 0) rfl) ?_
      walk_at "rd"
      refine x_I ⟨by decide, by decide⟩ ?_
      walk_at "rd"
      refine x_I hm.1 ?_
      exact fin _ _ _ _ _ hq0 h1s h1d h1h
end
end K97


set_option maxRecDepth 100000
set_option maxHeartbeats 4000000
namespace K97
open PySem PySem.Spec PyProof.Rows L2 TL NB
local macro_rules | `(tactic| walk_at "rd") => `(tactic| repeat (first
  | (with_reducible refine x_seq ?_) | (with_reducible refine x_asg ?_) | (with_reducible refine x_gName ?_) | (with_reducible refine x_ret ?_) | (with_reducible refine x_drop ?_) | (with_reducible refine x_ifS ?_)
  | (with_reducible refine x_op ?_) | (with_reducible refine x_c ?_) | ((with_reducible refine' x_var ?k1 ?_); (case k1 => with_unfolding_all rfl)) | (with_reducible refine x_cb ?_) | (with_reducible refine x_call0 ?_) | (with_reducible refine x_cons ?_) | (with_reducible refine x_nil ?_)
  | (with_reducible refine x_test ?_) | (with_reducible refine x_B ?_) | (with_reducible refine x_bl ?_) | (with_reducible refine x_and ?_) | (with_reducible refine x_or ?_) | (with_reducible refine x_not ?_)
  | (with_reducible refine x_andV ?_) | (with_reducible refine x_orV ?_) | (with_reducible refine x_notV ?_) | (with_reducible refine x_if ?_) | (with_reducible refine x_isN ?_) | (with_reducible refine x_notN ?_)
  | (with_reducible refine x_tup ?_) | (with_reducible refine x_lst ?_) | (with_reducible refine x_sl ?_) | (with_reducible refine x_noPart ?_) | (with_reducible refine x_part ?_) | (with_reducible refine x_int ?_)
  | (with_reducible refine x_bm ?_) | (with_reducible refine x_m1 ?_) | (with_reducible refine x_tyS ?_) | (with_reducible refine x_gNil ?_) | (with_reducible refine x_gCons ?_) | (with_reducible refine x_gSub ?_) | (with_reducible refine x_next ?_) | (with_reducible refine x_brk ?_)
  | (with_reducible refine x_slStep ?_) | (with_reducible refine x_lc ?_) | (with_reducible refine x_for ?_) | (with_reducible refine x_iL ?_) | (with_reducible refine x_iR1 ?_) | (with_reducible refine x_iR3 ?_) | (with_reducible refine x_iS ?_) | (with_reducible refine x_ref ?_) | (with_reducible refine x_yes ?_)
  | (with_reducible refine a_addI ?_) | (with_reducible refine x_I0 ?_) | (with_reducible refine a_eq rfl ?_) | (with_reducible refine a_ne rfl ?_) | (with_reducible refine a_inS ?_) | (with_reducible refine a_ninS ?_) | (with_reducible refine x_strS ?_) | (with_reducible refine x_intI ?_) | (with_reducible refine x_iB ?_) | (with_reducible refine x_iT ?_)))

section
variable {P : Program} {w : World} {K : PySem.W.Frag} {mg : Str → Option Value} {base : Heap}
/-! ### comprehensions that draw -/
section
variable {s d p a : Addr} {H H' : Hp} {o u : HO}
theorem hid_at (h : hid s d H a = some o) : hid s d (upd H a u) = upd (hid s d H) a u := by
  have ha : ¬ (a = s ∨ a = d) := fun e => by
    unfold hid at h
    rw [if_pos e] at h
    cases h
  funext b
  by_cases hb : b = a
  · subst hb
    unfold hid
    rw [if_neg ha, upd_same, upd_same]
  · unfold hid
    by_cases e : b = s ∨ b = d
    · rw [if_pos e, upd_ne hb, if_pos e]
    · rw [if_neg e, upd_ne hb, upd_ne hb, if_neg e]
theorem Sta.put (S : Sta s d H) (h : hid s d H a = some o) : Sta s d (upd H a u) := by
  have ha : ¬ (a = s ∨ a = d) := fun e => by
    unfold hid at h
    rw [if_pos e] at h
    cases h
  obtain ⟨h0, m, q, xs, h1, h2, h3⟩ := S
  refine ⟨h0, m, q, xs, h1, ?_, ?_⟩
  · rw [upd_ne fun e => ha (.inl e.symm)]; exact h2
  · rw [upd_ne fun e => ha (.inr e.symm)]; exact h3
end
section
variable {σ : L2.St} {s d : Addr} {H : Hp} {Q : VK} {g : TG} {te : TE} {vs : List Nat}
/-- what a def that draws a thing promises -/
def Dw (K : PySem.W.Frag) {α : Type} (s d : Addr) (H : Hp) (f : α → PyData) (ok : α → Prop) (Q : VK) : Prop := ∀ (x : α) (v : V) (N H' : Hp), ok x → Sta s d H' → Own (hid s d H) N [] (hid s d H') → DpL K N v (f x) → Q v H'
theorem lc_drawR {n : Nat} {α : Type} (f : α → PyData) (ok : α → Prop) (hn : n ≤ 100000) (S : Sta s d H)
    (step : ∀ (i : Nat) (H2 : Hp) (QQ : VK), i < n → Sta s d H2 → Same (hid s d H) (hid s d H2) → Dw K s d H2 f ok QQ → g (.int (0 + (i : Int))) (wipe σ vs) H2 fun σ2 H3 => wipe σ2 vs = wipe σ vs ∧ te σ2 H3 QQ)
    (k : ∀ (xs : List α) (l N H'), xs.length = n → (∀ x ∈ xs, ok x) → Sta s d H' → Own (hid s d H) N [] (hid s d H') → DpL K N (.ref l) (.list (xs.map f)) → Q (.ref l) H') : LcB g tYes te vs σ Q (Itr 0 n) H := by
  refine lcR (fun D i acc H' => ∃ (N : Hp) (xs : List α), xs.length = i ∧ (∀ x ∈ xs, ok x) ∧ Sta s d H' ∧ Own (hid s d H) N [(D, .lst acc)] (hid s d H') ∧ DpLAll K N acc (xs.map f)) (fun D hD => ?_) (fun D i acc H2 hD hi h => ?_) (fun D acc H' hD h => ?_)
  · refine ⟨ho0, [], rfl, fun _ h => (List.not_mem_nil h).elim, S.new hD, ?_, .nil⟩
    rw [hid_new S hD]
    exact (Own.start _).new (hid_none hD)
  · obtain ⟨N, xs, hxl, hok, S2, O, da⟩ := h
    have q := step i H2 (fun y H5 => ∃ acc, H5 D = some (.lst acc) ∧ acc.length < sizeLine ∧ ∃ acc' : List V, ∃ (N : Hp) (xs : List α), xs.length = i + 1 ∧ (∀ x ∈ xs, ok x) ∧ Sta s d (upd H5 D (.lst (acc ++ [y]))) ∧ Own (hid s d H) N [(D, .lst acc')] (hid s d (upd H5 D (.lst (acc ++ [y])))) ∧ DpLAll K N acc' (xs.map f)) hi S2 O.g (by
      intro x v N2 H3 okx S3 O2 dv
      have O3 := O.call1 O2
      have hD3 := O3.get 0
      have hla := dpAll_len da.dp
      rw [List.length_map] at hla
      refine ⟨acc, hid_le _ _ hD3, sz_lt (by omega), acc ++ [v], uni N N2, xs ++ [x], by rw [List.length_append, hxl]; rfl, fun y hy => ?_, S3.put hD3, ?_, ?_⟩
      · rcases List.mem_append.mp hy with hy | hy
        · exact hok y hy
        · rw [List.mem_singleton.mp hy]; exact okx
      · rw [hid_at hD3]
        exact O3.put 0
      · rw [List.map_append]
        exact dpL_app (dpLAll_mono uni_l da) (.cons (dpL_mono (O.uni_new O2.nf) dv) .nil))
    exact q
  · obtain ⟨N, xs, hxl, hok, S2, O, da⟩ := h
    refine k xs D _ H' hxl hok S2 O.fix (.lst upd_same (dpLAll_mono (fun b o e => ?_) da))
    by_cases hb : b = D
    · subst hb
      rw [O.ln (b, .lst acc) List.mem_cons_self] at e
      cases e
    · rw [upd_ne hb]
      exact e
theorem lc_drawL {K : PySem.W.Frag} {a : Addr} {zs : List V} {α : Type} (f : α → PyData) (ok : α → Prop) (hn : zs.length ≤ 100000) (S : Sta s d H) (hs : SqL K (hid s d H) a zs)
    (step : ∀ (i : Nat) (z : V) (H2 : Hp) (QQ : VK), zs[i]? = some z → Sta s d H2 → Same (hid s d H) (hid s d H2) → Dw K s d H2 f ok QQ → g z (wipe σ vs) H2 fun σ2 H3 => wipe σ2 vs = wipe σ vs ∧ te σ2 H3 QQ)
    (k : ∀ (xs : List α) (l N H'), xs.length = zs.length → (∀ x ∈ xs, ok x) → Sta s d H' → Own (hid s d H) N [] (hid s d H') → DpL K N (.ref l) (.list (xs.map f)) → Q (.ref l) H') : (∃ zs, SqL K H a zs) ∧ LcB g tYes te vs σ Q (Itl K a) H := by
  have up : ∀ {H2 : Hp}, Same (hid s d H) (hid s d H2) → SqL K H2 a zs := fun {H2} e => (hid_le (s := s) (d := d)).seq (e.seq hs)
  refine lcL (up (Same.refl _)) (fun D i acc H' => ∃ (N : Hp) (xs : List α), xs.length = i ∧ (∀ x ∈ xs, ok x) ∧ Sta s d H' ∧ Own (hid s d H) N [(D, .lst acc)] (hid s d H') ∧ DpLAll K N acc (xs.map f)) (fun D hD => ?_) (fun D i acc H' hD ⟨N, xs, _, _, _, O, _⟩ => up O.g) (fun D i z acc H2 hD hz h => ?_) (fun D acc H' hD h => ?_)
  · refine ⟨ho0, [], rfl, fun _ h => (List.not_mem_nil h).elim, S.new hD, ?_, .nil⟩
    rw [hid_new S hD]
    exact (Own.start _).new (hid_none hD)
  · obtain ⟨N, xs, hxl, hok, S2, O, da⟩ := h
    have hi := (List.getElem?_eq_some_iff.mp hz).1
    have q := step i z H2 (fun y H5 => ∃ acc, H5 D = some (.lst acc) ∧ acc.length < sizeLine ∧ ∃ acc' : List V, ∃ (N : Hp) (xs : List α), xs.length = i + 1 ∧ (∀ x ∈ xs, ok x) ∧ Sta s d (upd H5 D (.lst (acc ++ [y]))) ∧ Own (hid s d H) N [(D, .lst acc')] (hid s d (upd H5 D (.lst (acc ++ [y])))) ∧ DpLAll K N acc' (xs.map f)) hz S2 O.g (by
      intro x v N2 H3 okx S3 O2 dv
      have O3 := O.call1 O2
      have hD3 := O3.get 0
      have hla := dpAll_len da.dp
      rw [List.length_map] at hla
      refine ⟨acc, hid_le _ _ hD3, sz_lt (by omega), acc ++ [v], uni N N2, xs ++ [x], by rw [List.length_append, hxl]; rfl, fun y hy => ?_, S3.put hD3, ?_, ?_⟩
      · rcases List.mem_append.mp hy with hy | hy
        · exact hok y hy
        · rw [List.mem_singleton.mp hy]; exact okx
      · rw [hid_at hD3]
        exact O3.put 0
      · rw [List.map_append]
        exact dpL_app (dpLAll_mono uni_l da) (.cons (dpL_mono (O.uni_new O2.nf) dv) .nil))
    exact q
  · obtain ⟨N, xs, hxl, hok, S2, O, da⟩ := h
    refine k xs D _ H' hxl hok S2 O.fix (.lst upd_same (dpLAll_mono (fun b o e => ?_) da))
    by_cases hb : b = D
    · subst hb
      rw [O.ln (b, .lst acc) List.mem_cons_self] at e
      cases e
    · rw [upd_ne hb]
      exact e
end
/-! ### numbers -/
def sp_law_number (K : PySem.W.Frag) : Sp := fun vs H Q _ => ∃ (s d : Addr), vs = [.ref s] ∧ Sta s d H ∧ ∀ (n : Nat) H', Nb n → Sta s d H' → Same (hid s d H) (hid s d H') → Q (.int n) H'
theorem sc_law_number : FnScope ["s"] ["s"] (defScope s_law_number) := ⟨rfl, rfl, rfl, by decide +kernel, rfl, by decide +kernel, by decide +kernel⟩
theorem ok_law_number (T : Tx w K mg) : OkF P w K mg base CX0 2 "_law_number" ["s"] (sp_law_number K) := by
  have G_law_pick := ok_law_pick (P := P) (base := base) T
  refine Tx.def0 T 28 rfl T.g_law_number sc_law_number (fun _ _ _ _ _ _ us hl => match us, hl with | [_], _ => rfl) (fun vs H Q E h => ?_) (fun f cdv A outer s H vs Q E hr h => ?_)
  · obtain ⟨sa, d, rfl, S, q⟩ := h; rfl
  · obtain ⟨sa, d, rfl, S, q⟩ := h
    refine ⟨_, (pss_one (ps_ret (pe_callO G_law_pick (hr.mono (by decide)) (by rfl) pass0 (pa_cons (pv 0) (pa_cons (pe_ix ix_seq (pe_lst (pa_cons pe_int (pa_cons pe_int (pa_cons pe_int (pa_cons (pe_op op_pow pe_int pe_int) pa_nil))))) (pe_callO G_law_pick (hr.mono (by decide)) (by rfl) pass0 (pa_cons (pv 0) (pa_cons pe_int pa_nil))) (fun _ _ => rfl)) pa_nil))))), ?_⟩
    walk_at "rd"
    refine x_I ⟨by decide, by decide, by decide⟩ ?_
    walk_at "rd"
    refine ⟨sz_lit (n := 4), fun p hp => ?_⟩
    have S1 := S.new (o := .lst [.int 2, .int 10, .int 100, .int 1000000000]) hp
    have sm1 : Same (hid sa d H) (hid sa d (upd H p (.lst [.int 2, .int 10, .int 100, .int 1000000000]))) := hid_same (same_new hp)
    have hp1 : hid sa d (upd H p (.lst [.int 2, .int 10, .int 100, .int 1000000000])) p = some (.lst [.int 2, .int 10, .int 100, .int 1000000000]) := by
      rw [hid_new S hp, upd_same]
    rw [show V.int (10 ^ (9 : Int).toNat) = V.int 1000000000 from by decide +kernel]
    generalize upd H p (.lst [.int 2, .int 10, .int 100, .int 1000000000]) = H1 at S1 sm1 hp1 ⊢
    walk_at "rd"
    refine ⟨sa, d, 4, rfl, S1, ⟨by decide, by decide⟩, fun r H2 h0 h4 S2 e2 => ?_⟩
    rw [← e2] at sm1 hp1
    have hp2 := hid_le _ _ hp1
    obtain ⟨b, hb, b0, b1⟩ : ∃ b : Int, atI [V.int 2, .int 10, .int 100, .int 1000000000] r = some (.int b) ∧ 0 < b ∧ b ≤ 1000000000 := by
      have : r = 0 ∨ r = 1 ∨ r = 2 ∨ r = 3 := by omega
      rcases this with rfl | rfl | rfl | rfl
      · exact ⟨2, rfl, by decide, by decide⟩
      · exact ⟨10, rfl, by decide, by decide⟩
      · exact ⟨100, rfl, by decide, by decide⟩
      · exact ⟨1000000000, rfl, by decide, by decide⟩
    refine a_ixL (SqL.of hp2) hb ?_
    walk_at "rd"
    refine ⟨sa, d, b, rfl, S2, ⟨b0, by omega⟩, fun r3 H3 h30 h34 S3 e3 => ?_⟩
    obtain ⟨n, rfl⟩ : ∃ n : Nat, r3 = (n : Int) := ⟨r3.toNat, by omega⟩
    exact q n _ (show n < 1000000000 by omega) S3 (by rw [e3]; exact sm1)
section
variable {s d p : Addr} {G N H : Hp} {L : List (Addr × HO)} {o : HO}
theorem _root_.NB.Own.hidnew (O : Own G N L (hid s d H)) (S : Sta s d H) (hp : H p = none) : Own G (upd N p o) L (hid s d (upd H p o)) := by
  rw [hid_new S hp]
  exact Own.frz O (hid_none hp)
theorem _root_.NB.Own.hidlist (O : Own G N L (hid s d H)) (S : Sta s d H) (hp : H p = none) : Own G N ((p, o) :: L) (hid s d (upd H p o)) := by
  rw [hid_new S hp]
  exact Own.new O (hid_none hp)
end
def NbsOk (ns : List Nat) : Prop := ns.length ≤ 5 ∧ ∀ n ∈ ns, Nb n
def sp_law_numbers (K : PySem.W.Frag) : Sp := fun vs H Q _ => ∃ (s d : Addr), vs = [.ref s] ∧ Sta s d H ∧ Dw K s d H numsD NbsOk Q
theorem sc_law_numbers : FnScope ["s", "k"] ["s"] (defScope s_law_numbers) := ⟨rfl, rfl, rfl, by decide +kernel, rfl, by decide +kernel, by decide +kernel⟩
theorem ok_law_numbers (T : Tx w K mg) : OkF P w K mg base CX0 3 "_law_numbers" ["s"] (sp_law_numbers K) := by
  have G_law_pick := ok_law_pick (P := P) (base := base) T
  have G_law_number := ok_law_number (P := P) (base := base) T
  refine Tx.def0 T 29 rfl T.g_law_numbers sc_law_numbers (fun _ _ _ _ _ _ us hl => match us, hl with | [_], _ => rfl) (fun vs H Q E h => ?_) (fun f cdv A outer s H vs Q E hr h => ?_)
  · obtain ⟨sa, d, rfl, S, q⟩ := h; rfl
  · obtain ⟨sa, d, rfl, S, q⟩ := h
    refine ⟨_, (pss_one (ps_ret (pe_lc (own := [("k", 1)]) rfl sc_law_numbers.nd (pi_range1 (by rfl) T.f_range (pa_cons (pe_callO G_law_pick (hr.mono (by decide)) (by rfl) pass0 (pa_cons (pv 0) (pa_cons pe_int pa_nil))) pa_nil)) (blkOk_by (own := [("k", 1)]) (N := ["s", "k"]) (sc := (defScope s_law_numbers)) (by decide +kernel)) (fun _ _ _ _ _ => (pg_name (i := 1) sc_law_numbers.nd rfl (by first | exact Or.inl rfl | exact Or.inr rfl))) (fun _ _ _ _ _ => pts_nil) (fun _ _ _ _ _ => (pe_callO G_law_number (hr.mono (by decide)) (by rfl) pass0 (pa_cons (pv 0) pa_nil)))))), ?_⟩
    walk_at "rd"
    refine ⟨sa, d, 4, rfl, S, ⟨by decide, by decide⟩, fun r H1 h0 h4 S1 e1 => ?_⟩
    walk_at "rd"
    refine x_r1 (by omega) (by omega) ?_
    refine lc_drawR (K := K) numD Nb (by omega) S1 (fun i H2 QQ hi S2 sm2 qq => ?_) (fun xs l N H' hl hok S3 O da => ?_)
    · walk_at "rd"
      refine ⟨rfl, ?_⟩
      walk_at "rd"
      exact ⟨sa, d, rfl, S2, fun n H3 hn S3 sm3 => qq n _ ho0 H3 hn S3 ((Own.start _).ext sm3) (.int n)⟩
    · rw [e1] at O
      exact q xs _ N H' ⟨by omega, hok⟩ S3 O da
def FldOk (h : Home) : Prop := Nb h.a ∧ Nb h.b ∧ Nb h.c ∧ Nb h.d
def sp_law_fields (K : PySem.W.Frag) : Sp := fun vs H Q _ => ∃ (s d : Addr), vs = [.ref s] ∧ Sta s d H ∧ Dw K s d H Home.fld FldOk Q
theorem sc_law_fields : FnScope ["s", "k"] ["s"] (defScope s_law_fields) := ⟨rfl, rfl, rfl, by decide +kernel, rfl, by decide +kernel, by decide +kernel⟩
theorem ok_law_fields (T : Tx w K mg) : OkF P w K mg base CX0 3 "_law_fields" ["s"] (sp_law_fields K) := by
  have G_law_number := ok_law_number (P := P) (base := base) T
  refine Tx.def0 T 30 rfl T.g_law_fields sc_law_fields (fun _ _ _ _ _ _ us hl => match us, hl with | [_], _ => rfl) (fun vs H Q E h => ?_) (fun f cdv A outer s H vs Q E hr h => ?_)
  · obtain ⟨sa, d, rfl, S, q⟩ := h; rfl
  · obtain ⟨sa, d, rfl, S, q⟩ := h
    refine ⟨_, (pss_one (ps_ret (pe_callTy call_tuple_of (by rfl) T.f_tuple (by decide +kernel) (pa_cons (pe_lc (own := [("k", 1)]) rfl sc_law_fields.nd (pi_range1 (by rfl) T.f_range (pa_cons pe_int pa_nil)) (blkOk_by (own := [("k", 1)]) (N := ["s", "k"]) (sc := (defScope s_law_fields)) (by decide +kernel)) (fun _ _ _ _ _ => (pg_name (i := 1) sc_law_fields.nd rfl (by first | exact Or.inl rfl | exact Or.inr rfl))) (fun _ _ _ _ _ => pts_nil) (fun _ _ _ _ _ => (pe_callO G_law_number (hr.mono (by decide)) (by rfl) pass0 (pa_cons (pv 0) pa_nil)))) pa_nil)))), ?_⟩
    walk_at "rd"
    refine x_r1 (by decide) (by decide) ?_
    refine lc_drawR (K := K) numD Nb (by decide) S (fun i H2 QQ hi S2 sm2 qq => ?_) (fun xs l N H' hl hok S3 O da => ?_)
    · walk_at "rd"
      refine ⟨rfl, ?_⟩
      walk_at "rd"
      exact ⟨sa, d, rfl, S2, fun n H3 hn S3 sm3 => qq n _ ho0 H3 hn S3 ((Own.start _).ext sm3) (.int n)⟩
    · obtain ⟨n1, n2, n3, n4, rfl⟩ : ∃ n1 n2 n3 n4, xs = [n1, n2, n3, n4] := by
        match xs, hl with
        | [a, b, c, d], _ => exact ⟨a, b, c, d, rfl⟩
      obtain ⟨l', ys, el, hly, dy⟩ := dpL_lst da
      cases el
      walk_at "rd"
      refine ⟨l, ys, rfl, .inl ⟨SqL.of (hid_le _ _ (O.n _ _ hly)), fun p hp => ?_⟩⟩
      exact q ⟨0, n1, n2, n3, n4⟩ _ _ _ ⟨hok _ (by simp), hok _ (by simp), hok _ (by simp), hok _ (by simp)⟩ (S3.new hp) (O.hidnew S3 hp) (.tup upd_same (dpLAll_mono (same_new (O.n.free (hid_none hp))) dy))
end
end K97


set_option maxRecDepth 100000
set_option maxHeartbeats 4000000
namespace K97
open PySem PySem.Spec PyProof.Rows L2 TL NB
local macro_rules | `(tactic| walk_at "rd") => `(tactic| repeat (first
  | (with_reducible refine x_seq ?_) | (with_reducible refine x_asg ?_) | (with_reducible refine x_gName ?_) | (with_reducible refine x_ret ?_) | (with_reducible refine x_drop ?_) | (with_reducible refine x_ifS ?_)
  | (with_reducible refine x_op ?_) | (with_reducible refine x_c ?_) | ((with_reducible refine' x_var ?k1 ?_); (case k1 => with_unfolding_all rfl)) | (with_reducible refine x_cb ?_) | (with_reducible refine x_call0 ?_) | (with_reducible refine x_cons ?_) | (with_reducible refine x_nil ?_)
  | (with_reducible refine x_test ?_) | (with_reducible refine x_B ?_) | (with_reducible refine x_bl ?_) | (with_reducible refine x_and ?_) | (with_reducible refine x_or ?_) | (with_reducible refine x_not ?_)
  | (with_reducible refine x_andV ?_) | (with_reducible refine x_orV ?_) | (with_reducible refine x_notV ?_) | (with_reducible refine x_if ?_) | (with_reducible refine x_isN ?_) | (with_reducible refine x_notN ?_)
  | (with_reducible refine x_tup ?_) | (with_reducible refine x_lst ?_) | (with_reducible refine x_sl ?_) | (with_reducible refine x_noPart ?_) | (with_reducible refine x_part ?_) | (with_reducible refine x_int ?_)
  | (with_reducible refine x_bm ?_) | (with_reducible refine x_m1 ?_) | (with_reducible refine x_tyS ?_) | (with_reducible refine x_gNil ?_) | (with_reducible refine x_gCons ?_) | (with_reducible refine x_gSub ?_) | (with_reducible refine x_next ?_) | (with_reducible refine x_brk ?_)
  | (with_reducible refine x_slStep ?_) | (with_reducible refine x_lc ?_) | (with_reducible refine x_for ?_) | (with_reducible refine x_iL ?_) | (with_reducible refine x_iR1 ?_) | (with_reducible refine x_iR3 ?_) | (with_reducible refine x_iS ?_) | (with_reducible refine x_ref ?_) | (with_reducible refine x_yes ?_)
  | (with_reducible refine a_addI ?_) | (with_reducible refine x_I0 ?_) | (with_reducible refine a_eq rfl ?_) | (with_reducible refine a_ne rfl ?_) | (with_reducible refine a_inS ?_) | (with_reducible refine a_ninS ?_) | (with_reducible refine x_strS ?_) | (with_reducible refine x_intI ?_) | (with_reducible refine x_iB ?_) | (with_reducible refine x_iT ?_)))

section
variable {P : Program} {w : World} {K : PySem.W.Frag} {mg : Str → Option Value} {base : Heap}
/-! ### a drawn row -/
theorem pick_name {ws : List Str} {r : Int} (h0 : 0 ≤ r) (h1 : r < (ws.length : Int)) : ∃ z ∈ ws, atI (ws.map V.str) r = some (.str z) := by
  obtain ⟨n, rfl⟩ : ∃ n : Nat, r = (n : Int) := ⟨r.toNat, by omega⟩
  have hn : n < ws.length := by omega
  exact ⟨ws[n], List.getElem_mem hn, ixS (List.getElem?_eq_getElem hn)⟩
structure NmsOk (ws : List Str) : Prop where
  pos : 0 < ws.length
  le : ws.length ≤ 20
  nm : ∀ z ∈ ws, Nm z
def sp_law_row (K : PySem.W.Frag) : Sp := fun vs H Q _ => ∃ (s d nm : Addr) (ws : List Str), vs = [.ref s, .ref nm] ∧ Sta s d H ∧ SqL K (hid s d H) nm (ws.map V.str) ∧ NmsOk ws ∧ Dw K s d H RowT.dat RowT.Ok Q
theorem sc_law_row : FnScope ["s", "names", "sort", "name", "homes", "k", "rooms", "seen", "moved", "sealed", "told", "room"] ["s", "names"] (defScope s_law_row) := ⟨rfl, rfl, rfl, by decide +kernel, rfl, by decide +kernel, by decide +kernel⟩
theorem ok_law_row (T : Tx w K mg) : OkF P w K mg base CX0 4 "_law_row" ["s", "names"] (sp_law_row K) := by
  have G_law_pick := ok_law_pick (P := P) (base := base) T
  have G_law_number := ok_law_number (P := P) (base := base) T
  have G_law_numbers := ok_law_numbers (P := P) (base := base) T
  have G_law_fields := ok_law_fields (P := P) (base := base) T
  refine Tx.def0 T 31 rfl T.g_law_row sc_law_row (fun _ _ _ _ _ _ us hl => match us, hl with | [_, _], _ => rfl) (fun vs H Q E h => ?_) (fun f cdv A outer s H vs Q E hr h => ?_)
  · obtain ⟨sa, d, nm, ws, rfl, S, hn, ok, q⟩ := h; rfl
  · obtain ⟨sa, d, nm, ws, rfl, S, hn, ok, q⟩ := h
    refine ⟨_, (pss_cons (ps_set (i := 2) sc_law_row.nd rfl (by first | exact Or.inl rfl | exact Or.inr rfl) (pe_callO G_law_pick (hr.mono (by decide)) (by rfl) pass0 (pa_cons (pv 0) (pa_cons pe_int pa_nil))))
      (pss_cons (ps_set (i := 3) sc_law_row.nd rfl (by first | exact Or.inl rfl | exact Or.inr rfl) (pe_ix ix_seq (pv 1) (pe_callO G_law_pick (hr.mono (by decide)) (by rfl) pass0 (pa_cons (pv 0) (pa_cons (pe_callB (call_lenG) (by rfl) T.f_len (by decide +kernel) (pa_cons (pv 1) pa_nil)) pa_nil))) (fun _ _ => rfl)))
      (pss_cons (ps_if (pt_cmpR (op_eqG hr.units) (pv 2) pe_int (nomark _))
        (pss_one (ps_ret (pe_tup (pa_cons pe_str (pa_cons (pe_callO G_law_number (hr.mono (by decide)) (by rfl) pass0 (pa_cons (pv 0) pa_nil)) (pa_cons (pv 3) (pa_cons (pe_ix ix_seq (pv 1) (pe_callO G_law_pick (hr.mono (by decide)) (by rfl) pass0 (pa_cons (pv 0) (pa_cons (pe_callB (call_lenG) (by rfl) T.f_len (by decide +kernel) (pa_cons (pv 1) pa_nil)) pa_nil))) (fun _ _ => rfl)) (pa_cons (pe_callO G_law_number (hr.mono (by decide)) (by rfl) pass0 (pa_cons (pv 0) pa_nil)) (pa_cons (pe_cmpR (op_eqG hr.units) (pe_callO G_law_pick (hr.mono (by decide)) (by rfl) pass0 (pa_cons (pv 0) (pa_cons pe_int pa_nil))) pe_int (nomark _)) pa_nil)))))))))
        pss_nil)
      (pss_cons (ps_if (pt_cmpR (op_eqG hr.units) (pv 2) pe_int (nomark _))
        (pss_one (ps_ret (pe_tup (pa_cons pe_str (pa_cons (pe_callO G_law_number (hr.mono (by decide)) (by rfl) pass0 (pa_cons (pv 0) pa_nil)) (pa_cons (pv 3) pa_nil))))))
        pss_nil)
      (pss_cons (ps_if (pt_cmpR (op_eqG hr.units) (pv 2) pe_int (nomark _))
        (pss_one (ps_ret (pe_tup (pa_cons pe_str (pa_cons (pe_callO G_law_number (hr.mono (by decide)) (by rfl) pass0 (pa_cons (pv 0) pa_nil)) pa_nil)))))
        pss_nil)
      (pss_cons (ps_if (pt_cmpR (op_eqG hr.units) (pv 2) pe_int (nomark _))
        (pss_one (ps_ret (pe_tup (pa_cons pe_str (pa_cons (pv 3) (pa_cons (pe_callO G_law_numbers (hr.mono (by decide)) (by rfl) pass0 (pa_cons (pv 0) pa_nil)) pa_nil))))))
        pss_nil)
      (pss_cons (ps_if (pt_cmpR (op_eqG hr.units) (pv 2) pe_int (nomark _))
        (pss_cons (ps_set (i := 4) sc_law_row.nd rfl (by first | exact Or.inl rfl | exact Or.inr rfl) (pe_lst pa_nil))
        (pss_cons (ps_for PassesOwn.never rfl (pi_range1 (by rfl) T.f_range (pa_cons (pe_callO G_law_pick (hr.mono (by decide)) (by rfl) pass0 (pa_cons (pv 0) (pa_cons pe_int pa_nil))) pa_nil)) (pg_name (i := 5) sc_law_row.nd rfl (by first | exact Or.inl rfl | exact Or.inr rfl))
          (pss_one (ps_expr (pe_bm PySem.F.plainAttrs_list PySem.F.slot_list_append PySem.F.type_list_append mt_append (pv 4) (pa_cons (pe_tup (pa_cons (pe_callO G_law_number (hr.mono (by decide)) (by rfl) pass0 (pa_cons (pv 0) pa_nil)) (pa_cons (pe_callO G_law_fields (hr.mono (by decide)) (by rfl) pass0 (pa_cons (pv 0) pa_nil)) (pa_cons (pe_callO G_law_number (hr.mono (by decide)) (by rfl) pass0 (pa_cons (pv 0) pa_nil)) (pa_cons (pe_cmpR (op_eqG hr.units) (pe_callO G_law_pick (hr.mono (by decide)) (by rfl) pass0 (pa_cons (pv 0) (pa_cons pe_int pa_nil))) pe_int (nomark _)) pa_nil))))) pa_nil)))))
        (pss_one (ps_ret (pe_tup (pa_cons pe_str (pa_cons (pv 3) (pa_cons (pe_callO G_law_numbers (hr.mono (by decide)) (by rfl) pass0 (pa_cons (pv 0) pa_nil)) (pa_cons (pv 4) pa_nil)))))))))
        pss_nil)
      (pss_cons (ps_setLc (i := 6) (own := [("k", 5)]) rfl sc_law_row.nd rfl rfl (sw_true rfl rfl rfl (by decide +kernel)) (pi_range1 (by rfl) T.f_range (pa_cons (pe_op op_addG pe_int (pe_callO G_law_pick (hr.mono (by decide)) (by rfl) pass0 (pa_cons (pv 0) (pa_cons pe_int pa_nil)))) pa_nil)) (blkOk_by (own := [("k", 5)]) (N := ["s", "names", "sort", "name", "homes", "k", "rooms", "seen", "moved", "sealed", "told", "room"]) (sc := (defScope s_law_row)) (by decide +kernel)) (fun _ _ _ _ _ => (pg_name (i := 5) sc_law_row.nd rfl (by first | exact Or.inl rfl | exact Or.inr rfl))) (fun _ _ _ _ _ => pts_nil) (fun _ _ _ _ _ => (pe_ix ix_seqB (pv 1) (pe_callO G_law_pick (hr.mono (by decide)) (by rfl) pass0 (pa_cons (pv 0) (pa_cons (pe_callB (call_lenGB) (by rfl) T.f_len (by decide +kernel) (pa_cons (pv 1) pa_nil)) pa_nil))) (fun _ _ => rfl))))
      (pss_cons (ps_setLc (i := 7) (own := [("room", 11)]) rfl sc_law_row.nd rfl rfl (sw_true rfl rfl rfl (by decide +kernel)) (pi_list (pv 6)) (blkOk_by (own := [("room", 11)]) (N := ["s", "names", "sort", "name", "homes", "k", "rooms", "seen", "moved", "sealed", "told", "room"]) (sc := (defScope s_law_row)) (by decide +kernel)) (fun _ _ _ _ _ => (pg_name (i := 11) sc_law_row.nd rfl (by first | exact Or.inl rfl | exact Or.inr rfl))) (fun _ _ _ _ _ => pts_nil) (fun _ _ _ _ _ => (pe_tup (pa_cons (pv 11) (pa_cons (pe_callO G_law_numbers (hr.mono (by decide)) (by rfl) pass0 (pa_cons (pv 0) pa_nil)) (pa_cons (pe_lc (own := [("k", 5)]) rfl sc_law_row.nd (pi_range1 (by rfl) T.f_range (pa_cons (pe_callO G_law_pick (hr.mono (by decide)) (by rfl) pass0 (pa_cons (pv 0) (pa_cons pe_int pa_nil))) pa_nil)) (blkOk_by (own := [("k", 5)]) (N := ["s", "names", "sort", "name", "homes", "k", "rooms", "seen", "moved", "sealed", "told", "room"]) (by with_unfolding_all rfl)) (fun _ _ _ _ _ => (pg_name (i := 5) sc_law_row.nd rfl (by first | exact Or.inl rfl | exact Or.inr rfl))) (fun _ _ _ _ _ => pts_nil) (fun _ _ _ _ _ => (pe_tup (pa_cons (pe_callO G_law_number (hr.mono (by decide)) (by rfl) pass0 (pa_cons (pv 0) pa_nil)) (pa_cons (pe_callO G_law_fields (hr.mono (by decide)) (by rfl) pass0 (pa_cons (pv 0) pa_nil)) pa_nil))))) pa_nil))))))
      (pss_cons (ps_setLc (i := 8) (own := [("k", 5)]) rfl sc_law_row.nd rfl rfl (sw_true rfl rfl rfl (by decide +kernel)) (pi_range1 (by rfl) T.f_range (pa_cons (pe_callO G_law_pick (hr.mono (by decide)) (by rfl) pass0 (pa_cons (pv 0) (pa_cons pe_int pa_nil))) pa_nil)) (blkOk_by (own := [("k", 5)]) (N := ["s", "names", "sort", "name", "homes", "k", "rooms", "seen", "moved", "sealed", "told", "room"]) (sc := (defScope s_law_row)) (by decide +kernel)) (fun _ _ _ _ _ => (pg_name (i := 5) sc_law_row.nd rfl (by first | exact Or.inl rfl | exact Or.inr rfl))) (fun _ _ _ _ _ => pts_nil) (fun _ _ _ _ _ => (pe_tup (pa_cons (pe_callO G_law_number (hr.mono (by decide)) (by rfl) pass0 (pa_cons (pv 0) pa_nil)) (pa_cons (pe_ix ix_seqB (pv 1) (pe_callO G_law_pick (hr.mono (by decide)) (by rfl) pass0 (pa_cons (pv 0) (pa_cons (pe_callB (call_lenGB) (by rfl) T.f_len (by decide +kernel) (pa_cons (pv 1) pa_nil)) pa_nil))) (fun _ _ => rfl)) pa_nil)))))
      (pss_cons (ps_setLc (i := 9) (own := [("k", 5)]) rfl sc_law_row.nd rfl rfl (sw_true rfl rfl rfl (by decide +kernel)) (pi_range1 (by rfl) T.f_range (pa_cons (pe_callO G_law_pick (hr.mono (by decide)) (by rfl) pass0 (pa_cons (pv 0) (pa_cons pe_int pa_nil))) pa_nil)) (blkOk_by (own := [("k", 5)]) (N := ["s", "names", "sort", "name", "homes", "k", "rooms", "seen", "moved", "sealed", "told", "room"]) (sc := (defScope s_law_row)) (by decide +kernel)) (fun _ _ _ _ _ => (pg_name (i := 5) sc_law_row.nd rfl (by first | exact Or.inl rfl | exact Or.inr rfl))) (fun _ _ _ _ _ => pts_nil) (fun _ _ _ _ _ => (pe_ix ix_seqB (pv 1) (pe_callO G_law_pick (hr.mono (by decide)) (by rfl) pass0 (pa_cons (pv 0) (pa_cons (pe_callB (call_lenGB) (by rfl) T.f_len (by decide +kernel) (pa_cons (pv 1) pa_nil)) pa_nil))) (fun _ _ => rfl))))
      (pss_cons (ps_setLc (i := 10) (own := [("k", 5)]) rfl sc_law_row.nd rfl rfl (sw_true rfl rfl rfl (by decide +kernel)) (pi_range1 (by rfl) T.f_range (pa_cons (pe_callO G_law_pick (hr.mono (by decide)) (by rfl) pass0 (pa_cons (pv 0) (pa_cons pe_int pa_nil))) pa_nil)) (blkOk_by (own := [("k", 5)]) (N := ["s", "names", "sort", "name", "homes", "k", "rooms", "seen", "moved", "sealed", "told", "room"]) (sc := (defScope s_law_row)) (by decide +kernel)) (fun _ _ _ _ _ => (pg_name (i := 5) sc_law_row.nd rfl (by first | exact Or.inl rfl | exact Or.inr rfl))) (fun _ _ _ _ _ => pts_nil) (fun _ _ _ _ _ => (pe_tup (pa_cons (pe_ix ix_seqB (pv 1) (pe_callO G_law_pick (hr.mono (by decide)) (by rfl) pass0 (pa_cons (pv 0) (pa_cons (pe_callB (call_lenGB) (by rfl) T.f_len (by decide +kernel) (pa_cons (pv 1) pa_nil)) pa_nil))) (fun _ _ => rfl)) (pa_cons (pe_ix ix_seqB (pv 1) (pe_callO G_law_pick (hr.mono (by decide)) (by rfl) pass0 (pa_cons (pv 0) (pa_cons (pe_callB (call_lenGB) (by rfl) T.f_len (by decide +kernel) (pa_cons (pv 1) pa_nil)) pa_nil))) (fun _ _ => rfl)) pa_nil)))))
      (pss_one (ps_ret (pe_tup (pa_cons pe_str (pa_cons (pv 6) (pa_cons (pv 7) (pa_cons (pe_callO G_law_numbers (hr.mono (by decide)) (by rfl) pass0 (pa_cons (pv 0) pa_nil)) (pa_cons (pe_callO G_law_numbers (hr.mono (by decide)) (by rfl) pass0 (pa_cons (pv 0) pa_nil)) (pa_cons (pv 8) (pa_cons (pv 9) (pa_cons (pe_ifExp (pt_cmpR (op_eqG hr.units) (pe_callO G_law_pick (hr.mono (by decide)) (by rfl) pass0 (pa_cons (pv 0) (pa_cons pe_int pa_nil))) pe_int (nomark _)) pe_non (pv 10)) pa_nil))))))))))))))))))))))), ?_⟩
    have hws : (ws.length : Int) < 1073741824 := by have := ok.le; omega
    have hwp : (0 : Int) < ws.length := by have := ok.pos; omega
    walk_at "rd"
    refine ⟨sa, d, 7, rfl, S, ⟨by decide, by decide⟩, fun r H1 h0 h7 S1 e1 => ?_⟩
    have O1 : Own (hid sa d H) ho0 [] (hid sa d H1) := e1 ▸ Own.start _
    have n1 : SqL K H1 nm (ws.map V.str) := (hid_le (s := sa) (d := d)).seq (O1.g.seq hn)
    walk_at "rd"
    refine a_lenL n1 ?_
    walk_at "rd"
    rw [List.length_map]
    refine ⟨sa, d, ws.length, rfl, S1, ⟨hwp, hws⟩, fun r2 H2 h20 h27 S2 e2 => ?_⟩
    have O2 : Own (hid sa d H) ho0 [] (hid sa d H2) := e2 ▸ O1
    have up : ∀ {H' : Hp}, Same (hid sa d H) (hid sa d H') → SqL K H' nm (ws.map V.str) := fun {H'} e => (hid_le (s := sa) (d := d)).seq (e.seq hn)
    obtain ⟨z, hz, ez⟩ := pick_name h20 h27
    have okz := ok.nm z hz
    refine a_ixL (up O2.g) ez ?_
    walk_at "rd"
    refine x_ite (fun g => ?_) (fun g => ?_)
    · -- made
      walk_at "rd"
      refine ⟨sa, d, rfl, S2, fun n H3 hn3 S3 sm3 => ?_⟩
      have O3 := O2.ext sm3
      walk_at "rd"
      refine a_lenL (up O3.g) ?_
      walk_at "rd"
      rw [List.length_map]
      refine ⟨sa, d, ws.length, rfl, S3, ⟨hwp, hws⟩, fun r4 H4 h40 h47 S4 e4 => ?_⟩
      rw [← e4] at O3
      obtain ⟨z2, hz2, ez2⟩ := pick_name h40 h47
      refine a_ixL (up O3.g) ez2 ?_
      walk_at "rd"
      refine ⟨sa, d, rfl, S4, fun n5 H5 hn5 S5 sm5 => ?_⟩
      have O5 := O3.ext sm5
      walk_at "rd"
      refine ⟨sa, d, 2, rfl, S5, ⟨by decide, by decide⟩, fun r6 H6 h60 h67 S6 e6 => ?_⟩
      rw [← e6] at O5
      walk_at "rd"
      refine ⟨sz_lit (n := 6), fun p hp => ?_⟩
      have O7 := O5.hidnew (o := .tup [.str "made", .int n, .str z, .str z2, .int n5, .bl (decide (V.int r6 = V.int 0))]) S6 hp
      exact q (.made n z z2 n5 (decide (V.int r6 = V.int 0))) _ _ _ ⟨hn3, okz, ok.nm z2 hz2, hn5⟩ (S6.new hp) O7
        (.tup upd_same (.cons (.str _) (.cons (.int _) (.cons (.str _) (.cons (.str _) (.cons (.int _) (.cons (.bl _) .nil)))))))
    walk_at "rd"
    refine x_ite (fun g => ?_) (fun g => ?_)
    · -- went
      walk_at "rd"
      refine ⟨sa, d, rfl, S2, fun n H3 hn3 S3 sm3 => ?_⟩
      have O3 := O2.ext sm3
      walk_at "rd"
      refine ⟨sz_lit (n := 3), fun p hp => ?_⟩
      have O7 := O3.hidnew (o := .tup [.str "went", .int n, .str z]) S3 hp
      exact q (.went n z) _ _ _ ⟨hn3, okz⟩ (S3.new hp) O7 (.tup upd_same (.cons (.str _) (.cons (.int _) (.cons (.str _) .nil))))
    walk_at "rd"
    refine x_ite (fun g => ?_) (fun g => ?_)
    · -- heard
      walk_at "rd"
      refine ⟨sa, d, rfl, S2, fun n H3 hn3 S3 sm3 => ?_⟩
      have O3 := O2.ext sm3
      walk_at "rd"
      refine ⟨sz_lit (n := 2), fun p hp => ?_⟩
      have O7 := O3.hidnew (o := .tup [.str "heard", .int n]) S3 hp
      exact q (.heard n) _ _ _ hn3 (S3.new hp) O7 (.tup upd_same (.cons (.str _) (.cons (.int _) .nil)))
    walk_at "rd"
    refine x_ite (fun g => ?_) (fun g => ?_)
    · -- gave
      walk_at "rd"
      refine ⟨sa, d, rfl, S2, fun ns v N3 H3 hns S3 O3 dv => ?_⟩
      have O4 := O2.call1 O3
      walk_at "rd"
      refine ⟨sz_lit (n := 3), fun p hp => ?_⟩
      have O7 := O4.hidnew (o := .tup [.str "gave", .str z, v]) S3 hp
      have dv2 := dpL_mono (same_new (o := .tup [.str "gave", .str z, v]) (O4.n.free (hid_none hp))) (dpL_mono (O2.uni_new O3.nf) dv)
      exact q (.gave z ns) _ _ _ ⟨okz, hns⟩ (S3.new hp) O7 (.tup upd_same (.cons (.str _) (.cons (.str _) (.cons dv2 .nil))))
    walk_at "rd"
    refine x_ite (fun g => ?_) (fun g => ?_)
    · -- came
      walk_at "rd"
      refine ⟨sz_lit (n := 0), fun l hl => ?_⟩
      have O3 := O2.hidlist (o := .lst []) S2 hl
      have S3 := S2.new (o := .lst []) hl
      generalize upd H2 l (.lst []) = H3 at O3 S3 ⊢
      walk_at "rd"
      refine ⟨sa, d, 3, rfl, S3, ⟨by decide, by decide⟩, fun r4 H4 h40 h43 S4 e4 => ?_⟩
      rw [← e4] at O3
      walk_at "rd"
      refine x_r1 (by omega) (by omega) ?_
      refine forR (fun i σ H' => (∃ x, σ = [some (.ref sa), some (.ref nm), some (.int r), some (.str z), some (.ref l), x, none, none, none, none, none, none]) ∧ ∃ (N : Hp) (acc : List V) (hs : List NewR), hs.length = i ∧ (∀ h ∈ hs, h.Ok) ∧ Sta sa d H' ∧ Own (hid sa d H) N [(l, .lst acc)] (hid sa d H') ∧ DpLAll K N acc (hs.map NewR.dat))
        ⟨⟨_, rfl⟩, _, [], [], rfl, fun _ h => (List.not_mem_nil h).elim, S4, O3, .nil⟩ ?_ ?_
      · rintro i σ H5 hi ⟨⟨x, rfl⟩, N, acc, hs, hhl, hok, S5, O5, da⟩
        have hl5 := hid_le _ _ (O5.get 0)
        walk_at "rd"
        refine x_tyL (SqL.of hl5) ?_
        walk_at "rd"
        refine ⟨sa, d, rfl, S5, fun n6 H6 hn6 S6 sm6 => ?_⟩
        have O6 := O5.ext sm6
        walk_at "rd"
        refine ⟨sa, d, rfl, S6, fun h7 v7 N7 H7 ok7 S7 O7 dv7 => ?_⟩
        have O8 := O6.call1 O7
        have dv8 := dpL_mono (O6.uni_new O7.nf) dv7
        replace da := dpLAll_mono (uni_l (B := N7)) da
        generalize uni N N7 = N8 at O8 dv8 da
        walk_at "rd"
        refine ⟨sa, d, rfl, S7, fun n9 H9 hn9 S9 sm9 => ?_⟩
        have O9 := O8.ext sm9
        walk_at "rd"
        refine ⟨sa, d, 2, rfl, S9, ⟨by decide, by decide⟩, fun r10 H10 h100 h102 S10 e10 => ?_⟩
        rw [← e10] at O9
        walk_at "rd"
        refine ⟨sz_lit (n := 4), fun p hp => ?_⟩
        have O11 := O9.hidnew (o := .tup [.int n6, v7, .int n9, .bl (decide (V.int r10 = V.int 0))]) S10 hp
        have S11 := S10.new (o := .tup [.int n6, v7, .int n9, .bl (decide (V.int r10 = V.int 0))]) hp
        have fz := same_new (o := .tup [.int n6, v7, .int n9, .bl (decide (V.int r10 = V.int 0))]) (O9.n.free (hid_none hp))
        have dvp : DpL K (upd N8 p (.tup [.int n6, v7, .int n9, .bl (decide (V.int r10 = V.int 0))])) (.ref p) (NewR.dat ⟨{ h7 with cell := n6 }, n9, decide (V.int r10 = V.int 0)⟩) :=
          .tup upd_same (.cons (.int _) (.cons (dpL_mono fz dv8) (.cons (.int _) (.cons (.bl _) .nil))))
        replace da := dpLAll_mono fz da
        generalize upd H10 p _ = H11 at O11 S11 ⊢
        generalize upd N8 p _ = N11 at O11 dvp da
        walk_at "rd"
        have hla := dpAll_len da.dp
        rw [List.length_map, hhl] at hla
        refine x_append (hid_le _ _ (O11.get 0)) (sz_lt (by omega)) ?_
        refine ⟨⟨_, rfl⟩, N11, acc ++ [.ref p], hs ++ [⟨{ h7 with cell := n6 }, n9, decide (V.int r10 = V.int 0)⟩], by rw [List.length_append, hhl]; rfl, fun y hy => ?_, S11.put (O11.get 0), ?_, ?_⟩
        · rcases List.mem_append.mp hy with hy | hy
          · exact hok y hy
          · rw [List.mem_singleton.mp hy]
            exact ⟨⟨hn6, ok7.1, ok7.2.1, ok7.2.2.1, ok7.2.2.2⟩, hn9⟩
        · rw [hid_at (O11.get 0)]
          exact O11.put 0
        · rw [List.map_append]
          exact dpL_app da (.cons dvp .nil)
      · rintro σ H5 ⟨⟨x, rfl⟩, N, acc, hs, hhl, hok, S5, O5, da⟩
        have O5' := O5.fix
        have dl : DpL K (upd N l (.lst acc)) (.ref l) (.list (hs.map NewR.dat)) := .lst upd_same (dpLAll_mono (fun b o e => by
          by_cases hb : b = l
          · subst hb
            rw [O5.ln (b, .lst acc) List.mem_cons_self] at e
            cases e
          · rw [upd_ne hb]; exact e) da)
        generalize upd N l (.lst acc) = N5 at O5' dl
        walk_at "rd"
        refine ⟨sa, d, rfl, S5, fun ns v N3 H6 hns S6 O6 dv => ?_⟩
        have O7 := O5'.call1 O6
        have dv7 := dpL_mono (O5'.uni_new O6.nf) dv
        have dl7 := dpL_mono (uni_l (B := N3)) dl
        walk_at "rd"
        refine ⟨sz_lit (n := 4), fun p hp => ?_⟩
        have fz := same_new (o := .tup [.str "came", .str z, v, .ref l]) (O7.n.free (hid_none hp))
        exact q (.came z ns hs) _ _ _ ⟨okz, hns, by omega, hok⟩ (S6.new hp) (O7.hidnew S6 hp) (.tup upd_same (.cons (.str _) (.cons (.str _) (.cons (dpL_mono fz dv7) (.cons (dpL_mono fz dl7) .nil)))))
    · -- pause
      walk_at "rd"
      refine ⟨sa, d, 3, rfl, S2, ⟨by decide, by decide⟩, fun r3 H3 h30 h33 S3 e3 => ?_⟩
      have O3 : Own (hid sa d H) ho0 [] (hid sa d H3) := e3 ▸ O2
      walk_at "rd"
      refine x_r1 (by omega) (by omega) ?_
      refine lc_drawR (K := K) PyData.str Nm (by omega) S3 (fun i Ha QQ hi Sa sma qq => ?_) (fun rooms l4 N4 H4 hl4 hok4 S4 O4 d4 => ?_)
      · walk_at "rd"
        refine ⟨rfl, ?_⟩
        walk_at "rd"
        refine a_lenL (up (O3.g.trans sma)) ?_
        walk_at "rd"
        rw [List.length_map]
        refine ⟨sa, d, ws.length, rfl, Sa, ⟨hwp, hws⟩, fun rb Hb hb0 hb1 Sb eb => ?_⟩
        obtain ⟨zb, hzb, ezb⟩ := pick_name hb0 hb1
        exact a_ixL (up (O3.g.trans (eb ▸ sma))) ezb (qq zb _ ho0 Hb (ok.nm zb hzb) Sb (eb ▸ Own.start _) (.str zb))
      replace O4 := O3.call1 O4
      replace d4 := dpL_mono (uni_r (A := ho0) (B := N4) fun _ _ _ => rfl) d4
      generalize uni ho0 N4 = N4' at O4 d4
      obtain ⟨l4', vs4, el4, hl4v, dl4⟩ := dpL_lst d4
      cases el4
      have ev4 := strs_of_dp dl4.dp
      subst ev4
      walk_at "rd"
      refine lc_drawL (K := K) Seen.dat Seen.Ok (by rw [List.length_map]; omega) S4 (SqL.of (O4.n _ _ hl4v)) (fun i zz Ha QQ hzz Sa sma qq => ?_) (fun seen l5 N5 H5 hl5 hok5 S5 O5 d5 => ?_)
      · obtain ⟨room, hroom, rfl⟩ : ∃ room, rooms[i]? = some room ∧ zz = .str room := by
          rw [List.getElem?_map] at hzz
          cases e : rooms[i]? with
          | none => rw [e] at hzz; cases hzz
          | some y => rw [e] at hzz; cases hzz; exact ⟨y, rfl, rfl⟩
        walk_at "rd"
        refine ⟨rfl, ?_⟩
        walk_at "rd"
        refine ⟨sa, d, rfl, Sa, fun ns v Nb1 Hb hns Sb Ob dv => ?_⟩
        walk_at "rd"
        refine ⟨sa, d, 3, rfl, Sb, ⟨by decide, by decide⟩, fun rc Hc hc0 hc3 Sc ec => ?_⟩
        rw [← ec] at Ob
        walk_at "rd"
        refine x_r1 (by omega) (by omega) ?_
        refine lc_drawR (K := K) Home.dat Home.Ok (by omega) Sc (fun j Hd QD hj Sd smd qd => ?_) (fun homes l6 N6 H6 hl6 hok6 S6 O6 d6 => ?_)
        · walk_at "rd"
          refine ⟨rfl, ?_⟩
          walk_at "rd"
          refine ⟨sa, d, rfl, Sd, fun n7 H7 hn7 S7 sm7 => ?_⟩
          walk_at "rd"
          refine ⟨sa, d, rfl, S7, fun h8 v8 N8 H8 ok8 S8 O8 dv8 => ?_⟩
          have O9 := ((Own.start (hid sa d Hd)).ext sm7).call1 O8
          replace dv8 := dpL_mono (uni_r (A := ho0) (B := N8) fun _ _ _ => rfl) dv8
          generalize uni ho0 N8 = N8' at O9 dv8
          walk_at "rd"
          refine ⟨sz_lit (n := 2), fun p hp => ?_⟩
          have fz := same_new (o := .tup [.int n7, v8]) (O9.n.free (hid_none hp))
          exact qd { h8 with cell := n7 } _ _ _ ⟨hn7, ok8.1, ok8.2.1, ok8.2.2.1, ok8.2.2.2⟩ (S8.new hp) (O9.hidnew S8 hp) (.tup upd_same (.cons (.int _) (.cons (dpL_mono fz dv8) .nil)))
        · have O9 := Ob.call1 O6
          have dv9 := dpL_mono (uni_l (B := N6)) dv
          have dl9 := dpL_mono (Ob.uni_new O6.nf) d6
          generalize uni Nb1 N6 = N9 at O9 dv9 dl9
          walk_at "rd"
          refine ⟨sz_lit (n := 3), fun p hp => ?_⟩
          have fz := same_new (o := .tup [.str room, v, .ref l6]) (O9.n.free (hid_none hp))
          exact qq ⟨room, ns, homes⟩ _ _ _ ⟨hok4 room (List.mem_of_getElem? hroom), hns, (by show homes.length ≤ 5; omega), hok6⟩ (S6.new hp) (O9.hidnew S6 hp) (.tup upd_same (.cons (.str _) (.cons (dpL_mono fz dv9) (.cons (dpL_mono fz dl9) .nil))))
      rw [List.length_map] at hl5
      replace d5 := dpL_mono (O4.uni_new O5.nf) d5
      replace d4 := dpL_mono (uni_l (B := N5)) d4
      replace O5 := O4.call1 O5
      generalize uni N4' N5 = N5' at O5 d5 d4
      walk_at "rd"
      -- moved
      refine ⟨sa, d, 3, rfl, S5, ⟨by decide, by decide⟩, fun r6 H6 h60 h63 S6 e6 => ?_⟩
      rw [← e6] at O5
      walk_at "rd"
      refine x_r1 (by omega) (by omega) ?_
      refine lc_drawR (K := K) movD (fun m => Nb m.1 ∧ Nm m.2) (by omega) S6 (fun i Ha QQ hi Sa sma qq => ?_) (fun moved l7 N7 H7 hl7 hok7 S7 O7 d7 => ?_)
      · walk_at "rd"
        refine ⟨rfl, ?_⟩
        walk_at "rd"
        refine ⟨sa, d, rfl, Sa, fun n8 H8 hn8 S8 sm8 => ?_⟩
        walk_at "rd"
        refine a_lenL (up (O5.g.trans (sma.trans sm8))) ?_
        walk_at "rd"
        rw [List.length_map]
        refine ⟨sa, d, ws.length, rfl, S8, ⟨hwp, hws⟩, fun rb Hb hb0 hb1 Sb eb => ?_⟩
        obtain ⟨zb, hzb, ezb⟩ := pick_name hb0 hb1
        refine a_ixL (up (O5.g.trans (sma.trans (eb ▸ sm8)))) ezb ?_
        walk_at "rd"
        refine ⟨sz_lit (n := 2), fun p hp => ?_⟩
        have Ob : Own (hid sa d Ha) ho0 [] (hid sa d Hb) := (Own.start _).ext (eb ▸ sm8)
        exact qq (n8, zb) _ _ _ ⟨hn8, ok.nm zb hzb⟩ (Sb.new hp) (Ob.hidnew Sb hp) (.tup upd_same (.cons (.int _) (.cons (.str _) .nil)))
      replace d7 := dpL_mono (O5.uni_new O7.nf) d7
      replace d4 := dpL_mono (uni_l (B := N7)) d4
      replace d5 := dpL_mono (uni_l (B := N7)) d5
      replace O7 := O5.call1 O7
      generalize uni N5' N7 = N7' at O7 d5 d4 d7
      walk_at "rd"
      -- sealed
      refine ⟨sa, d, 3, rfl, S7, ⟨by decide, by decide⟩, fun r8 H8 h80 h83 S8 e8 => ?_⟩
      rw [← e8] at O7
      walk_at "rd"
      refine x_r1 (by omega) (by omega) ?_
      refine lc_drawR (K := K) PyData.str Nm (by omega) S8 (fun i Ha QQ hi Sa sma qq => ?_) (fun sealed l9 N9 H9 hl9 hok9 S9 O9 d9 => ?_)
      · walk_at "rd"
        refine ⟨rfl, ?_⟩
        walk_at "rd"
        refine a_lenL (up (O7.g.trans sma)) ?_
        walk_at "rd"
        rw [List.length_map]
        refine ⟨sa, d, ws.length, rfl, Sa, ⟨hwp, hws⟩, fun rb Hb hb0 hb1 Sb eb => ?_⟩
        obtain ⟨zb, hzb, ezb⟩ := pick_name hb0 hb1
        exact a_ixL (up (O7.g.trans (eb ▸ sma))) ezb (qq zb _ ho0 Hb (ok.nm zb hzb) Sb (eb ▸ Own.start _) (.str zb))
      replace d9 := dpL_mono (O7.uni_new O9.nf) d9
      replace d4 := dpL_mono (uni_l (B := N9)) d4
      replace d5 := dpL_mono (uni_l (B := N9)) d5
      replace d7 := dpL_mono (uni_l (B := N9)) d7
      replace O9 := O7.call1 O9
      generalize uni N7' N9 = N9' at O9 d5 d4 d7 d9
      walk_at "rd"
      -- told
      refine ⟨sa, d, 3, rfl, S9, ⟨by decide, by decide⟩, fun r10 H10 h100 h103 S10 e10 => ?_⟩
      rw [← e10] at O9
      walk_at "rd"
      refine x_r1 (by omega) (by omega) ?_
      refine lc_drawR (K := K) telD (fun m => Nm m.1 ∧ Nm m.2) (by omega) S10 (fun i Ha QQ hi Sa sma qq => ?_) (fun told l11 N11 H11 hl11 hok11 S11 O11 d11 => ?_)
      · walk_at "rd"
        refine ⟨rfl, ?_⟩
        walk_at "rd"
        refine a_lenL (up (O9.g.trans sma)) ?_
        walk_at "rd"
        rw [List.length_map]
        refine ⟨sa, d, ws.length, rfl, Sa, ⟨hwp, hws⟩, fun rb Hb hb0 hb1 Sb eb => ?_⟩
        obtain ⟨zb, hzb, ezb⟩ := pick_name hb0 hb1
        refine a_ixL (up (O9.g.trans (eb ▸ sma))) ezb ?_
        walk_at "rd"
        refine a_lenL (up (O9.g.trans (eb ▸ sma))) ?_
        walk_at "rd"
        rw [List.length_map]
        refine ⟨sa, d, ws.length, rfl, Sb, ⟨hwp, hws⟩, fun rc Hc hc0 hc1 Sc ec => ?_⟩
        obtain ⟨zc, hzc, ezc⟩ := pick_name hc0 hc1
        have smc : hid sa d Hc = hid sa d Ha := ec.trans eb
        refine a_ixL (up (O9.g.trans (smc ▸ sma))) ezc ?_
        walk_at "rd"
        refine ⟨sz_lit (n := 2), fun p hp => ?_⟩
        have Ob : Own (hid sa d Ha) ho0 [] (hid sa d Hc) := smc ▸ Own.start _
        exact qq (zb, zc) _ _ _ ⟨ok.nm zb hzb, ok.nm zc hzc⟩ (Sc.new hp) (Ob.hidnew Sc hp) (.tup upd_same (.cons (.str _) (.cons (.str _) .nil)))
      replace d11 := dpL_mono (O9.uni_new O11.nf) d11
      replace d4 := dpL_mono (uni_l (B := N11)) d4
      replace d5 := dpL_mono (uni_l (B := N11)) d5
      replace d7 := dpL_mono (uni_l (B := N11)) d7
      replace d9 := dpL_mono (uni_l (B := N11)) d9
      replace O11 := O9.call1 O11
      generalize uni N9' N11 = N11' at O11 d5 d4 d7 d9 d11
      walk_at "rd"
      -- the row
      refine ⟨sa, d, rfl, S11, fun gone v12 N12 H12 ok12 S12 O12 d12 => ?_⟩
      replace d12 := dpL_mono (O11.uni_new O12.nf) d12
      replace d4 := dpL_mono (uni_l (B := N12)) d4
      replace d5 := dpL_mono (uni_l (B := N12)) d5
      replace d7 := dpL_mono (uni_l (B := N12)) d7
      replace d9 := dpL_mono (uni_l (B := N12)) d9
      replace d11 := dpL_mono (uni_l (B := N12)) d11
      replace O12 := O11.call1 O12
      generalize uni N11' N12 = N12' at O12 d5 d4 d7 d9 d11 d12
      walk_at "rd"
      refine ⟨sa, d, rfl, S12, fun called v13 N13 H13 ok13 S13 O13 d13 => ?_⟩
      replace d13 := dpL_mono (O12.uni_new O13.nf) d13
      replace d4 := dpL_mono (uni_l (B := N13)) d4
      replace d5 := dpL_mono (uni_l (B := N13)) d5
      replace d7 := dpL_mono (uni_l (B := N13)) d7
      replace d9 := dpL_mono (uni_l (B := N13)) d9
      replace d11 := dpL_mono (uni_l (B := N13)) d11
      replace d12 := dpL_mono (uni_l (B := N13)) d12
      replace O13 := O12.call1 O13
      generalize uni N12' N13 = N13' at O13 d5 d4 d7 d9 d11 d12 d13
      walk_at "rd"
      refine ⟨sa, d, 3, rfl, S13, ⟨by decide, by decide⟩, fun r14 H14 h140 h143 S14 e14 => ?_⟩
      rw [← e14] at O13
      walk_at "rd"
      have fin : ∀ (tl : Option (List (Str × Str))) (vt : V), DpL K N13' vt (tolD tl) → (∀ ts, tl = some ts → ts.length ≤ 5 ∧ ∀ m ∈ ts, Nm m.1 ∧ Nm m.2) → ∀ p, H14 p = none → Q (.ref p) (upd H14 p (.tup [.str "pause", .ref l4, .ref l5, v12, v13, .ref l7, .ref l9, vt])) := fun tl vt dt okt p hp => by
        have fz := same_new (o := .tup [.str "pause", .ref l4, .ref l5, v12, v13, .ref l7, .ref l9, vt]) (O13.n.free (hid_none hp))
        refine q (.pause rooms seen gone called moved sealed tl) _ _ _ ?_ (S14.new hp) (O13.hidnew S14 hp) (.tup upd_same (.cons (.str _) (.cons (dpL_mono fz d4) (.cons (dpL_mono fz d5) (.cons (dpL_mono fz d12) (.cons (dpL_mono fz d13) (.cons (dpL_mono fz d7) (.cons (dpL_mono fz d9) (.cons (dpL_mono fz dt) .nil)))))))))
        exact ⟨by omega, by omega, ⟨by omega, hok4⟩, ⟨by omega, hok5⟩, ok12, ok13, ⟨by omega, hok7⟩, ⟨by omega, hok9⟩, okt⟩
      refine x_ite (fun g => ?_) (fun g => ?_)
      · walk_at "rd"
        exact ⟨sz_lit (n := 8), fun p hp => fin none _ .non (fun _ h => by cases h) p hp⟩
      · walk_at "rd"
        exact ⟨sz_lit (n := 8), fun p hp => fin (some told) _ d11 (fun _ h => by cases h; exact ⟨by omega, hok11⟩) p hp⟩
end
end K97


set_option maxRecDepth 100000
set_option maxHeartbeats 4000000
namespace K97
open PySem PySem.Spec PyProof.Rows L2 TL NB
local macro_rules | `(tactic| walk_at "rd") => `(tactic| repeat (first
  | (with_reducible refine x_seq ?_) | (with_reducible refine x_asg ?_) | (with_reducible refine x_gName ?_) | (with_reducible refine x_ret ?_) | (with_reducible refine x_drop ?_) | (with_reducible refine x_ifS ?_)
  | (with_reducible refine x_op ?_) | (with_reducible refine x_c ?_) | ((with_reducible refine' x_var ?k1 ?_); (case k1 => with_unfolding_all rfl)) | (with_reducible refine x_cb ?_) | (with_reducible refine x_call0 ?_) | (with_reducible refine x_cons ?_) | (with_reducible refine x_nil ?_)
  | (with_reducible refine x_test ?_) | (with_reducible refine x_B ?_) | (with_reducible refine x_bl ?_) | (with_reducible refine x_and ?_) | (with_reducible refine x_or ?_) | (with_reducible refine x_not ?_)
  | (with_reducible refine x_andV ?_) | (with_reducible refine x_orV ?_) | (with_reducible refine x_notV ?_) | (with_reducible refine x_if ?_) | (with_reducible refine x_isN ?_) | (with_reducible refine x_notN ?_)
  | (with_reducible refine x_tup ?_) | (with_reducible refine x_lst ?_) | (with_reducible refine x_sl ?_) | (with_reducible refine x_noPart ?_) | (with_reducible refine x_part ?_) | (with_reducible refine x_int ?_)
  | (with_reducible refine x_bm ?_) | (with_reducible refine x_m1 ?_) | (with_reducible refine x_tyS ?_) | (with_reducible refine x_gNil ?_) | (with_reducible refine x_gCons ?_) | (with_reducible refine x_gSub ?_) | (with_reducible refine x_next ?_) | (with_reducible refine x_brk ?_)
  | (with_reducible refine x_slStep ?_) | (with_reducible refine x_lc ?_) | (with_reducible refine x_for ?_) | (with_reducible refine x_iL ?_) | (with_reducible refine x_iR1 ?_) | (with_reducible refine x_iR3 ?_) | (with_reducible refine x_iS ?_) | (with_reducible refine x_ref ?_) | (with_reducible refine x_yes ?_)
  | (with_reducible refine a_addI ?_) | (with_reducible refine x_I0 ?_) | (with_reducible refine a_eq rfl ?_) | (with_reducible refine a_ne rfl ?_) | (with_reducible refine a_inS ?_) | (with_reducible refine a_ninS ?_) | (with_reducible refine x_strS ?_) | (with_reducible refine x_intI ?_) | (with_reducible refine x_iB ?_) | (with_reducible refine x_iT ?_)))

section
variable {P : Program} {w : World} {K : PySem.W.Frag} {mg : Str → Option Value} {base : Heap}
/-! ### the state is laid -/
def sp_law_open (K : PySem.W.Frag) : Sp := fun vs H Q _ => ∃ (a : Addr) (ns : List Int), vs = [.ref a] ∧ SqL K H a (ns.map V.int) ∧ ns.length ≤ 63 ∧ ∀ s d H', Sta s d H' → Same H (hid s d H') → Q (.ref s) H'
theorem sc_law_open : FnScope ["script", "deep", "mix", "k", "cell"] ["script"] (defScope s_law_open) := ⟨rfl, rfl, rfl, by decide +kernel, rfl, by decide +kernel, by decide +kernel⟩
theorem ok_law_open (T : Tx w K mg) : OkF P w K mg base CX0 1 "_law_open" ["script"] (sp_law_open K) := by
  refine Tx.def0 T 20 rfl T.g_law_open sc_law_open (fun _ _ _ _ _ _ us hl => match us, hl with | [_], _ => rfl) (fun vs H Q E h => ?_) (fun f cdv A outer s H vs Q E hr h => ?_)
  · obtain ⟨a, ns, rfl, hs, hl, q⟩ := h; rfl
  · obtain ⟨a, ns, rfl, hs, hl, q⟩ := h
    refine ⟨_, (pss_cons (ps_set (i := 1) sc_law_open.nd rfl (by first | exact Or.inl rfl | exact Or.inr rfl) (pe_lst pa_nil))
      (pss_cons (ps_set (i := 2) sc_law_open.nd rfl (by first | exact Or.inl rfl | exact Or.inr rfl) pe_int)
      (pss_cons (ps_for PassesOwn.never rfl (pi_range1 (by rfl) T.f_range (pa_cons (pe_callB (call_min2 rfl) (by rfl) T.f_min (by decide +kernel) (pa_cons (pe_callB (call_lenG) (by rfl) T.f_len (by decide +kernel) (pa_cons (pv 0) pa_nil)) (pa_cons pe_int pa_nil))) pa_nil)) (pg_name (i := 3) sc_law_open.nd rfl (by first | exact Or.inl rfl | exact Or.inr rfl))
        (pss_cons (ps_set (i := 4) sc_law_open.nd rfl (by first | exact Or.inl rfl | exact Or.inr rfl) (pe_callTy call_intG (by rfl) T.f_int (by decide +kernel) (pa_cons (pe_ix ix_seq (pv 0) (pv 3) (fun _ _ => rfl)) pa_nil)))
        (pss_one (ps_if (pt_cmpR op_ge (pe_callB (call_abs) (by rfl) T.f_abs (by decide +kernel) (pa_cons (pv 4) pa_nil)) (pe_op op_pow pe_int pe_int) (nomark _))
          (pss_one (ps_expr (pe_bm PySem.F.plainAttrs_list PySem.F.slot_list_append PySem.F.type_list_append mt_append (pv 1) (pa_cons (pe_callB (call_abs) (by rfl) T.f_abs (by decide +kernel) (pa_cons (pv 4) pa_nil)) pa_nil))))
          (pss_one (ps_set (i := 2) sc_law_open.nd rfl (by first | exact Or.inl rfl | exact Or.inr rfl) (pe_op op_mod (pe_op op_addG (pe_op op_addG (pe_op op_addG (pe_op op_mul (pv 2) pe_int) (pe_op op_mod (pv 4) pe_int)) (pe_op op_mul pe_int (pv 3))) pe_int) pe_int)))))))
      (pss_one (ps_ret (pe_lst (pa_cons (pv 2) (pa_cons (pv 1) (pa_cons pe_int pa_nil))))))))), ?_⟩
    walk_at "rd"
    refine ⟨sz_lit (n := 0), fun d hd => ?_⟩
    have L1 : Ln H d (([] : List Int).map V.int) (upd H d (.lst [])) := Ln.new hd
    generalize upd H d (.lst []) = H1 at L1 ⊢
    walk_at "rd"
    refine a_lenL (L1.sm.seq hs) ?_
    walk_at "rd"
    rw [List.length_map]
    refine ⟨_, _, rfl, ?_⟩
    walk_at "rd"
    rw [if_neg (by omega)]
    refine x_r1 (by omega) (by omega) ?_
    refine forR (fun i σ H' => (∃ (m : Int) (x3 x4 : Option V), σ = [some (.ref a), some (.ref d), some (.int m), x3, x4]) ∧ ∃ xs : List Int, xs.length ≤ i ∧ Ln H d (xs.map V.int) H') ⟨⟨_, _, _, rfl⟩, [], Nat.zero_le _, L1⟩ ?_ ?_
    · rintro i σ H2 hi ⟨⟨m, x3, x4, rfl⟩, xs, hx, L2⟩
      have hi : i < ns.length := by omega
      walk_at "rd"
      refine a_ixL (L2.sm.seq hs) (i := 0 + (i : Int)) (by rw [Int.zero_add]; exact atI_nat (ints_ix (List.getElem?_eq_getElem hi))) ?_
      walk_at "rd"
      refine ⟨_, rfl, ?_⟩
      walk_at "rd"
      refine x_I ⟨by decide, by decide, by decide⟩ ?_
      walk_at "rd"
      refine x_ite (fun g => ?_) (fun g => ?_)
      · walk_at "rd"
        refine x_tyL L2.seq ?_
        walk_at "rd"
        refine ⟨_, rfl, ?_⟩
        walk_at "rd"
        refine x_append L2.at_ (sz_lt (by rw [List.length_map]; omega)) ?_
        refine ⟨⟨_, _, _, rfl⟩, xs ++ [if ns[i] < 0 then -ns[i] else ns[i]], by rw [List.length_append]; show _ + 1 ≤ _; omega, ?_⟩
        rw [List.map_append]
        exact L2.put
      · walk_at "rd"
        refine x_I (.inr ⟨by decide, by decide⟩) ?_
        walk_at "rd"
        refine x_I (by decide) ?_
        walk_at "rd"
        refine x_I (.inl ⟨by decide, by decide⟩) ?_
        walk_at "rd"
        refine x_I (by decide) ?_
        walk_at "rd"
        exact ⟨⟨_, _, _, rfl⟩, xs, by omega, L2⟩
    · rintro σ H2 ⟨⟨m, x3, x4, rfl⟩, xs, hx, L2⟩
      walk_at "rd"
      refine ⟨sz_lit (n := 3), fun p hp => ?_⟩
      have hne : p ≠ d := fun e => by rw [e, L2.at_] at hp; cases hp
      refine q p d _ ⟨hne, m, 0, xs, Int.le_refl _, upd_same, by rw [upd_ne hne.symm]; exact L2.at_⟩ fun b o e => ?_
      have hb1 : b ≠ p := ne_of_none (L2.sm _ _ e) hp
      have hb2 : b ≠ d := ne_of_none e L2.fr
      unfold hid
      rw [if_neg (by rintro (h | h); exact hb1 h; exact hb2 h), upd_ne hb1]
      exact L2.sm _ _ e
/-! ### the words -/
def sp_law_keys : Sp := fun vs H Q _ => vs = [] ∧ ∀ p H', H p = none → Same H H' → H' p = some (.lst (l_KEYS.map V.str)) → Q (.ref p) H'
theorem sc_law_keys : FnScope ["first"] [] (defScope s_law_keys) := ⟨rfl, rfl, rfl, by decide +kernel, rfl, by decide +kernel, by decide +kernel⟩
theorem ok_law_keys (T : Tx w K mg) : OkF P w K mg base CX0 1 "_law_keys" [] sp_law_keys := by
  refine Tx.def0 T 23 rfl T.g_law_keys sc_law_keys (fun _ _ _ _ _ _ us hl => match us, hl with | [], _ => rfl) (fun vs H Q E h => ?_) (fun f cdv A outer s H vs Q E hr h => ?_)
  · obtain ⟨rfl, q⟩ := h; rfl
  · obtain ⟨rfl, q⟩ := h
    refine ⟨_, (pss_cons (ps_set (i := 0) sc_law_keys.nd rfl (by first | exact Or.inl rfl | exact Or.inr rfl) (pe_lst (pa_cons pe_str (pa_cons pe_str (pa_cons pe_str (pa_cons pe_str (pa_cons pe_str (pa_cons pe_str (pa_cons pe_str (pa_cons pe_str (pa_cons pe_str (pa_cons pe_str (pa_cons pe_str (pa_cons pe_str (pa_cons pe_str (pa_cons pe_str pa_nil))))))))))))))))
      (pss_one (ps_ret (pe_op op_addG (pv 0) (pe_lst (pa_cons pe_str (pa_cons pe_str (pa_cons pe_str (pa_cons pe_str (pa_cons pe_str (pa_cons pe_str (pa_cons pe_str (pa_cons pe_str (pa_cons pe_str (pa_cons pe_str (pa_cons pe_str (pa_cons pe_str (pa_cons pe_str pa_nil)))))))))))))))))), ?_⟩
    walk_at "rd"
    refine ⟨sz_lit (n := 14), fun p hp => ?_⟩
    walk_at "rd"
    refine ⟨sz_lit (n := 13), fun p2 hp2 => ?_⟩
    refine a_addL (same_new hp2 _ _ upd_same) upd_same (sz_lit (n := 27)) fun p3 hp3 => ?_
    exact q p3 _ ((same_new hp).free ((same_new hp2).free hp3)) ((same_new hp).trans ((same_new hp2).trans (same_new hp3))) upd_same
def letters : Str := "abcdefghijklmnopqrstuvwxyz0123456789"
theorem letters_tl : tl letters = tl (sSmall ++ sDigits) := by decide +kernel
/-- one sign of the letters -/
def Let1 (z : Str) : Prop := ∃ c, z = ⟨#[c]⟩ ∧ c ∈ tl letters
theorem pick_let {r : Int} (h0 : 0 ≤ r) (h1 : r < 36) : ∃ c, atI letters.cps.toList r = some c ∧ c ∈ tl letters := by
  obtain ⟨n, rfl⟩ : ∃ n : Nat, r = (n : Int) := ⟨r.toNat, by omega⟩
  have hl : (tl letters).length = 36 := by decide +kernel
  have hn : n < (tl letters).length := by omega
  exact ⟨(tl letters)[n], atI_nat (List.getElem?_eq_getElem hn), List.getElem_mem hn⟩
theorem pick_small {r : Int} (h0 : 0 ≤ r) (h1 : r < 26) : ∃ c, atI letters.cps.toList r = some c ∧ c ∈ tl sSmall := by
  obtain ⟨n, rfl⟩ : ∃ n : Nat, r = (n : Int) := ⟨r.toNat, by omega⟩
  have e : tl letters = tl sSmall ++ tl sDigits := by decide +kernel
  have hl : (tl sSmall).length = 26 := by decide +kernel
  have hn : n < (tl sSmall).length := by omega
  refine ⟨(tl sSmall)[n], atI_nat ?_, List.getElem_mem hn⟩
  show (tl letters)[n]? = _
  rw [e, List.getElem?_append_left hn]
  exact List.getElem?_eq_getElem hn
theorem joinL_nil : ∀ ls : List (List Nat), joinL [] ls = ls.flatten
  | [] => rfl
  | [p] => by simp [joinL]
  | p :: q :: r => by
    show p ++ ([] ++ joinL [] (q :: r)) = p ++ (q :: r).flatten
    rw [joinL_nil (q :: r)]
    rfl
theorem cat_tl (zs : List Str) : tl (Txt.join "" zs) = (zs.map tl).flatten := by
  rw [join_eq, tl_join]
  exact joinL_nil _
/-- a word as it may be before it is looked at: a letter first, then letters and digits -/
structure Shp (z : Str) : Prop where
  len : z.length ≤ 16
  hd : ∃ c r, tl z = c :: r ∧ c ∈ tl sSmall
  al : ∀ c ∈ tl z, c ∈ tl letters
theorem Shp.nm {z : Str} (h : Shp z) (hk : z ∉ l_KEYS) : Nm z := by
  obtain ⟨h1, ⟨c, r, e, hc⟩, h2⟩ := h
  unfold Nm nameWord
  have hne : z ≠ "" := fun q => by rw [q] at e; cases e
  rw [decide_eq_false hne, decide_eq_false (by omega), decide_eq_false hk, e]
  have h3 : allIn z (sSmall ++ sDigits) = true := by
    unfold allIn
    rw [List.all_eq_true]
    intro d hd
    rw [← letters_tl]
    exact decide_eq_true (h2 d hd)
  rw [h3]
  show (true && (decide (c ∈ tl sSmall) && true)) = true
  rw [decide_eq_true hc]
  rfl
theorem keys_q {z : Str} (h : 113 ∈ tl z) : z ∉ l_KEYS := fun hk => by
  have : (l_KEYS.all fun z => !decide (113 ∈ tl z)) = true := by decide +kernel
  have := List.all_eq_true.mp this z hk
  rw [decide_eq_true h] at this
  cases this
theorem cut8_tl {z : Str} : tl (cutS z none (some 8)) = (tl z).take 8 := by
  unfold cutS
  rw [HT.sIx_none, show (8 : Int) = ((8 : Nat) : Int) from rfl, HT.sIx_nat]
  show (((tl z).drop 0).take (min 8 z.length - 0)) = _
  rw [List.drop_zero, Nat.sub_zero, len_tl]
  by_cases h : 8 ≤ (tl z).length
  · rw [Nat.min_eq_left h]
  · rw [Nat.min_eq_right (by omega), List.take_length, List.take_of_length_le (by omega)]
theorem cut8_len {z : Str} : (cutS z none (some 8)).length ≤ 8 := by
  rw [len_tl, cut8_tl, List.length_take]
  omega
theorem shp_q {z : Str} {i : Nat} (h : Shp z) (hi : i < 90) : Shp (cutS z none (some 8) ++ "q" ++ numS i) := by
  obtain ⟨h1, ⟨c, r, e, hc⟩, h2⟩ := h
  refine ⟨?_, ⟨c, r.take 7 ++ [113] ++ numL i, ?_, hc⟩, fun x hx => ?_⟩
  · have a := cut8_len (z := z)
    have b : (numS i).length ≤ 2 := by rw [len_tl, numS_tl]; exact numL_len (by decide) (by omega)
    rw [Str.length_append, Str.length_append, show ("q" : Str).length = 1 from rfl]
    omega
  · rw [tl_append, tl_append, cut8_tl, numS_tl, e, show tl ("q" : Str) = [113] from rfl]
    rfl
  · rw [tl_append, tl_append, cut8_tl, numS_tl, show tl ("q" : Str) = [113] from rfl] at hx
    rcases List.mem_append.mp hx with hx | hx
    · rcases List.mem_append.mp hx with hx | hx
      · exact h2 x (List.mem_of_mem_take hx)
      · rw [List.mem_singleton.mp hx]; decide +kernel
    · have := numL_digits i x hx
      have hd : ∀ k : Nat, k < 10 → 48 + k ∈ tl letters := by decide +kernel
      have := hd (x - 48) (by omega)
      rwa [show 48 + (x - 48) = x from by omega] at this
def sp_law_word (K : PySem.W.Frag) : Sp := fun vs H Q _ => ∃ (s d u : Addr) (ws : List Str), vs = [.ref s, .ref u] ∧ Sta s d H ∧ hid s d H u = some (.lst (ws.map V.str)) ∧ ws.length ≤ 20 ∧
  ∀ z H', Nm z → Sta s d H' → (∀ a o, a ≠ u → hid s d H a = some o → hid s d H' a = some o) → hid s d H' u = some (.lst ((ws ++ [z]).map V.str)) → Q (.str z) H'
theorem sc_law_word : FnScope ["s", "used", "letters", "many", "stem", "word", "keys", "k"] ["s", "used"] (defScope s_law_word) := ⟨rfl, rfl, rfl, by decide +kernel, rfl, by decide +kernel, by decide +kernel⟩
theorem ok_law_word (T : Tx w K mg) : OkF P w K mg base CX0 2 "_law_word" ["s", "used"] (sp_law_word K) := by
  have G_law_pick := ok_law_pick (P := P) (base := base) T
  have G_law_keys := ok_law_keys (P := P) (base := base) T
  refine Tx.def0 T 24 rfl T.g_law_word sc_law_word (fun _ _ _ _ _ _ us hl => match us, hl with | [_, _], _ => rfl) (fun vs H Q E h => ?_) (fun f cdv A outer s H vs Q E hr h => ?_)
  · obtain ⟨sa, d, u, ws, rfl, S, hu, hl, q⟩ := h; rfl
  · obtain ⟨sa, d, u, ws, rfl, S, hu, hl, q⟩ := h
    refine ⟨_, (pss_cons (ps_set (i := 2) sc_law_word.nd rfl (by first | exact Or.inl rfl | exact Or.inr rfl) pe_str)
      (pss_cons (ps_set (i := 3) sc_law_word.nd rfl (by first | exact Or.inl rfl | exact Or.inr rfl) (pe_ix ix_seq (pe_lst (pa_cons pe_int (pa_cons pe_int (pa_cons pe_int (pa_cons pe_int (pa_cons pe_int (pa_cons pe_int pa_nil))))))) (pe_callO G_law_pick (hr.mono (by decide)) (by rfl) pass0 (pa_cons (pv 0) (pa_cons pe_int pa_nil))) (fun _ _ => rfl)))
      (pss_cons (ps_set (i := 4) sc_law_word.nd rfl (by first | exact Or.inl rfl | exact Or.inr rfl) (pe_op op_addG (pe_ix ix_seq (pv 2) (pe_callO G_law_pick (hr.mono (by decide)) (by rfl) pass0 (pa_cons (pv 0) (pa_cons pe_int pa_nil))) (fun _ _ => rfl)) (pe_join pe_str (pe_lc (own := [("k", 7)]) rfl sc_law_word.nd (pi_range1 (by rfl) T.f_range (pa_cons (pv 3) pa_nil)) (blkOk_by (own := [("k", 7)]) (N := ["s", "used", "letters", "many", "stem", "word", "keys", "k"]) (sc := (defScope s_law_word)) (by decide +kernel)) (fun _ _ _ _ _ => (pg_name (i := 7) sc_law_word.nd rfl (by first | exact Or.inl rfl | exact Or.inr rfl))) (fun _ _ _ _ _ => pts_nil) (fun _ _ _ _ _ => (pe_ix ix_seqB (pv 2) (pe_callO G_law_pick (hr.mono (by decide)) (by rfl) pass0 (pa_cons (pv 0) (pa_cons pe_int pa_nil))) (fun _ _ => rfl)))))))
      (pss_cons (ps_set (i := 5) sc_law_word.nd rfl (by first | exact Or.inl rfl | exact Or.inr rfl) (pv 4))
      (pss_cons (ps_set (i := 6) sc_law_word.nd rfl (by first | exact Or.inl rfl | exact Or.inr rfl) (pe_callO0 G_law_keys (hr.mono (by decide)) (by rfl) pass0))
      (pss_cons (ps_for PassesOwn.never rfl (pi_range1 (by rfl) T.f_range (pa_cons pe_int pa_nil)) (pg_name (i := 7) sc_law_word.nd rfl (by first | exact Or.inl rfl | exact Or.inr rfl))
        (pss_cons (ps_if (PW.pt (pw_and (pt_cmpR op_ninG (pv 5) (pv 1) (by rfl)) (pw_and1 (pt_cmpR op_ninG (pv 5) (pv 6) (by rfl)))))
          (pss_one ps_break)
          pss_nil)
        (pss_one (ps_set (i := 5) sc_law_word.nd rfl (by first | exact Or.inl rfl | exact Or.inr rfl) (pe_op op_addG (pe_op op_addG (pe_slice sl_G (pv 4) po_none (po_some pe_int)) pe_str) (pe_callTy call_strG (by rfl) T.f_str (by decide +kernel) (pa_cons (pv 7) pa_nil)))))))
      (pss_cons (ps_expr (pe_bm PySem.F.plainAttrs_list PySem.F.slot_list_append PySem.F.type_list_append mt_append (pv 1) (pa_cons (pv 5) pa_nil)))
      (pss_one (ps_ret (pv 5)))))))))), ?_⟩
    walk_at "rd"
    refine ⟨sz_lit (n := 6), fun p hp => ?_⟩
    have O1 := (Own.start (hid sa d H)).hidnew (o := .lst [.int 0, .int 0, .int 1, .int 2, .int 4, .int 12]) S hp
    have hp1 : (upd H p (.lst [.int 0, .int 0, .int 1, .int 2, .int 4, .int 12])) p = some (.lst [.int 0, .int 0, .int 1, .int 2, .int 4, .int 12]) := upd_same
    have S1 := S.new (o := .lst [.int 0, .int 0, .int 1, .int 2, .int 4, .int 12]) hp
    have hp2 : hid sa d (upd H p (.lst [.int 0, .int 0, .int 1, .int 2, .int 4, .int 12])) p = some (.lst [.int 0, .int 0, .int 1, .int 2, .int 4, .int 12]) := by rw [hid_new S hp, upd_same]
    replace O1 := O1.g
    generalize upd H p _ = H1 at O1 hp1 S1 hp2 ⊢
    walk_at "rd"
    refine ⟨sa, d, 6, rfl, S1, ⟨by decide, by decide⟩, fun r H2 h0 h6 S2 e2 => ?_⟩
    rw [← e2] at O1 hp2
    obtain ⟨many, hmany, m0, m1⟩ : ∃ b : Int, atI [V.int 0, .int 0, .int 1, .int 2, .int 4, .int 12] r = some (.int b) ∧ 0 ≤ b ∧ b ≤ 12 := by
      have : r = 0 ∨ r = 1 ∨ r = 2 ∨ r = 3 ∨ r = 4 ∨ r = 5 := by omega
      rcases this with rfl | rfl | rfl | rfl | rfl | rfl
      · exact ⟨0, rfl, by decide, by decide⟩
      · exact ⟨0, rfl, by decide, by decide⟩
      · exact ⟨1, rfl, by decide, by decide⟩
      · exact ⟨2, rfl, by decide, by decide⟩
      · exact ⟨4, rfl, by decide, by decide⟩
      · exact ⟨12, rfl, by decide, by decide⟩
    refine a_ixL (SqL.of (hid_le _ _ hp2)) hmany ?_
    walk_at "rd"
    refine ⟨sa, d, 26, rfl, S2, ⟨by decide, by decide⟩, fun r3 H3 h30 h36 S3 e3 => ?_⟩
    rw [← e3] at O1
    obtain ⟨c, hc, hcs⟩ := pick_small h30 h36
    refine a_ixS (a := letters) (by decide +kernel) hc ?_
    walk_at "rd"
    refine x_r1 (by omega) (by omega) ?_
    refine lc_drawR (K := K) PyData.str Let1 (by omega) S3 (fun i Ha QQ hi Sa sma qq => ?_) (fun zs l4 N4 H4 hl4 hok4 S4 O4 d4 => ?_)
    · walk_at "rd"
      refine ⟨rfl, ?_⟩
      walk_at "rd"
      refine ⟨sa, d, 36, rfl, Sa, ⟨by decide, by decide⟩, fun rb Hb hb0 hb1 Sb eb => ?_⟩
      obtain ⟨c2, hc2, hm2⟩ := pick_let hb0 hb1
      exact a_ixS (a := letters) (by decide +kernel) hc2 (qq ⟨#[c2]⟩ _ ho0 Hb ⟨c2, rfl, hm2⟩ Sb (eb ▸ Own.start _) (.str _))
    obtain ⟨l4', vs4, el4, hl4v, dl4⟩ := dpL_lst d4
    cases el4
    have ev4 := strs_of_dp dl4.dp
    subst ev4
    have hz1 : ∀ z ∈ zs, z.length ≤ 1 := fun z hz => by
      obtain ⟨c2, rfl, _⟩ := hok4 z hz
      exact Nat.le_refl 1
    have hsum : (zs.map (fun x : Str => x.length)).sum ≤ zs.length * 1 := sum_le hz1
    refine ⟨"", l4, zs, rfl, rfl, .inl (SqL.of (hid_le _ _ (O4.n _ _ hl4v))), ?_, ?_⟩
    · rw [show ("" : Str).length = 0 from rfl]
      omega
    have hjl := join_len "" zs
    rw [show ("" : Str).length = 0 from rfl] at hjl
    walk_at "rd"
    refine a_addS (a := ⟨#[c]⟩) (sz_le (by show 1 + _ ≤ _; omega)) ?_
    have hstem : Shp ((⟨#[c]⟩ : Str) ++ Txt.join "" zs) ∧ ((⟨#[c]⟩ : Str) ++ Txt.join "" zs).length ≤ 13 := by
      have h13 : ((⟨#[c]⟩ : Str) ++ Txt.join "" zs).length ≤ 13 := by
        rw [Str.length_append]
        show 1 + _ ≤ _
        omega
      refine ⟨⟨by omega, ⟨c, tl (Txt.join "" zs), by rw [tl_append]; rfl, hcs⟩, fun x hx => ?_⟩, h13⟩
      rw [tl_append] at hx
      rcases List.mem_append.mp hx with hx | hx
      · rw [List.mem_singleton.mp (show x ∈ [c] from hx)]
        rw [show tl letters = tl sSmall ++ tl sDigits from by decide +kernel]
        exact List.mem_append_left _ hcs
      · rw [cat_tl] at hx
        obtain ⟨y, hy, hx⟩ := List.mem_flatten.mp hx
        obtain ⟨z, hz, rfl⟩ := List.mem_map.mp hy
        obtain ⟨c2, rfl, hm2⟩ := hok4 z hz
        rw [List.mem_singleton.mp (show x ∈ [c2] from hx)]
        exact hm2
    generalize ((⟨#[c]⟩ : Str) ++ Txt.join "" zs) = stem at hstem ⊢
    replace O1 := O1.trans O4.g
    walk_at "rd"
    refine ⟨rfl, fun kp H5 hkp s5 hk5 => ?_⟩
    have S5 := S4.ext s5
    have sm5 := O1.trans (hid_same (s := sa) (d := d) s5)
    have hu5 : hid sa d H5 u = some (.lst (ws.map V.str)) := sm5 _ _ hu
    clear s5
    walk_at "rd"
    refine x_r1 (by decide) (by decide) ?_
    refine forR (fun i σ H' => H' = H5 ∧ ∃ (word : Str) (x7 : Option V), σ = [some (.ref sa), some (.ref u), some (.str "abcdefghijklmnopqrstuvwxyz0123456789"), some (.int many), some (.str stem), some (.str word), some (.ref kp), x7] ∧ Shp word ∧ (i = 0 ∨ 113 ∈ tl word)) ⟨rfl, _, _, rfl, hstem.1, .inl rfl⟩ ?_ ?_
    · rintro i σ H' hi ⟨rfl, word, x7, rfl, hsh, h0⟩
      walk_at "rd"
      refine a_ninL (SqL.of (hid_le _ _ hu5)) rfl (all_flat_strs _) ?_
      walk_at "rd"
      rw [inV_strs]
      refine x_ite (fun g1 => ?_) (fun g1 => ?_)
      · walk_at "rd"
        refine a_ninL (SqL.of hk5) rfl (all_flat_strs _) ?_
        walk_at "rd"
        rw [inV_strs]
        refine x_ite (fun g2 => ?_) (fun g2 => ?_)
        · walk_at "rd"
          refine x_tyL (SqL.of (hid_le _ _ hu5)) ?_
          walk_at "rd"
          refine x_append (hid_le _ _ hu5) (sz_lt (by rw [List.length_map]; omega)) ?_
          walk_at "rd"
          refine q word _ (hsh.nm (of_decide_eq_false (by simpa using g2))) (S5.put hu5) (fun a o hne e => ?_) ?_
          · rw [hid_at hu5, upd_ne hne]
            exact sm5 _ _ e
          · rw [hid_at hu5, upd_same, List.map_append]
            rfl
        · walk_at "rd"
          refine a_slS (sz_le (by have := hstem.1.len; omega)) ?_
          walk_at "rd"
          have hcl : (cutS stem none (some 8)).length ≤ 8 := cut8_len
          refine a_addS (sz_le (by rw [show ("q" : Str).length = 1 from rfl]; omega)) ?_
          walk_at "rd"
          have hi90 : i < 90 := hi
          refine x_strI (n := 0 + (i : Int)) (by rw [Int.zero_add]; exact log_ok (by omega)) ?_
          rw [Int.zero_add]
          have hn2 : (numS i).length ≤ 2 := by rw [len_tl, numS_tl]; exact numL_len (by decide) (by omega)
          refine a_addS (b := numS i) (sz_le (by rw [Str.length_append, show ("q" : Str).length = 1 from rfl]; omega)) ?_
          exact ⟨rfl, _, _, rfl, shp_q hstem.1 hi90, .inr (by rw [tl_append, tl_append]; simp [show tl ("q" : Str) = [113] from rfl])⟩
      · refine iteF ?_
        walk_at "rd"
        refine a_slS (sz_le (by have := hstem.1.len; omega)) ?_
        walk_at "rd"
        have hcl : (cutS stem none (some 8)).length ≤ 8 := cut8_len
        refine a_addS (sz_le (by rw [show ("q" : Str).length = 1 from rfl]; omega)) ?_
        walk_at "rd"
        have hi90 : i < 90 := hi
        refine x_strI (n := 0 + (i : Int)) (by rw [Int.zero_add]; exact log_ok (by omega)) ?_
        rw [Int.zero_add]
        have hn2 : (numS i).length ≤ 2 := by rw [len_tl, numS_tl]; exact numL_len (by decide) (by omega)
        refine a_addS (b := numS i) (sz_le (by rw [Str.length_append, show ("q" : Str).length = 1 from rfl]; omega)) ?_
        exact ⟨rfl, _, _, rfl, shp_q hstem.1 hi90, .inr (by rw [tl_append, tl_append]; simp [show tl ("q" : Str) = [113] from rfl])⟩
    · rintro σ H' ⟨rfl, word, x7, rfl, hsh, h0⟩
      walk_at "rd"
      refine x_tyL (SqL.of (hid_le _ _ hu5)) ?_
      walk_at "rd"
      refine x_append (hid_le _ _ hu5) (sz_lt (by rw [List.length_map]; omega)) ?_
      walk_at "rd"
      refine q word _ (hsh.nm (keys_q (h0.resolve_left (by decide)))) (S5.put hu5) (fun a o hne e => ?_) ?_
      · rw [hid_at hu5, upd_ne hne]
        exact sm5 _ _ e
      · rw [hid_at hu5, upd_same, List.map_append]
        rfl
end
end K97


set_option maxRecDepth 100000
set_option maxHeartbeats 4000000
namespace K97
open PySem PySem.Spec PyProof.Rows L2 TL NB
local macro_rules | `(tactic| walk_at "rd") => `(tactic| repeat (first
  | (with_reducible refine x_seq ?_) | (with_reducible refine x_asg ?_) | (with_reducible refine x_gName ?_) | (with_reducible refine x_ret ?_) | (with_reducible refine x_drop ?_) | (with_reducible refine x_ifS ?_)
  | (with_reducible refine x_op ?_) | (with_reducible refine x_c ?_) | ((with_reducible refine' x_var ?k1 ?_); (case k1 => with_unfolding_all rfl)) | (with_reducible refine x_cb ?_) | (with_reducible refine x_call0 ?_) | (with_reducible refine x_cons ?_) | (with_reducible refine x_nil ?_)
  | (with_reducible refine x_test ?_) | (with_reducible refine x_B ?_) | (with_reducible refine x_bl ?_) | (with_reducible refine x_and ?_) | (with_reducible refine x_or ?_) | (with_reducible refine x_not ?_)
  | (with_reducible refine x_andV ?_) | (with_reducible refine x_orV ?_) | (with_reducible refine x_notV ?_) | (with_reducible refine x_if ?_) | (with_reducible refine x_isN ?_) | (with_reducible refine x_notN ?_)
  | (with_reducible refine x_tup ?_) | (with_reducible refine x_lst ?_) | (with_reducible refine x_sl ?_) | (with_reducible refine x_noPart ?_) | (with_reducible refine x_part ?_) | (with_reducible refine x_int ?_)
  | (with_reducible refine x_bm ?_) | (with_reducible refine x_m1 ?_) | (with_reducible refine x_tyS ?_) | (with_reducible refine x_gNil ?_) | (with_reducible refine x_gCons ?_) | (with_reducible refine x_gSub ?_) | (with_reducible refine x_next ?_) | (with_reducible refine x_brk ?_)
  | (with_reducible refine x_slStep ?_) | (with_reducible refine x_lc ?_) | (with_reducible refine x_for ?_) | (with_reducible refine x_iL ?_) | (with_reducible refine x_iR1 ?_) | (with_reducible refine x_iR3 ?_) | (with_reducible refine x_iS ?_) | (with_reducible refine x_ref ?_) | (with_reducible refine x_yes ?_)
  | (with_reducible refine a_addI ?_) | (with_reducible refine x_I0 ?_) | (with_reducible refine a_eq rfl ?_) | (with_reducible refine a_ne rfl ?_) | (with_reducible refine a_inS ?_) | (with_reducible refine a_ninS ?_) | (with_reducible refine x_strS ?_) | (with_reducible refine x_intI ?_) | (with_reducible refine x_iB ?_) | (with_reducible refine x_iT ?_)))

section
variable {P : Program} {w : World} {K : PySem.W.Frag} {mg : Str → Option Value} {base : Heap}
/-! ### BadText -/
def CB (K : PySem.W.Frag) : Addr := He.ga K "BadText"
def btF (unit : Str) (line : Int) (column : Int) (what : Str) : List (Str × V) := [("what", .str what), ("column", .int column), ("line", .int line), ("unit", .str unit)]
theorem Tx.fun_init (T : Tx w K mg) : ∃ fd, Fun K "__init__" "BadText.__init__" s_BadText_init (He.ma K (He.ga K "BadText") "__init__") fd := by
  obtain ⟨fd, hF⟩ := T.t.d.def_ 39 (d := ⟨("BadText", some "__init__"), "__init__", "BadText.__init__", defArgs s_BadText_init, defBody s_BadText_init, defScope s_BadText_init, [], []⟩) rfl
  obtain ⟨oc, od, dV, kV, doc, pm, an, cdv, ct, osl, e, lk, hcd, hD, hK⟩ := hF.ex
  rcases hD with ⟨_, rfl⟩ | ⟨z, _⟩
  · exact ⟨fd, ⟨oc, od, kV, doc, pm, an, cdv, ct, osl, e, lk, hcd⟩, hF.kp⟩
  · exact absurd rfl z
theorem x_veI {σ : L2.St} {H : Hp} {Q : VK} {ta : TA} (h : ta σ H fun vs H1 => ∃ (a C : Addr) (ws : List V), vs = .ref a :: ws ∧ ws.length ≤ 1000 ∧ OexC K C ∧ H1 a = some (exo a C none) ∧ Q .non H1) : tVeI K ta σ H Q := h
theorem x_jsC {σ : L2.St} {H : Hp} {t : TE} {ts : List TE} {acc : Str} {Q : Str → Hp → Prop} (h : t σ H fun x H1 => ∃ y : Str, x = .str y ∧ (acc ++ y).length ≤ sizeLine ∧ tJs ts (acc ++ y) σ H1 Q) : tJs (t :: ts) acc σ H Q := h
theorem x_jsN {σ : L2.St} {H : Hp} {acc : Str} {Q : Str → Hp → Prop} (h : Q acc H) : tJs [] acc σ H Q := h
theorem x_fmtS {σ : L2.St} {H : Hp} {Q : VK} {i : Nat} {y : Str} (hv : σ[i]? = some (some (.str y))) (hy : y.length ≤ 100) (h : Q (.str y) H) : tFmt (tVar i) σ H Q := ⟨_, hv, .inl ⟨y, rfl, sz_le (by omega), h⟩⟩
theorem x_fmtI {σ : L2.St} {H : Hp} {Q : VK} {i n : Nat} (hv : σ[i]? = some (some (.int (n : Int)))) (hn : n < 1000000000) (h : Q (.str (numS n)) H) : tFmt (tVar i) σ H Q := ⟨_, hv, .inr ⟨n, rfl, log_ok hn, h⟩⟩
theorem x_ost {σ : L2.St} {H : Hp} {f : Str} {to te : TE} {D : Ends} (h : te σ H fun y H1 => to σ H1 fun x H2 => ∃ a C : Addr, x = .ref a ∧ OexC K C ∧ PySem.W.findIn K (.ref C) f = some none ∧
  ((H2 a = some (exo a C none) ∧ ∀ dx, H2 dx = none → dx ≠ a → D.nx σ (upd (upd H2 dx (exd dx [(f, y)])) a (exo a C (some dx)))) ∨
    ∃ (dx : Addr) (fs : List (Str × V)), H2 a = some (exo a C (some dx)) ∧ H2 dx = some (exd dx fs) ∧ fs.length ≤ 900 ∧ D.nx σ (upd H2 dx (exd dx ((f, y) :: fs))))) : tOst K f to te D σ H := h
theorem sc_init : FnScope ["self", "unit", "line", "column", "what"] ["self", "unit", "line", "column", "what"] (defScope s_BadText_init) := ⟨rfl, rfl, rfl, by decide +kernel, rfl, by decide +kernel, by decide +kernel⟩
def sp_init (K : PySem.W.Frag) : Sp := fun vs H Q _ => ∃ (a : Addr) (unit : Str) (line column : Nat) (what : Str), vs = [.ref a, .str unit, .int line, .int column, .str what] ∧ H a = some (exo a (CB K) none) ∧ unit.length ≤ 100 ∧ what.length ≤ 100 ∧ line < 1000000000 ∧ column < 1000000000 ∧
  ∀ dx H', H dx = none → dx ≠ a → H' a = some (exo a (CB K) (some dx)) → H' dx = some (exd dx (btF unit line column what)) → (∀ b o, b ≠ a → H b = some o → H' b = some o) → Q .non H'
theorem ok_init (T : Tx w K mg) : ∃ fd, Binds K fd ["self", "unit", "line", "column", "what"] [] ∧ FnOk P w K mg base CX0 1 (He.ma K (He.ga K "BadText") "__init__") fd ["self", "unit", "line", "column", "what"] (sp_init K) := by
  obtain ⟨fd, F⟩ := T.fun_init
  refine ⟨fd, F.binds (fun _ _ _ _ _ _ us hl => match us, hl with | [_, _, _, _, _], _ => rfl), F.ok sc_init (fun vs H Q E h => ?_) fun cdv A outer s H vs Q E hr h => ?_⟩
  · obtain ⟨_, _, _, _, _, rfl, _⟩ := h; rfl
  · obtain ⟨a, unit, line, column, what, rfl, ha, hu, hw, hl, hc, q⟩ := h
    refine ⟨_, (pss_cons (ps_expr (pe_bainit (by rfl) T.g_LeftError T.bin_LeftError (pa_cons (pv 0) (pa_cons (pe_joined (.cons (pe_fmt (pv 1)) (.cons pe_str (.cons (pe_fmt (pv 2)) (.cons pe_str (.cons (pe_fmt (pv 3)) (.cons pe_str (.cons (pe_fmt (pv 4)) .nil)))))))) pa_nil))))
      (pss_cons (ps_ost (pv 0) (pv 1))
      (pss_cons (ps_ost (pv 0) (pv 2))
      (pss_cons (ps_ost (pv 0) (pv 3))
      (pss_one (ps_ost (pv 0) (pv 4))))))), ?_⟩
    walk_at "rd"
    refine x_veI ?_
    walk_at "rd"
    have n2 := numS_len hl
    have n3 := numS_len hc
    refine x_jsC (x_fmtS rfl hu ⟨_, rfl, sz_le (by rw [Str.length_append, show Str.empty.length = 0 from rfl]; omega), ?_⟩)
    refine x_jsC (x_c ⟨_, rfl, sz_le (by simp only [Str.length_append, show Str.empty.length = 0 from rfl, show (":" : Str).length = 1 from rfl]; omega), ?_⟩)
    refine x_jsC (x_fmtI (n := line) rfl hl ⟨_, rfl, sz_le (by simp only [Str.length_append, show Str.empty.length = 0 from rfl, show (":" : Str).length = 1 from rfl]; omega), ?_⟩)
    refine x_jsC (x_c ⟨_, rfl, sz_le (by simp only [Str.length_append, show Str.empty.length = 0 from rfl, show (":" : Str).length = 1 from rfl]; omega), ?_⟩)
    refine x_jsC (x_fmtI (n := column) rfl hc ⟨_, rfl, sz_le (by simp only [Str.length_append, show Str.empty.length = 0 from rfl, show (":" : Str).length = 1 from rfl]; omega), ?_⟩)
    refine x_jsC (x_c ⟨_, rfl, sz_le (by simp only [Str.length_append, show Str.empty.length = 0 from rfl, show (":" : Str).length = 1 from rfl, show (": " : Str).length = 2 from rfl]; omega), ?_⟩)
    refine x_jsC (x_fmtS rfl hw ⟨_, rfl, sz_le (by simp only [Str.length_append, show Str.empty.length = 0 from rfl, show (":" : Str).length = 1 from rfl, show (": " : Str).length = 2 from rfl]; omega), ?_⟩)
    refine x_jsN ?_
    walk_at "rd"
    refine ⟨a, CB K, _, rfl, (by show 1 ≤ 1000; decide), T.oex_BadText, ha, ?_⟩
    walk_at "rd"
    with_reducible refine x_ost ?_
    walk_at "rd"
    refine ⟨a, CB K, rfl, T.oex_BadText, T.no_BadText_unit, .inl ⟨ha, fun dx hdx hne => ?_⟩⟩
    have e1a : (upd (upd H dx (exd dx [("unit", .str unit)])) a (exo a (CB K) (some dx))) a = some (exo a (CB K) (some dx)) := upd_same
    have e1d : (upd (upd H dx (exd dx [("unit", .str unit)])) a (exo a (CB K) (some dx))) dx = some (exd dx [("unit", .str unit)]) := by rw [upd_ne hne, upd_same]
    have e1k : ∀ b o, b ≠ a → H b = some o → (upd (upd H dx (exd dx [("unit", .str unit)])) a (exo a (CB K) (some dx))) b = some o := fun b o hb e => by
      rw [upd_ne hb, upd_ne (ne_of_none e hdx)]
      exact e
    generalize upd (upd H dx (exd dx [("unit", .str unit)])) a (exo a (CB K) (some dx)) = H1 at e1a e1d e1k ⊢
    have step : ∀ {H1 : Hp} {fs : List (Str × V)} {f : Str} {v : V}, H1 a = some (exo a (CB K) (some dx)) → H1 dx = some (exd dx fs) → (∀ b o, b ≠ a → H b = some o → H1 b = some o) →
        (upd H1 dx (exd dx ((f, v) :: fs))) a = some (exo a (CB K) (some dx)) ∧ (upd H1 dx (exd dx ((f, v) :: fs))) dx = some (exd dx ((f, v) :: fs)) ∧ ∀ b o, b ≠ a → H b = some o → (upd H1 dx (exd dx ((f, v) :: fs))) b = some o :=
      fun {H1 fs f v} h1 h2 h3 => ⟨by rw [upd_ne hne.symm]; exact h1, upd_same, fun b o hb e => by rw [upd_ne (ne_of_none e hdx)]; exact h3 b o hb e⟩
    walk_at "rd"
    with_reducible refine x_ost ?_
    walk_at "rd"
    refine ⟨a, CB K, rfl, T.oex_BadText, T.no_BadText_line, .inr ⟨dx, _, e1a, e1d, (by show 1 ≤ 900; decide), ?_⟩⟩
    obtain ⟨e2a, e2d, e2k⟩ := step (f := "line") (v := .int line) e1a e1d e1k
    generalize upd H1 dx _ = H2 at e2a e2d e2k ⊢
    walk_at "rd"
    with_reducible refine x_ost ?_
    walk_at "rd"
    refine ⟨a, CB K, rfl, T.oex_BadText, T.no_BadText_column, .inr ⟨dx, _, e2a, e2d, (by show 2 ≤ 900; decide), ?_⟩⟩
    obtain ⟨e3a, e3d, e3k⟩ := step (f := "column") (v := .int column) e2a e2d e2k
    generalize upd H2 dx _ = H3 at e3a e3d e3k ⊢
    walk_at "rd"
    with_reducible refine x_ost ?_
    walk_at "rd"
    refine ⟨a, CB K, rfl, T.oex_BadText, T.no_BadText_what, .inr ⟨dx, _, e3a, e3d, (by show 3 ≤ 900; decide), ?_⟩⟩
    obtain ⟨e4a, e4d, e4k⟩ := step (f := "what") (v := .str what) e3a e3d e3k
    exact q dx _ hdx hne e4a e4d e4k
/-! ### raise BadText(..) -/
/-- what an exception of ours leaves -/
def Bad (K : PySem.W.Frag) (unit : Str) (line : Nat) (H : Hp) (E : XK) : Prop := ∀ (d : Addr) (H' : Hp), H' d = some (.xd (btF unit line 1 "row")) → Same H H' → E (.ref (CB K)) (some d) H'
theorem x_mk {H : Hp} {W : XK} {unit : Str} {line : Nat} (hu : unit.length ≤ 100) (hl : line < 1000000000) (q : Bad K unit line H W) :
    ([V.str unit, V.int line, V.int 1, V.str "row"] : List V).length ≤ 1000 ∧ ∀ a, H a = none → sp_init K (.ref a :: ([V.str unit, V.int line, V.int 1, V.str "row"] ++ [])) (upd H a (exo a (CB K) none))
      (fun v H2 => v = .non ∧ ∃ (d : Addr) (fs : List (Str × V)), H2 a = some (exo a (CB K) (some d)) ∧ H2 d = some (exd d fs) ∧ H d = none ∧ W (.ref (CB K)) (some d) (upd (del H2 a) d (.xd fs))) (fun _ _ _ => False) := by
  refine ⟨by show 4 ≤ 1000; decide, fun a ha => ⟨a, unit, line, 1, "row", rfl, upd_same, hu, by decide +kernel, hl, by decide, fun dx H' hdx hne h1 h2 h3 => ?_⟩⟩
  have hdx0 : H dx = none := by rw [upd_ne hne] at hdx; exact hdx
  refine ⟨rfl, dx, _, h1, h2, hdx0, q dx _ upd_same fun b o e => ?_⟩
  have hb := ne_of_none e ha
  rw [upd_ne (ne_of_none e hdx0), del_ne hb]
  exact h3 b o hb (by rw [upd_ne hb]; exact e)
end
end K97


set_option maxRecDepth 100000
set_option maxHeartbeats 4000000
namespace K97
open PySem PySem.Spec PyProof.Rows L2 TL NB
local macro_rules | `(tactic| walk_at "rd") => `(tactic| repeat (first
  | (with_reducible refine x_seq ?_) | (with_reducible refine x_asg ?_) | (with_reducible refine x_gName ?_) | (with_reducible refine x_ret ?_) | (with_reducible refine x_drop ?_) | (with_reducible refine x_ifS ?_)
  | (with_reducible refine x_op ?_) | (with_reducible refine x_c ?_) | ((with_reducible refine' x_var ?k1 ?_); (case k1 => with_unfolding_all rfl)) | (with_reducible refine x_cb ?_) | (with_reducible refine x_call0 ?_) | (with_reducible refine x_cons ?_) | (with_reducible refine x_nil ?_)
  | (with_reducible refine x_test ?_) | (with_reducible refine x_B ?_) | (with_reducible refine x_bl ?_) | (with_reducible refine x_and ?_) | (with_reducible refine x_or ?_) | (with_reducible refine x_not ?_)
  | (with_reducible refine x_andV ?_) | (with_reducible refine x_orV ?_) | (with_reducible refine x_notV ?_) | (with_reducible refine x_if ?_) | (with_reducible refine x_isN ?_) | (with_reducible refine x_notN ?_)
  | (with_reducible refine x_tup ?_) | (with_reducible refine x_lst ?_) | (with_reducible refine x_sl ?_) | (with_reducible refine x_noPart ?_) | (with_reducible refine x_part ?_) | (with_reducible refine x_int ?_)
  | (with_reducible refine x_bm ?_) | (with_reducible refine x_m1 ?_) | (with_reducible refine x_tyS ?_) | (with_reducible refine x_gNil ?_) | (with_reducible refine x_gCons ?_) | (with_reducible refine x_gSub ?_) | (with_reducible refine x_next ?_) | (with_reducible refine x_brk ?_)
  | (with_reducible refine x_slStep ?_) | (with_reducible refine x_lc ?_) | (with_reducible refine x_for ?_) | (with_reducible refine x_iL ?_) | (with_reducible refine x_iR1 ?_) | (with_reducible refine x_iR3 ?_) | (with_reducible refine x_iS ?_) | (with_reducible refine x_ref ?_) | (with_reducible refine x_yes ?_)
  | (with_reducible refine a_addI ?_) | (with_reducible refine x_I0 ?_) | (with_reducible refine a_eq rfl ?_) | (with_reducible refine a_ne rfl ?_) | (with_reducible refine a_inS ?_) | (with_reducible refine a_ninS ?_) | (with_reducible refine x_strS ?_) | (with_reducible refine x_intI ?_) | (with_reducible refine x_iB ?_) | (with_reducible refine x_iT ?_)))

section
variable {P : Program} {w : World} {K : PySem.W.Frag} {mg : Str → Option Value} {base : Heap}
/-! ### what is split -/
theorem spl_sub {S : List Nat} : ∀ (n : Nat) (l acc : List Nat), l.length ≤ n → ∀ p ∈ spl S 0 acc l, (∀ c ∈ p, c ∈ acc ++ l) ∧ p.length ≤ acc.length + l.length
  | 0, l, acc, hn, p, hp => by
    have : l = [] := List.length_eq_zero_iff.mp (by omega)
    subst this
    rw [spl_nil] at hp
    rw [List.mem_singleton.mp hp]
    exact ⟨fun c hc => List.mem_append_left _ hc, by simp⟩
  | n + 1, [], acc, hn, p, hp => by
    rw [spl_nil] at hp
    rw [List.mem_singleton.mp hp]
    exact ⟨fun c hc => List.mem_append_left _ hc, by simp⟩
  | n + 1, c :: r, acc, hn, p, hp => by
    have hr : r.length ≤ n := by simpa using hn
    cases h : pre S (c :: r) with
    | true =>
      rw [spl_hit h] at hp
      rcases List.mem_cons.mp hp with rfl | hp
      · exact ⟨fun c hc => List.mem_append_left _ hc, by omega⟩
      · rw [spl_pass] at hp
        have hd : (r.drop (S.length - 1)).length ≤ n := by rw [List.length_drop]; omega
        obtain ⟨h1, h2⟩ := spl_sub n (r.drop (S.length - 1)) [] hd p hp
        refine ⟨fun x hx => ?_, ?_⟩
        · have := h1 x hx
          rw [List.nil_append] at this
          exact List.mem_append_right _ (List.mem_cons_of_mem _ (List.mem_of_mem_drop this))
        · rw [List.length_drop] at h2
          simp only [List.length_cons, List.length_nil] at h2 ⊢
          omega
    | false =>
      rw [spl_miss h] at hp
      obtain ⟨h1, h2⟩ := spl_sub n r (acc ++ [c]) hr p hp
      refine ⟨fun x hx => ?_, ?_⟩
      · have := h1 x hx
        simpa using this
      · simp only [List.length_cons, List.length_append, List.length_nil] at h2 ⊢
        omega
theorem spl_count {S : List Nat} : ∀ (n : Nat) (l acc : List Nat), l.length ≤ n → (spl S 0 acc l).length ≤ l.length + 1 ∧ spl S 0 acc l ≠ []
  | 0, l, acc, hn => by
    have : l = [] := List.length_eq_zero_iff.mp (by omega)
    subst this
    rw [spl_nil]
    simp
  | n + 1, [], acc, hn => by
    rw [spl_nil]
    simp
  | n + 1, c :: r, acc, hn => by
    have hr : r.length ≤ n := by simpa using hn
    cases h : pre S (c :: r) with
    | true =>
      rw [spl_hit h, spl_pass]
      have hd : (r.drop (S.length - 1)).length ≤ n := by rw [List.length_drop]; omega
      have h1 := (spl_count (S := S) n (r.drop (S.length - 1)) [] hd).1
      rw [List.length_drop] at h1
      refine ⟨?_, by simp⟩
      simp only [List.length_cons]
      omega
    | false =>
      rw [spl_miss h]
      have h1 := spl_count (S := S) n r (acc ++ [c]) hr
      refine ⟨?_, h1.2⟩
      simp only [List.length_cons]
      omega
/-- a text of ours -/
structure Tok90 (z : Str) : Prop where
  len : z.length ≤ 89990
  asc : ∀ c ∈ tl z, c < 128
theorem split_wd {z y : Str} (hy : tl y ≠ []) (hk : y.cps.all (· < 256) = true) (h : Tok90 z) : (∀ p ∈ Txt.split z y, Tok90 p) ∧ (Txt.split z y).length ≤ 89991 ∧ Txt.split z y ≠ [] := by
  have e := split_spl z y hy (kind_ok hk)
  have hlz : (tl z).length ≤ 89990 := by rw [← len_tl]; exact h.len
  refine ⟨fun p hp => ?_, ?_, ?_⟩
  · have : tl p ∈ spl (tl y) 0 [] (tl z) := by rw [← e]; exact List.mem_map.mpr ⟨p, hp, rfl⟩
    obtain ⟨h1, h2⟩ := spl_sub _ (tl z) [] (Nat.le_refl _) _ this
    rw [List.length_nil, Nat.zero_add] at h2
    exact ⟨by rw [len_tl]; omega, fun c hc => h.asc c (by simpa using h1 c hc)⟩
  · have := (spl_count (S := tl y) _ (tl z) [] (Nat.le_refl _)).1
    rw [← e, List.length_map] at this
    omega
  · intro q
    have := (spl_count (S := tl y) _ (tl z) [] (Nat.le_refl _)).2
    rw [← e, q] at this
    exact this rfl
theorem Tok90.wd {z : Str} (h : Tok90 z) : Wd z := ⟨by have := h.len; omega, h.asc⟩
/-- the words of a line, the lines of a text -/
def wordsS (z : Str) : List Str := Txt.split z " "
def linesS (z : Str) : List Str := Txt.split z "\n"
theorem words_wd {z : Str} (h : Tok90 z) : (∀ p ∈ wordsS z, Tok90 p) ∧ (wordsS z).length ≤ 89991 ∧ wordsS z ≠ [] := split_wd (by decide +kernel) (by decide +kernel) h
theorem lines_wd {z : Str} (h : Tok90 z) : (∀ p ∈ linesS z, Tok90 p) ∧ (linesS z).length ≤ 89991 ∧ linesS z ≠ [] := split_wd (by decide +kernel) (by decide +kernel) h
/-! ### a paper read back -/
abbrev PapI := List (List (Int × Str))
def moviD (m : Int × Str) : PyData := .tuple [.int m.1, .str m.2]
def papID (p : PapI) : PyData := .list (p.map fun cs => .list (cs.map moviD))
/-- one line: what is found behind it, if it may stand -/
def papStep (f : PapI) (ws : List Str) : Option PapI :=
  if ws = ([("pause" : Str)] : List Str) then some (f ++ [[]]) else match f.getLast?, ws with
    | some cs, [a, b] => if numberWord a = true ∧ nameWord b = true then some (f.dropLast ++ [cs ++ [(wordInt a, b)]]) else none
    | _, _ => none
def papScan : PapI → Nat → List Str → Except Nat PapI
  | f, _, [] => .ok f
  | f, k, z :: r => match papStep f (wordsS z) with
    | some f' => papScan f' (k + 1) r
    | none => .error (k + 1)
def readPaper (z : Str) : Except Nat PapI := match papScan [] 0 (linesS z).dropLast with
  | .error k => .error k
  | .ok f => if (linesS z).getLast? = some ("" : Str) then .ok f else .error (linesS z).length
def sp_paper_from (K : PySem.W.Frag) : Sp := fun vs H Q E => ∃ z : Str, vs = [.str z] ∧ Tok90 z ∧ (∀ k, readPaper z = .error k → Bad K "paper" k H E) ∧ ∀ f v N H', readPaper z = .ok f → Own H N [] H' → Dp K N v (papID f) → Q v H'
theorem Bad.ext {unit : Str} {line : Nat} {H H' : Hp} {E : XK} (h : Bad K unit line H E) (s : Same H H') : Bad K unit line H' E := fun d H2 e s2 => h d H2 e (s.trans s2)
def coupI (cs : List (Int × Str)) : PyData := .list (cs.map moviD)
/-- the heap of a paper that is read -/
def PInv (K : PySem.W.Frag) (H N1 : Hp) (F : Addr) (f : PapI) (H' : Hp) : Prop := ∃ N, Same N1 N ∧ ((f = [] ∧ Own H N [(F, .lst [])] H') ∨
  ∃ (pre : PapI) (cur : List (Int × Str)) (pv : List V) (c : Addr) (cv : List V), f = pre ++ [cur] ∧ Own H N [(c, .lst cv), (F, .lst (pv ++ [.ref c]))] H' ∧ DpAll K N pv (pre.map coupI) ∧ DpAll K N cv (cur.map moviD))
section
variable {H N1 H' H2 : Hp} {F c : Addr} {f : PapI}
theorem PInv.ext (I : PInv K H N1 F f H') (s : Same H' H2) : PInv K H N1 F f H2 := by
  obtain ⟨N, e, ⟨e1, O⟩ | ⟨pre, cur, pv, c, cv, e1, O, d1, d2⟩⟩ := I
  · exact ⟨N, e, .inl ⟨e1, O.ext s⟩⟩
  · exact ⟨N, e, .inr ⟨pre, cur, pv, c, cv, e1, O.ext s, d1, d2⟩⟩
theorem PInv.sm (I : PInv K H N1 F f H') : Same H H' ∧ Same N1 H' := by
  obtain ⟨N, e, ⟨e1, O⟩ | ⟨pre, cur, pv, c, cv, e1, O, d1, d2⟩⟩ := I
  · exact ⟨O.g, e.trans O.n⟩
  · exact ⟨O.g, e.trans O.n⟩
theorem fix_mono {G N : Hp} {L : List (Addr × HO)} {p : Addr} {o : HO} (O : Own G N ((p, o) :: L) H') : Same N (upd N p o) := fun b u e => by
  by_cases hb : b = p
  · subst hb
    rw [O.ln (b, o) List.mem_cons_self] at e
    cases e
  · rw [upd_ne hb]; exact e
theorem PInv.pause (I : PInv K H N1 F f H') (hc : H' c = none) : ∃ vs, (upd H' c (.lst [])) F = some (.lst vs) ∧ vs.length ≤ f.length ∧ PInv K H N1 F (f ++ [[]]) (upd (upd H' c (.lst [])) F (.lst (vs ++ [.ref c]))) := by
  obtain ⟨N, e, ⟨e1, O⟩ | ⟨pre, cur, pv, c1, cv, e1, O, d1, d2⟩⟩ := I
  · subst e1
    have O2 := O.new (o := .lst []) hc
    exact ⟨[], O2.get 1, Nat.le_refl _, N, e, .inr ⟨[], [], [], c, [], rfl, O2.put 1, .nil, .nil⟩⟩
  · have fm := fix_mono O
    have O2 := O.fix.new (o := .lst []) hc
    refine ⟨_, O2.get 1, ?_, _, e.trans fm, .inr ⟨f, [], pv ++ [.ref c1], c, [], rfl, O2.put 1, ?_, .nil⟩⟩
    · have := dpAll_len d1
      rw [List.length_map] at this
      rw [e1, List.length_append, List.length_append, this]
      exact Nat.le_refl _
    · rw [e1, List.map_append]
      exact dpAll_app (dpAll_mono fm d1) (.cons (.lst (SqL.of upd_same) (dpAll_mono fm d2)) .nil)
theorem PInv.fin (I : PInv K H N1 F f H') : ∃ N, Own H N [] H' ∧ Dp K N (.ref F) (papID f) := by
  obtain ⟨N, e, ⟨e1, O⟩ | ⟨pre, cur, pv, c1, cv, e1, O, d1, d2⟩⟩ := I
  · subst e1
    exact ⟨_, O.fix, .lst (SqL.of upd_same) .nil⟩
  · have fm := fix_mono O
    have fm2 := fix_mono O.fix
    refine ⟨_, O.fix.fix, .lst (SqL.of upd_same) ?_⟩
    rw [e1, List.map_append]
    exact dpAll_app (dpAll_mono (fm.trans fm2) d1) (.cons (.lst (SqL.of (fm2 _ _ upd_same)) (dpAll_mono (fm.trans fm2) d2)) .nil)
end
theorem atI_last {xs : List V} {x : V} : atI (xs ++ [x]) (-1) = some x := by
  unfold atI ixN
  rw [if_neg (by decide), if_pos (by rw [List.length_append]; simp; omega)]
  show (xs ++ [x])[((-1 : Int) + ((xs ++ [x]).length : Int)).toNat]? = some x
  have : ((-1 : Int) + ((xs ++ [x]).length : Int)).toNat = xs.length := by
    rw [List.length_append]
    simp only [List.length_cons, List.length_nil]
    omega
  rw [this]
  simp
theorem PInv.cont {H N1 H' : Hp} {F : Addr} {f : PapI} (I : PInv K H N1 F f H') : ∃ vs, H' F = some (.lst vs) ∧ vs.length = f.length := by
  obtain ⟨N, e, ⟨e1, O⟩ | ⟨pre, cur, pv, c, cv, e1, O, d1, d2⟩⟩ := I
  · subst e1
    exact ⟨[], O.get 0, rfl⟩
  · refine ⟨_, O.get 1, ?_⟩
    have := dpAll_len d1
    rw [List.length_map] at this
    rw [e1, List.length_append, List.length_append, this]
    rfl
theorem PInv.couple {H N1 H' : Hp} {F t : Addr} {pre : PapI} {cur : List (Int × Str)} {a : Int} {b : Str} (I : PInv K H N1 F (pre ++ [cur]) H') : ∃ pv c cv, H' F = some (.lst (pv ++ [.ref c])) ∧ H' c = some (.lst cv) ∧ cv.length = cur.length ∧
    (H' t = none → PInv K H N1 F (pre ++ [cur ++ [(a, b)]]) (upd (upd H' t (.tup [.int a, .str b])) c (.lst (cv ++ [.ref t])))) := by
  obtain ⟨N, e, ⟨e1, O⟩ | ⟨pre2, cur2, pv, c, cv, e1, O, d1, d2⟩⟩ := I
  · simp at e1
  · obtain ⟨e3, e4⟩ := List.append_inj' e1 rfl
    cases e4
    subst e3
    refine ⟨pv, c, cv, O.get 1, O.get 0, by have := dpAll_len d2; rw [List.length_map] at this; exact this, fun ht => ?_⟩
    have O2 := O.frz (o := .tup [.int a, .str b]) ht
    have sn := same_new (o := .tup [.int a, .str b]) (O.n.free ht)
    refine ⟨_, e.trans sn, .inr ⟨pre, cur ++ [(a, b)], pv, c, cv ++ [V.ref t], rfl, O2.put 0 (u := .lst (cv ++ [V.ref t])), dpAll_mono sn d1, ?_⟩⟩
    rw [List.map_append]
    exact dpAll_app (dpAll_mono sn d2) (.cons (.tup (SqT.of upd_same) (.cons (.int a) (.cons (.str b) .nil))) .nil)
theorem digs_of {z : Str} (h : allIn z sDigits = true) : NumText.AllDigits (tl z) := by
  unfold allIn at h
  intro c hc
  have h1 := of_decide_eq_true (List.all_eq_true.mp h c hc)
  have h2 : ((tl sDigits).all fun c => decide (48 ≤ c ∧ c ≤ 57)) = true := by decide +kernel
  have := of_decide_eq_true (List.all_eq_true.mp h2 c h1)
  omega
theorem wd_pause : Wd "pause" := wd_lit (by decide +kernel)
theorem number_int {z : Str} (h : numberWord z = true) : NumW z := by
  unfold numberWord at h
  simp only [Bool.and_eq_true, Bool.not_eq_true', Bool.or_eq_false_iff, decide_eq_false_iff_not, Bool.not_eq_false'] at h
  obtain ⟨⟨h1, h2, h3⟩, _⟩ := h
  have hl : z.length ≤ 9 := by omega
  obtain ⟨c, r, e⟩ := tl_ne h1
  exact ⟨⟨_, intText_digits (digs_of h3) (by show tl z ≠ []; rw [e]; simp) (by omega)⟩, by omega⟩
theorem x_mkO {σ : L2.St} {H : Hp} {C : Addr} {sp : Sp} {dvs : List V} {ta : TA} {Q : XK} (h : ta σ H fun vs H1 => vs.length ≤ 1000 ∧ ∀ a, H1 a = none → sp (.ref a :: (vs ++ dvs)) (upd H1 a (exo a C none))
  (fun v H2 => v = .non ∧ ∃ (d : Addr) (fs : List (Str × V)), H2 a = some (exo a C (some d)) ∧ H2 d = some (exd d fs) ∧ H1 d = none ∧ Q (.ref C) (some d) (upd (del H2 a) d (.xd fs))) (fun _ _ _ => False)) : tMkO C sp dvs ta σ H Q := h
theorem sc_paper_from : FnScope ["text", "lines", "found", "k", "words"] ["text"] (defScope s_paper_from) := ⟨rfl, rfl, rfl, by decide +kernel, rfl, by decide +kernel, by decide +kernel⟩
theorem ok_paper_from (T : Tx w K mg) : OkF P w K mg base (L2.CX P w) 3 "paper_from" ["text"] (sp_paper_from K) := by
  have G_name_word := ok_name_word (P := P) (base := base) T
  have G_number_word := ok_number_word (P := P) (base := base) T
  obtain ⟨fdI, hBI, hFI⟩ := ok_init (P := P) (base := base) T
  refine Tx.defX T 19 rfl T.g_paper_from sc_paper_from (fun _ _ _ _ _ _ us hl => match us, hl with | [_], _ => rfl) (fun vs H Q E h => ?_) (fun f cdv A outer s H vs Q E hr h => ?_)
  · obtain ⟨z, rfl, hz, qe, q⟩ := h; rfl
  · obtain ⟨z, rfl, hz, qe, q⟩ := h
    refine ⟨_, (pss_cons (ps_set (i := 1) sc_paper_from.nd rfl (by first | exact Or.inl rfl | exact Or.inr rfl) (pe_split (pv 0) pe_str))
      (pss_cons (ps_set (i := 2) sc_paper_from.nd rfl (by first | exact Or.inl rfl | exact Or.inr rfl) (pe_lst pa_nil))
      (pss_cons (ps_for (passes_of rfl) rfl (pi_range1 (by rfl) T.f_range (pa_cons (pe_op op_sub (pe_callB (call_lenG) (by rfl) T.f_len (by decide +kernel) (pa_cons (pv 1) pa_nil)) pe_int) pa_nil)) (pg_name (i := 3) sc_paper_from.nd rfl (by first | exact Or.inl rfl | exact Or.inr rfl))
        (pss_cons (ps_set (i := 4) sc_paper_from.nd rfl (by first | exact Or.inl rfl | exact Or.inr rfl) (pe_split (pe_ix ix_seq (pv 1) (pv 3) (fun _ _ => rfl)) pe_str))
        (pss_one (ps_if (pt_cmpR (op_eqG hr.units) (pv 4) (pe_lst (pa_cons pe_str pa_nil)) (nomark _))
          (pss_one (ps_expr (pe_bm PySem.F.plainAttrs_list PySem.F.slot_list_append PySem.F.type_list_append mt_append (pv 2) (pa_cons (pe_lst pa_nil) pa_nil))))
          (pss_one (ps_if (PW.pt (pw_and (pt_cmpR op_gt (pe_callB (call_lenG) (by rfl) T.f_len (by decide +kernel) (pa_cons (pv 2) pa_nil)) pe_int (nomark _)) (pw_and (pt_cmpR (op_eqG hr.units) (pe_callB (call_lenG) (by rfl) T.f_len (by decide +kernel) (pa_cons (pv 4) pa_nil)) pe_int (nomark _)) (pw_and (pt_val (pe_callO G_number_word (hr.mono (by decide)) (by rfl) pass0 (pa_cons (pe_ix ix_seq (pv 4) pe_int (fun _ _ => rfl)) pa_nil))) (pw_and1 (pt_val (pe_callO G_name_word (hr.mono (by decide)) (by rfl) pass0 (pa_cons (pe_ix ix_seq (pv 4) pe_int (fun _ _ => rfl)) pa_nil))))))))
            (pss_one (ps_expr (pe_bm PySem.F.plainAttrs_list PySem.F.slot_list_append PySem.F.type_list_append mt_append (pe_ix ix_seq (pv 2) (pe_un un_neg pe_int) (fun _ _ => rfl)) (pa_cons (pe_tup (pa_cons (pe_callTy call_intG (by rfl) T.f_int (by decide +kernel) (pa_cons (pe_ix ix_seq (pv 4) pe_int (fun _ _ => rfl)) pa_nil)) (pa_cons (pe_ix ix_seq (pv 4) pe_int (fun _ _ => rfl)) pa_nil))) pa_nil))))
            (pss_one (ps_raise rfl (takes_of rfl rfl rfl rfl) (pmk_oex T.oex_BadText T.ini_BadText.1 T.ini_BadText.2 hFI (hr.mono (by decide)) hBI .nil pass0 (by rfl) T.g_BadText (pa_cons pe_str (pa_cons (pe_op op_addG (pv 3) pe_int) (pa_cons pe_int (pa_cons pe_str pa_nil)))))))))))))
      (pss_cons (ps_if (pt_cmpR (op_neG hr.units) (pe_ix ix_seq (pv 1) (pe_un un_neg pe_int) (fun _ _ => rfl)) pe_str (nomark _))
        (pss_one (ps_raise rfl (takes_of rfl rfl rfl rfl) (pmk_oex T.oex_BadText T.ini_BadText.1 T.ini_BadText.2 hFI (hr.mono (by decide)) hBI .nil pass0 (by rfl) T.g_BadText (pa_cons pe_str (pa_cons (pe_callB (call_lenG) (by rfl) T.f_len (by decide +kernel) (pa_cons (pv 1) pa_nil)) (pa_cons pe_int (pa_cons pe_str pa_nil)))))))
        pss_nil)
      (pss_one (ps_ret (pv 2))))))), ?_⟩
    walk_at "rd"
    obtain ⟨hw1, hw2, hw3⟩ := lines_wd hz
    refine x_spl (by decide +kernel) (sz_le (by have := hz.len; omega)) fun p hp => ?_
    have O1 := (Own.start H).frz (o := .lst ((linesS z).map V.str)) hp
    have hls : (upd ho0 p (.lst ((linesS z).map V.str))) p = some (.lst ((linesS z).map V.str)) := upd_same
    show gName 1 _ _ _ _
    replace O1 : Own H (upd ho0 p (.lst ((linesS z).map V.str))) [] (upd H p (.lst ((Txt.split z "\n").map V.str))) := O1
    generalize upd H p (.lst ((Txt.split z "\n").map V.str)) = H1 at O1 ⊢
    generalize hN1 : upd ho0 p (.lst ((linesS z).map V.str)) = N1 at O1 hls
    walk_at "rd"
    refine ⟨sz_lit (n := 0), fun F hF => ?_⟩
    have I0 : PInv K H N1 F [] (upd H1 F (.lst [])) := ⟨N1, Same.refl _, .inl ⟨rfl, O1.new hF⟩⟩
    generalize upd H1 F (.lst []) = H2 at I0 ⊢
    walk_at "rd"
    refine a_lenL (SqL.of (I0.sm.2 _ _ hls)) ?_
    walk_at "rd"
    rw [List.length_map]
    have hpos : 0 < (linesS z).length := List.length_pos_iff.mpr hw3
    refine x_r1 (by omega) (by omega) ?_
    have hdl : (linesS z).dropLast.length = (linesS z).length - 1 := List.length_dropLast
    have hn : ((linesS z).length - 1 : Int).toNat = (linesS z).dropLast.length := by rw [hdl]; omega
    rw [hn]
    have hsm0 := I0.sm.1
    refine forR (fun i σ H' => (∃ x3 x4, σ = [some (.str z), some (.ref p), some (.ref F), x3, x4]) ∧ ∃ f, PInv K H N1 F f H' ∧ f.length ≤ i ∧ (∀ cs ∈ f, cs.length ≤ i) ∧ papScan [] 0 (linesS z).dropLast = papScan f i ((linesS z).dropLast.drop i))
      ⟨⟨_, _, rfl⟩, [], I0, Nat.le_refl _, (fun _ h => (List.not_mem_nil h).elim), rfl⟩ ?_ ?_
    · rintro i σ H3 hi ⟨⟨x3, x4, rfl⟩, f, I3, hf1, hf2, hsc⟩
      have hi2 : i < (linesS z).length := by omega
      have e1 : (linesS z)[i]? = some ((linesS z).dropLast[i]) := by
        rw [List.getElem_dropLast]
        exact List.getElem?_eq_getElem hi2
      rw [List.drop_eq_getElem_cons hi] at hsc
      have hzi := hw1 _ (List.mem_of_getElem? e1)
      generalize (linesS z).dropLast[i] = zi at e1 hsc hzi
      obtain ⟨hq1, hq2, hq3⟩ := words_wd hzi
      walk_at "rd"
      refine a_ixL (SqL.of (I3.sm.2 _ _ hls)) (i := 0 + (i : Int)) (ixS' (i := i) (Int.zero_add _) e1) ?_
      walk_at "rd"
      refine x_spl (by decide +kernel) (sz_le (by have := hzi.len; omega)) fun pw hpw => ?_
      have I4 := I3.ext (same_new (o := .lst ((wordsS zi).map V.str)) hpw)
      have hw4 : (upd H3 pw (.lst ((wordsS zi).map V.str))) pw = some (.lst ((wordsS zi).map V.str)) := upd_same
      show gName 4 _ _ _ _
      replace I4 : PInv K H N1 F f (upd H3 pw (.lst ((Txt.split zi " ").map V.str))) := I4
      replace hw4 : (upd H3 pw (.lst ((Txt.split zi " ").map V.str))) pw = some (.lst ((wordsS zi).map V.str)) := hw4
      generalize upd H3 pw (.lst ((Txt.split zi " ").map V.str)) = H4 at I4 hw4 ⊢
      have hwd : ∀ y ∈ wordsS zi, Wd y := fun y hy => (hq1 y hy).wd
      generalize hws : wordsS zi = ws at hw4 hwd hq2 hq3
      have hbad : papStep f ws = none → Bad K "paper" (i + 1) H E := fun h => by
        refine qe _ ?_
        unfold readPaper
        rw [hsc]
        unfold papScan
        rw [hws, h]
      have hgood : ∀ f', papStep f ws = some f' → papScan [] 0 (linesS z).dropLast = papScan f' (i + 1) ((linesS z).dropLast.drop (i + 1)) := fun f' h => by
        rw [hsc]
        conv => lhs; unfold papScan
        rw [hws, h]
      have hi9 : i + 1 < 1000000000 := by omega
      have ei : V.int (0 + (i : Int) + 1) = V.int ((i + 1 : Nat) : Int) := by rw [Int.zero_add]; rfl
      clear hsc hws
      walk_at "rd"
      refine ⟨sz_lit (n := 1), fun pl hpl => ?_⟩
      have I5 := I4.ext (same_new (o := .lst [.str "pause"]) hpl)
      have hw5 := same_new (o := .lst [.str "pause"]) hpl _ _ hw4
      have hl5 : (upd H4 pl (.lst [.str "pause"])) pl = some (.lst (([("pause" : Str)] : List Str).map V.str)) := upd_same
      generalize upd H4 pl (.lst [.str "pause"]) = H5 at I5 hw5 hl5 ⊢
      refine a_eqD (dp_strs (SqL.of hw5)) (dp_strs (SqL.of hl5)) (shaped_strs hwd) (shaped_strs (wd_one wd_pause)) ?_
      rw [eqv_strs]
      walk_at "rd"
      refine x_ite (fun g => ?_) (fun g => ?_)
      · have g := of_decide_eq_true g
        have hst : papStep f ws = some (f ++ [[]]) := by unfold papStep; rw [if_pos g]
        walk_at "rd"
        obtain ⟨vs0, hvs0, _⟩ := I5.cont
        refine x_tyL (SqL.of hvs0) ?_
        walk_at "rd"
        refine ⟨sz_lit (n := 0), fun c hc => ?_⟩
        obtain ⟨vs, hvs, hvl, I6⟩ := I5.pause hc
        walk_at "rd"
        refine x_append hvs (sz_lt (by omega)) ?_
        refine ⟨⟨_, _, rfl⟩, _, I6, by rw [List.length_append]; show _ + 1 ≤ _; omega, fun cs hcs => ?_, hgood _ hst⟩
        rcases List.mem_append.mp hcs with hcs | hcs
        · have := hf2 cs hcs; omega
        · rw [List.mem_singleton.mp hcs]; exact Nat.zero_le _
      have g := of_decide_eq_false g
      obtain ⟨vs, hvs, hvl⟩ := I5.cont
      walk_at "rd"
      refine a_lenL (SqL.of hvs) ?_
      walk_at "rd"
      rw [hvl, show decide ((0 : Int) < (f.length : Int)) = decide (0 < f.length) from dec_len (k := 0)]
      refine x_ite (fun g1 => ?_) (fun g1 => ?_)
      · have g1 := of_decide_eq_true g1
        obtain ⟨pre, cur, rfl⟩ : ∃ pre cur, f = pre ++ [cur] := ⟨f.dropLast, f.getLast (by intro e; rw [e] at g1; exact absurd g1 (by decide)), (List.dropLast_concat_getLast _).symm⟩
        walk_at "rd"
        refine a_lenL (SqL.of hw5) ?_
        walk_at "rd"
        rw [List.length_map, show V.int 2 = V.int ((2 : Nat) : Int) from rfl, dec_lenI]
        refine x_ite (fun g2 => ?_) (fun g2 => ?_)
        · obtain ⟨w0, w1, e⟩ : ∃ w0 w1, ws = [w0, w1] := by
            have := of_decide_eq_true g2
            match ws, this with
            | [a, b], _ => exact ⟨a, b, rfl⟩
          subst e
          have w0l := (hwd w0 (by simp)).1
          have w1l := (hwd w1 (by simp)).1
          have hst : papStep (pre ++ [cur]) [w0, w1] = if numberWord w0 = true ∧ nameWord w1 = true then some (pre ++ [cur ++ [(wordInt w0, w1)]]) else none := by
            unfold papStep
            rw [if_neg g]
            simp
          walk_at "rd"
          refine a_ixL (SqL.of hw5) (ixS (i := 0) rfl) ?_
          walk_at "rd"
          refine ⟨w0, rfl, w0l, ?_⟩
          walk_at "rd"
          refine x_ite (fun g3 => ?_) (fun g3 => ?_)
          · walk_at "rd"
            refine a_ixL (SqL.of hw5) (ixS (i := 1) rfl) ?_
            walk_at "rd"
            refine ⟨w1, rfl, w1l, ?_⟩
            walk_at "rd"
            refine x_ite (fun g4 => ?_) (fun g4 => ?_)
            · rw [if_pos ⟨g3, g4⟩] at hst
              walk_at "rd"
              obtain ⟨pv, c, cv, hvF, hvc, hcl, _⟩ := I5.couple (t := 0) (a := 0) (b := w1)
              have hcur := hf2 cur (by simp)
              refine x_un ?_
              walk_at "rd"
              refine ⟨_, rfl, ?_⟩
              refine a_ixL (SqL.of hvF) atI_last ?_
              refine x_tyL (SqL.of hvc) ?_
              walk_at "rd"
              refine a_ixL (SqL.of hw5) (ixS (i := 0) rfl) ?_
              walk_at "rd"
              refine x_intS (number_int g3).eq (number_int g3).2 ?_
              walk_at "rd"
              refine a_ixL (SqL.of hw5) (ixS (i := 1) rfl) ?_
              walk_at "rd"
              refine ⟨sz_lit (n := 2), fun t ht => ?_⟩
              obtain ⟨pv', c', cv', hvF', hvc', hcl', I6⟩ := I5.couple (t := t) (a := wordInt w0) (b := w1)
              have ec : c' = c := by
                rw [hvF] at hvF'
                have := HO.lst.inj (Option.some.inj hvF')
                have := (List.append_inj' this rfl).2
                cases this
                rfl
              subst ec
              rw [hvc] at hvc'
              cases hvc'
              walk_at "rd"
              refine x_append (same_new ht _ _ hvc) (sz_lt (by omega)) ?_
              refine ⟨⟨_, _, rfl⟩, _, I6 ht, by rw [List.length_append] at hf1 ⊢; simpa using Nat.le_succ_of_le hf1, fun cs hcs => ?_, hgood _ hst⟩
              rcases List.mem_append.mp hcs with hcs | hcs
              · have := hf2 cs (List.mem_append_left _ hcs); omega
              · rw [List.mem_singleton.mp hcs, List.length_append]
                show _ + 1 ≤ _
                omega
            · rw [if_neg (fun h => by rw [h.2] at g4; cases g4)] at hst
              have hst2 : papStep (pre ++ [cur]) [w0, w1] = none := by
                exact hst
              refine x_mkO ?_
              walk_at "rd"
              rw [ei]
              exact x_mk (by decide +kernel) hi9 ((hbad hst2).ext I5.sm.1)
          · rw [if_neg (fun h => by rw [h.1] at g3; cases g3)] at hst
            refine iteF ?_
            have hst2 : papStep (pre ++ [cur]) [w0, w1] = none := by
              exact hst
            refine x_mkO ?_
            walk_at "rd"
            rw [ei]
            exact x_mk (by decide +kernel) hi9 ((hbad hst2).ext I5.sm.1)
        · refine iteF ?_
          have hst2 : papStep (pre ++ [cur]) ws = none := by
            unfold papStep
            rw [if_neg g]
            have g2' := of_decide_eq_false g2
            split
            · exact absurd rfl g2'
            · rfl
          refine x_mkO ?_
          walk_at "rd"
          rw [ei]
          exact x_mk (by decide +kernel) hi9 ((hbad hst2).ext I5.sm.1)
      · refine iteF ?_
        have hst2 : papStep f ws = none := by
          unfold papStep
          have g1' := of_decide_eq_false g1
          have : f = [] := List.length_eq_zero_iff.mp (by omega)
          rw [if_neg g, this]
          rfl
        refine x_mkO ?_
        walk_at "rd"
        rw [ei]
        exact x_mk (by decide +kernel) hi9 ((hbad hst2).ext I5.sm.1)
    · rintro σ H3 ⟨⟨x3, x4, rfl⟩, f, I3, hf1, hf2, hsc⟩
      rw [List.drop_length] at hsc
      have hlast : atI ((linesS z).map V.str) (-1) = ((linesS z).getLast?).map V.str := by
        obtain ⟨l', x, e⟩ : ∃ l' x, linesS z = l' ++ [x] := ⟨_, _, (List.dropLast_concat_getLast hw3).symm⟩
        rw [e, List.map_append]
        simpa using atI_last
      obtain ⟨x, hx⟩ : ∃ x, (linesS z).getLast? = some x := by
        obtain ⟨l', x, e⟩ : ∃ l' x, linesS z = l' ++ [x] := ⟨_, _, (List.dropLast_concat_getLast hw3).symm⟩
        exact ⟨x, by rw [e]; simp⟩
      rw [hx] at hlast
      have hxw := hw1 x (List.mem_of_getLast? hx)
      walk_at "rd"
      refine x_un ?_
      walk_at "rd"
      refine ⟨_, rfl, ?_⟩
      refine a_ixL (SqL.of (I3.sm.2 _ _ hls)) hlast ?_
      walk_at "rd"
      rw [dec_strV]
      have hrp : readPaper z = if (linesS z).getLast? = some ("" : Str) then .ok f else .error (linesS z).length := by
        unfold readPaper
        rw [hsc]
        rfl
      refine x_ite (fun g => ?_) (fun g => ?_)
      · have g : ¬ x = "" := of_decide_eq_false (by simpa using g)
        rw [hx, if_neg (fun e => g (Option.some.inj e))] at hrp
        walk_at "rd"
        refine x_mkO ?_
        walk_at "rd"
        refine a_lenL (SqL.of (I3.sm.2 _ _ hls)) ?_
        walk_at "rd"
        rw [List.length_map]
        exact x_mk (by decide +kernel) (by omega) ((qe _ hrp).ext I3.sm.1)
      · have g : x = "" := of_decide_eq_true (by simpa using g)
        rw [hx, g, if_pos rfl] at hrp
        walk_at "rd"
        obtain ⟨N, O, dp⟩ := I3.fin
        exact q f _ N _ hrp O dp
end
end K97


set_option maxRecDepth 100000
set_option maxHeartbeats 4000000
namespace K97
open PySem PySem.Spec PyProof.Rows L2 TL NB
local macro_rules | `(tactic| walk_at "rd") => `(tactic| repeat (first
  | (with_reducible refine x_seq ?_) | (with_reducible refine x_asg ?_) | (with_reducible refine x_gName ?_) | (with_reducible refine x_ret ?_) | (with_reducible refine x_drop ?_) | (with_reducible refine x_ifS ?_)
  | (with_reducible refine x_op ?_) | (with_reducible refine x_c ?_) | ((with_reducible refine' x_var ?k1 ?_); (case k1 => with_unfolding_all rfl)) | (with_reducible refine x_cb ?_) | (with_reducible refine x_call0 ?_) | (with_reducible refine x_cons ?_) | (with_reducible refine x_nil ?_)
  | (with_reducible refine x_test ?_) | (with_reducible refine x_B ?_) | (with_reducible refine x_bl ?_) | (with_reducible refine x_and ?_) | (with_reducible refine x_or ?_) | (with_reducible refine x_not ?_)
  | (with_reducible refine x_andV ?_) | (with_reducible refine x_orV ?_) | (with_reducible refine x_notV ?_) | (with_reducible refine x_if ?_) | (with_reducible refine x_isN ?_) | (with_reducible refine x_notN ?_)
  | (with_reducible refine x_tup ?_) | (with_reducible refine x_lst ?_) | (with_reducible refine x_sl ?_) | (with_reducible refine x_noPart ?_) | (with_reducible refine x_part ?_) | (with_reducible refine x_int ?_)
  | (with_reducible refine x_bm ?_) | (with_reducible refine x_m1 ?_) | (with_reducible refine x_tyS ?_) | (with_reducible refine x_gNil ?_) | (with_reducible refine x_gCons ?_) | (with_reducible refine x_gSub ?_) | (with_reducible refine x_next ?_) | (with_reducible refine x_brk ?_)
  | (with_reducible refine x_slStep ?_) | (with_reducible refine x_lc ?_) | (with_reducible refine x_for ?_) | (with_reducible refine x_iL ?_) | (with_reducible refine x_iR1 ?_) | (with_reducible refine x_iR3 ?_) | (with_reducible refine x_iS ?_) | (with_reducible refine x_ref ?_) | (with_reducible refine x_yes ?_)
  | (with_reducible refine a_addI ?_) | (with_reducible refine x_I0 ?_) | (with_reducible refine a_eq rfl ?_) | (with_reducible refine a_ne rfl ?_) | (with_reducible refine a_inS ?_) | (with_reducible refine a_ninS ?_) | (with_reducible refine x_strS ?_) | (with_reducible refine x_intI ?_) | (with_reducible refine x_iB ?_) | (with_reducible refine x_iT ?_)))

section
variable {P : Program} {w : World} {K : PySem.W.Frag} {mg : Str → Option Value} {base : Heap}
/-! ### the rows of a text -/
def vwStep (b : Str) (ws : List Str) : Option Str := match ws with
  | z :: r => if mayFollow b z = true ∧ lineStands z r = true then some z else none
  | [] => none
def vwScan : Str → Nat → List Str → Except Nat Str
  | b, _, [] => .ok b
  | b, k, z :: r => match vwStep b (wordsS z) with
    | some b' => vwScan b' (k + 1) r
    | none => .error (k + 1)
def readRows (z : Str) : Except Nat (List (List Str)) := match vwScan "told" 0 (linesS z).dropLast with
  | .error k => .error k
  | .ok b => if (linesS z).getLast? = some ("" : Str) ∧ followL b = none then .ok ((linesS z).dropLast.map wordsS) else .error (linesS z).length
def sp_view_lines (K : PySem.W.Frag) : Sp := fun vs H Q E => ∃ z : Str, vs = [.str z] ∧ Tok90 z ∧ (∀ k, readRows z = .error k → Bad K "view" k H E) ∧ ∀ rows v N H', readRows z = .ok rows → Own H N [] H' → Dp K N v (.list (rows.map strsD)) → Q v H'
theorem sc_view_lines : FnScope ["text", "lines", "found", "before", "k", "words"] ["text"] (defScope s_view_lines) := ⟨rfl, rfl, rfl, by decide +kernel, rfl, by decide +kernel, by decide +kernel⟩
theorem ok_view_lines (T : Tx w K mg) : OkF P w K mg base (L2.CX P w) 6 "view_lines" ["text"] (sp_view_lines K) := by
  have G_line_stands := ok_line_stands (P := P) (base := base) T
  have G_may_follow := ok_may_follow (P := P) (base := base) T
  obtain ⟨fdI, hBI, hFI⟩ := ok_init (P := P) (base := base) T
  refine Tx.defX T 12 rfl T.g_view_lines sc_view_lines (fun _ _ _ _ _ _ us hl => match us, hl with | [_], _ => rfl) (fun vs H Q E h => ?_) (fun f cdv A outer s H vs Q E hr h => ?_)
  · obtain ⟨z, rfl, hz, qe, q⟩ := h; rfl
  · obtain ⟨z, rfl, hz, qe, q⟩ := h
    refine ⟨_, (pss_cons (ps_set (i := 1) sc_view_lines.nd rfl (by first | exact Or.inl rfl | exact Or.inr rfl) (pe_split (pv 0) pe_str))
      (pss_cons (ps_set (i := 2) sc_view_lines.nd rfl (by first | exact Or.inl rfl | exact Or.inr rfl) (pe_lst pa_nil))
      (pss_cons (ps_set (i := 3) sc_view_lines.nd rfl (by first | exact Or.inl rfl | exact Or.inr rfl) pe_str)
      (pss_cons (ps_for (passes_of rfl) rfl (pi_range1 (by rfl) T.f_range (pa_cons (pe_op op_sub (pe_callB (call_lenG) (by rfl) T.f_len (by decide +kernel) (pa_cons (pv 1) pa_nil)) pe_int) pa_nil)) (pg_name (i := 4) sc_view_lines.nd rfl (by first | exact Or.inl rfl | exact Or.inr rfl))
        (pss_cons (ps_set (i := 5) sc_view_lines.nd rfl (by first | exact Or.inl rfl | exact Or.inr rfl) (pe_split (pe_ix ix_seq (pv 1) (pv 4) (fun _ _ => rfl)) pe_str))
        (pss_cons (ps_if (PW.pt (pw_or (pt_not (pt_val (pe_callO G_may_follow (hr.mono (by decide)) (by rfl) pass0 (pa_cons (pv 3) (pa_cons (pe_ix ix_seq (pv 5) pe_int (fun _ _ => rfl)) pa_nil))))) (pw_or1 (pt_not (pt_val (pe_callO G_line_stands (hr.mono (by decide)) (by rfl) pass0 (pa_cons (pv 5) pa_nil)))))))
          (pss_one (ps_raise rfl (takes_of rfl rfl rfl rfl) (pmk_oex T.oex_BadText T.ini_BadText.1 T.ini_BadText.2 hFI (hr.mono (by decide)) hBI .nil pass0 (by rfl) T.g_BadText (pa_cons pe_str (pa_cons (pe_op op_addG (pv 4) pe_int) (pa_cons pe_int (pa_cons pe_str pa_nil)))))))
          pss_nil)
        (pss_cons (ps_set (i := 3) sc_view_lines.nd rfl (by first | exact Or.inl rfl | exact Or.inr rfl) (pe_ix ix_seq (pv 5) pe_int (fun _ _ => rfl)))
        (pss_one (ps_expr (pe_bm PySem.F.plainAttrs_list PySem.F.slot_list_append PySem.F.type_list_append mt_append (pv 2) (pa_cons (pv 5) pa_nil))))))))
      (pss_cons (ps_if (PW.pt (pw_or (pt_cmpR (op_neG hr.units) (pe_ix ix_seq (pv 1) (pe_un un_neg pe_int) (fun _ _ => rfl)) pe_str (nomark _)) (pw_or1 (pt_cmpR (op_inK T.dic_FOLLOW) (pv 3) (pe_gref T.g_FOLLOW (by rfl)) (by rfl)))))
        (pss_one (ps_raise rfl (takes_of rfl rfl rfl rfl) (pmk_oex T.oex_BadText T.ini_BadText.1 T.ini_BadText.2 hFI (hr.mono (by decide)) hBI .nil pass0 (by rfl) T.g_BadText (pa_cons pe_str (pa_cons (pe_callB (call_lenG) (by rfl) T.f_len (by decide +kernel) (pa_cons (pv 1) pa_nil)) (pa_cons pe_int (pa_cons pe_str pa_nil)))))))
        pss_nil)
      (pss_one (ps_ret (pv 2)))))))), ?_⟩
    obtain ⟨hw1, hw2, hw3⟩ := lines_wd hz
    walk_at "rd"
    refine x_spl (by decide +kernel) (sz_le (by have := hz.len; omega)) fun p hp => ?_
    have O1 := (Own.start H).frz (o := .lst ((linesS z).map V.str)) hp
    have hls : (upd ho0 p (.lst ((linesS z).map V.str))) p = some (.lst ((linesS z).map V.str)) := upd_same
    show gName 1 _ _ _ _
    replace O1 : Own H (upd ho0 p (.lst ((linesS z).map V.str))) [] (upd H p (.lst ((Txt.split z "\n").map V.str))) := O1
    generalize upd H p (.lst ((Txt.split z "\n").map V.str)) = H1 at O1 ⊢
    generalize hN1 : upd ho0 p (.lst ((linesS z).map V.str)) = N1 at O1 hls
    walk_at "rd"
    refine ⟨sz_lit (n := 0), fun F hF => ?_⟩
    have O2 := O1.new (o := .lst []) hF
    generalize upd H1 F (.lst []) = H2 at O2 ⊢
    walk_at "rd"
    refine a_lenL (SqL.of (O2.n _ _ hls)) ?_
    walk_at "rd"
    rw [List.length_map]
    have hpos : 0 < (linesS z).length := List.length_pos_iff.mpr hw3
    refine x_r1 (by omega) (by omega) ?_
    have hdl : (linesS z).dropLast.length = (linesS z).length - 1 := List.length_dropLast
    have hn : ((linesS z).length - 1 : Int).toNat = (linesS z).dropLast.length := by rw [hdl]; omega
    rw [hn]
    refine forR (fun i σ H' => ∃ (b : Str) (x4 x5 : Option V) (N : Hp) (vs : List V), σ = [some (.str z), some (.ref p), some (.ref F), some (.str b), x4, x5] ∧ Same N1 N ∧ Own H N [(F, .lst vs)] H' ∧ DpAll K N vs (((linesS z).dropLast.take i).map fun y => strsD (wordsS y)) ∧ vwScan "told" 0 (linesS z).dropLast = vwScan b i ((linesS z).dropLast.drop i))
      ⟨_, _, _, _, _, rfl, Same.refl _, O2, .nil, rfl⟩ ?_ ?_
    · rintro i σ H3 hi ⟨b, x4, x5, N, vs, rfl, sN, O3, dvs, hsc⟩
      have hi2 : i < (linesS z).length := by omega
      have e1 : (linesS z)[i]? = some ((linesS z).dropLast[i]) := by
        rw [List.getElem_dropLast]
        exact List.getElem?_eq_getElem hi2
      have e2 : (linesS z).dropLast[i]? = some ((linesS z).dropLast[i]) := List.getElem?_eq_getElem hi
      rw [List.drop_eq_getElem_cons hi] at hsc
      have hzi := hw1 _ (List.mem_of_getElem? e1)
      generalize (linesS z).dropLast[i] = zi at e1 e2 hsc hzi
      obtain ⟨hq1, hq2, hq3⟩ := words_wd hzi
      walk_at "rd"
      refine a_ixL (SqL.of (O3.n _ _ (sN _ _ hls))) (i := 0 + (i : Int)) (ixS' (i := i) (Int.zero_add _) e1) ?_
      walk_at "rd"
      refine x_spl (by decide +kernel) (sz_le (by have := hzi.len; omega)) fun pw hpw => ?_
      have sn := same_new (o := .lst ((wordsS zi).map V.str)) (O3.n.free hpw)
      have O4 := O3.frz (o := .lst ((wordsS zi).map V.str)) hpw
      have hwN : (upd N pw (.lst ((wordsS zi).map V.str))) pw = some (.lst ((wordsS zi).map V.str)) := upd_same
      show gName 5 _ _ _ _
      replace O4 : Own H (upd N pw (.lst ((wordsS zi).map V.str))) [(F, .lst vs)] (upd H3 pw (.lst ((Txt.split zi " ").map V.str))) := O4
      generalize upd H3 pw (.lst ((Txt.split zi " ").map V.str)) = H4 at O4 ⊢
      replace sN := sN.trans sn
      replace dvs := dpAll_mono sn dvs
      generalize upd N pw (.lst ((wordsS zi).map V.str)) = N4 at O4 hwN sN dvs
      have hwd : ∀ y ∈ wordsS zi, Wd y := fun y hy => (hq1 y hy).wd
      obtain ⟨w0, r, hws⟩ : ∃ w0 r, wordsS zi = w0 :: r := by
        cases e : wordsS zi with
        | nil => exact absurd e hq3
        | cons a b => exact ⟨a, b, rfl⟩
      have dwn : Dp K N4 (.ref pw) (strsD (wordsS zi)) := dp_strs (SqL.of hwN)
      rw [hws] at hwN hwd hq2
      have hbad : vwStep b (w0 :: r) = none → Bad K "view" (i + 1) H E := fun h => by
        refine qe _ ?_
        unfold readRows
        rw [hsc]
        unfold vwScan
        rw [hws, h]
      have hgood : ∀ b', vwStep b (w0 :: r) = some b' → vwScan "told" 0 (linesS z).dropLast = vwScan b' (i + 1) ((linesS z).dropLast.drop (i + 1)) := fun f' h => by
        rw [hsc]
        conv => lhs; unfold vwScan
        rw [hws, h]
      have hi9 : i + 1 < 1000000000 := by omega
      have ei : V.int (0 + (i : Int) + 1) = V.int ((i + 1 : Nat) : Int) := by rw [Int.zero_add]; rfl
      have hst : vwStep b (w0 :: r) = if mayFollow b w0 = true ∧ lineStands w0 r = true then some w0 else none := rfl
      walk_at "rd"
      refine a_ixL (SqL.of (O4.n _ _ hwN)) (ixS (i := 0) rfl) ?_
      walk_at "rd"
      refine ⟨b, w0, rfl, ?_⟩
      walk_at "rd"
      refine x_ite (fun g => ?_) (fun g => ?_)
      · refine iteT ?_
        walk_at "rd"
        refine x_mkO ?_
        walk_at "rd"
        rw [ei]
        have g : mayFollow b w0 = false := by simpa using g
        exact x_mk (by decide +kernel) hi9 ((hbad (by rw [hst, if_neg (fun h => by rw [h.1] at g; cases g)])).ext O4.g)
      have g : mayFollow b w0 = true := by simpa using g
      walk_at "rd"
      refine ⟨pw, w0, r, rfl, SqL.of (O4.n _ _ hwN), by simp only [List.length_cons] at hq2; omega, hwd, fun H5 s5 => ?_⟩
      have O5 := O4.ext s5
      walk_at "rd"
      refine x_ite (fun g2 => ?_) (fun g2 => ?_)
      · walk_at "rd"
        refine x_mkO ?_
        walk_at "rd"
        rw [ei]
        have g2 : lineStands w0 r = false := by simpa using g2
        exact x_mk (by decide +kernel) hi9 ((hbad (by rw [hst, if_neg (fun h => by rw [h.2] at g2; cases g2)])).ext O5.g)
      have g2 : lineStands w0 r = true := by simpa using g2
      walk_at "rd"
      refine a_ixL (SqL.of (O5.n _ _ hwN)) (ixS (i := 0) rfl) ?_
      walk_at "rd"
      refine x_tyL (SqL.of (O5.get 0)) ?_
      walk_at "rd"
      have hvl := dpAll_len dvs
      rw [List.length_map, List.length_take] at hvl
      refine x_append (O5.get 0) (sz_lt (by omega)) ?_
      refine ⟨w0, _, _, N4, vs ++ [V.ref pw], rfl, sN, O5.put 0 (u := .lst (vs ++ [V.ref pw])), ?_, hgood _ (by rw [hst, if_pos ⟨g, g2⟩])⟩
      rw [take_snoc e2, List.map_append]
      exact dpAll_app dvs (.cons dwn .nil)
    · rintro σ H3 ⟨b, x4, x5, N, vs, rfl, sN, O3, dvs, hsc⟩
      rw [List.drop_length] at hsc
      rw [List.take_length] at dvs
      have hlast : atI ((linesS z).map V.str) (-1) = ((linesS z).getLast?).map V.str := by
        obtain ⟨l', x, e⟩ : ∃ l' x, linesS z = l' ++ [x] := ⟨_, _, (List.dropLast_concat_getLast hw3).symm⟩
        rw [e, List.map_append]
        simpa using atI_last
      obtain ⟨x, hx⟩ : ∃ x, (linesS z).getLast? = some x := by
        obtain ⟨l', x, e⟩ : ∃ l' x, linesS z = l' ++ [x] := ⟨_, _, (List.dropLast_concat_getLast hw3).symm⟩
        exact ⟨x, by rw [e]; simp⟩
      rw [hx] at hlast
      have hrp : readRows z = if (linesS z).getLast? = some ("" : Str) ∧ followL b = none then .ok ((linesS z).dropLast.map wordsS) else .error (linesS z).length := by
        unfold readRows
        rw [hsc]
        rfl
      rw [hx] at hrp
      have hrn : (linesS z).length < 1000000000 := by omega
      walk_at "rd"
      refine x_un ?_
      walk_at "rd"
      refine ⟨_, rfl, ?_⟩
      refine a_ixL (SqL.of (O3.n _ _ (sN _ _ hls))) hlast ?_
      walk_at "rd"
      rw [dec_strV]
      refine x_ite (fun g => ?_) (fun g => ?_)
      · have g : ¬ x = "" := of_decide_eq_false (by simpa using g)
        rw [if_neg (fun e => g (Option.some.inj e.1))] at hrp
        refine iteT ?_
        walk_at "rd"
        refine x_mkO ?_
        walk_at "rd"
        refine a_lenL (SqL.of (O3.n _ _ (sN _ _ hls))) ?_
        walk_at "rd"
        rw [List.length_map]
        exact x_mk (by decide +kernel) hrn ((qe _ hrp).ext O3.g)
      · have g : x = "" := of_decide_eq_true (by simpa using g)
        subst g
        walk_at "rd"
        refine ⟨b, rfl, rfl, ?_⟩
        walk_at "rd"
        rcases follow_cases T b with ⟨ks, a, h1, h2, h3⟩ | ⟨h1, h3⟩
        · rw [h1]
          rw [if_neg (fun e => by rw [h3] at e; cases e.2)] at hrp
          refine iteT ?_
          walk_at "rd"
          refine x_mkO ?_
          walk_at "rd"
          refine a_lenL (SqL.of (O3.n _ _ (sN _ _ hls))) ?_
          walk_at "rd"
          rw [List.length_map]
          exact x_mk (by decide +kernel) hrn ((qe _ hrp).ext O3.g)
        · rw [h1]
          rw [if_pos ⟨rfl, h3⟩] at hrp
          refine iteF ?_
          walk_at "rd"
          have fm := fix_mono O3
          refine q _ _ _ _ hrp O3.fix (.lst (SqL.of upd_same) ?_)
          rw [List.map_map]
          exact dpAll_mono fm dvs
end
end K97


set_option maxRecDepth 100000
set_option maxHeartbeats 4000000
namespace K97
open PySem PySem.Spec PyProof.Rows L2 TL NB
local macro_rules | `(tactic| walk_at "rd") => `(tactic| repeat (first
  | (with_reducible refine x_seq ?_) | (with_reducible refine x_asg ?_) | (with_reducible refine x_gName ?_) | (with_reducible refine x_ret ?_) | (with_reducible refine x_drop ?_) | (with_reducible refine x_ifS ?_)
  | (with_reducible refine x_op ?_) | (with_reducible refine x_c ?_) | ((with_reducible refine' x_var ?k1 ?_); (case k1 => with_unfolding_all rfl)) | (with_reducible refine x_cb ?_) | (with_reducible refine x_call0 ?_) | (with_reducible refine x_cons ?_) | (with_reducible refine x_nil ?_)
  | (with_reducible refine x_test ?_) | (with_reducible refine x_B ?_) | (with_reducible refine x_bl ?_) | (with_reducible refine x_and ?_) | (with_reducible refine x_or ?_) | (with_reducible refine x_not ?_)
  | (with_reducible refine x_andV ?_) | (with_reducible refine x_orV ?_) | (with_reducible refine x_notV ?_) | (with_reducible refine x_if ?_) | (with_reducible refine x_isN ?_) | (with_reducible refine x_notN ?_)
  | (with_reducible refine x_tup ?_) | (with_reducible refine x_lst ?_) | (with_reducible refine x_sl ?_) | (with_reducible refine x_noPart ?_) | (with_reducible refine x_part ?_) | (with_reducible refine x_int ?_)
  | (with_reducible refine x_bm ?_) | (with_reducible refine x_m1 ?_) | (with_reducible refine x_tyS ?_) | (with_reducible refine x_gNil ?_) | (with_reducible refine x_gCons ?_) | (with_reducible refine x_gSub ?_) | (with_reducible refine x_next ?_) | (with_reducible refine x_brk ?_)
  | (with_reducible refine x_slStep ?_) | (with_reducible refine x_lc ?_) | (with_reducible refine x_for ?_) | (with_reducible refine x_iL ?_) | (with_reducible refine x_iR1 ?_) | (with_reducible refine x_iR3 ?_) | (with_reducible refine x_iS ?_) | (with_reducible refine x_ref ?_) | (with_reducible refine x_yes ?_)
  | (with_reducible refine a_addI ?_) | (with_reducible refine x_I0 ?_) | (with_reducible refine a_eq rfl ?_) | (with_reducible refine a_ne rfl ?_) | (with_reducible refine a_inS ?_) | (with_reducible refine a_ninS ?_) | (with_reducible refine x_strS ?_) | (with_reducible refine x_intI ?_) | (with_reducible refine x_iB ?_) | (with_reducible refine x_iT ?_)))

section
variable {P : Program} {w : World} {K : PySem.W.Frag} {mg : Str → Option Value} {base : Heap}
/-! ### what follows told, read back -/
def tripsP : List Str → List PyData
  | a :: _ :: c :: r => .tuple [.str a, .str c] :: tripsP r
  | _ => []
def toldP (ws : List Str) : PyData := if ws = ([("same" : Str)] : List Str) then .none else .list (tripsP ws)
def sp_told_of (K : PySem.W.Frag) : Sp := fun vs H Q _ => ∃ (a : Addr) (ws : List Str), vs = [.ref a] ∧ SqL K H a (ws.map V.str) ∧ ws.length ≤ 100000 ∧ (∀ z ∈ ws, Wd z) ∧ toldForm ws = true ∧ ∀ v N H', Own H N [] H' → Dp K N v (toldP ws) → Q v H'
theorem sc_told_of : FnScope ["words", "k"] ["words"] (defScope s_told_of) := ⟨rfl, rfl, rfl, by decide +kernel, rfl, by decide +kernel, by decide +kernel⟩
theorem ok_told_of (T : Tx w K mg) : OkF P w K mg base CX0 1 "told_of" ["words"] (sp_told_of K) := by
  refine Tx.def0 T 14 rfl T.g_told_of sc_told_of (fun _ _ _ _ _ _ us hl => match us, hl with | [_], _ => rfl) (fun vs H Q E h => ?_) (fun f cdv A outer s H vs Q E hr h => ?_)
  · obtain ⟨a, ws, rfl, hs, hl, hw, hf, q⟩ := h; rfl
  · obtain ⟨a, ws, rfl, hs, hl, hw, hf, q⟩ := h
    refine ⟨_, (pss_cons (ps_if (pt_cmpR (op_eqG hr.units) (pv 0) (pe_lst (pa_cons pe_str pa_nil)) (nomark _))
        (pss_one (ps_ret pe_non))
        pss_nil)
      (pss_one (ps_ret (pe_lc (own := [("k", 1)]) rfl sc_told_of.nd (pi_range3 (by rfl) T.f_range (pa_cons pe_int (pa_cons (pe_callB (call_lenG) (by rfl) T.f_len (by decide +kernel) (pa_cons (pv 0) pa_nil)) (pa_cons pe_int pa_nil)))) (blkOk_by (own := [("k", 1)]) (N := ["words", "k"]) (sc := (defScope s_told_of)) (by decide +kernel)) (fun _ _ _ _ _ => (pg_name (i := 1) sc_told_of.nd rfl (by first | exact Or.inl rfl | exact Or.inr rfl))) (fun _ _ _ _ _ => pts_nil) (fun _ _ _ _ _ => (pe_tup (pa_cons (pe_ix ix_seqB (pv 0) (pv 1) (fun _ _ => rfl)) (pa_cons (pe_ix ix_seqB (pv 0) (pe_op op_addG (pv 1) pe_int) (fun _ _ => rfl)) pa_nil)))))))), ?_⟩
    walk_at "rd"
    refine ⟨sz_lit (n := 1), fun p hp => ?_⟩
    have O1 := (Own.start H).ext (same_new (o := .lst [.str "same"]) hp)
    refine a_eqD (dp_strs (O1.g.seq hs)) (dp_strs (ws := [("same" : Str)]) (SqL.of upd_same)) (shaped_strs hw) (shaped_strs (wd_one wd_same)) ?_
    generalize upd H p (.lst [.str "same"]) = H1 at O1 ⊢
    rw [eqv_strs]
    walk_at "rd"
    refine x_ite (fun h1 => ?_) (fun h1 => ?_)
    · walk_at "rd"
      refine q _ _ _ O1 ?_
      unfold toldP
      rw [if_pos (of_decide_eq_true h1)]
      exact .non
    have ht : trip ws = true := by
      unfold toldForm at hf
      rw [h1, Bool.false_or] at hf
      exact hf
    have h3 := trip_len ht
    walk_at "rd"
    refine a_lenL (O1.g.seq hs) ?_
    walk_at "rd"
    rw [List.length_map]
    refine ⟨_, _, _, ws.length / 3, rfl, rgC (.inl rfl) (by omega) hl, ?_⟩
    refine lcRC (fun D i acc H' => ∃ (N : Hp) (ds : List PyData), Own H N [(D, .lst acc)] H' ∧ DpAll K N acc ds ∧ ds.length = i ∧ ds ++ tripsP (ws.drop (3 * i)) = tripsP ws) (fun D hD => ⟨ho0, [], O1.new hD, .nil, rfl, rfl⟩) (fun D i acc H2 hD hi h => ?_) (fun D acc H' hD h => ?_)
    · obtain ⟨N, ds, O, da, hdl, he⟩ := h
      obtain ⟨x, y, z, hx, hy, hz, hd⟩ := drop3 (ws := ws) (i := i) (by omega)
      walk_at "rd"
      refine ⟨rfl, ?_⟩
      walk_at "rd"
      refine iteT ?_
      walk_at "rd"
      refine a_ixL (O.g.seq hs) (ixS' (i := 3 * i) (by omega) hx) ?_
      walk_at "rd"
      refine a_ixL (O.g.seq hs) (ixS' (i := 3 * i + 2) (by omega) hz) ?_
      walk_at "rd"
      refine ⟨sz_lit (n := 2), fun t ht => ?_⟩
      have O2 := O.frz (o := .tup [.str x, .str z]) ht
      have sn := same_new (o := .tup [.str x, .str z]) (O.n.free ht)
      have hla := dpAll_len da
      refine ⟨acc, O2.get 0, sz_lt (by omega), acc ++ [V.ref t], _, ds ++ [.tuple [.str x, .str z]], O2.put 0 (u := .lst (acc ++ [V.ref t])), dpAll_app (dpAll_mono sn da) (.cons (.tup (SqT.of upd_same) (.cons (.str x) (.cons (.str z) .nil))) .nil), by rw [List.length_append, hdl]; rfl, ?_⟩
      rw [← he, hd, List.append_assoc]
      rfl
    · obtain ⟨N, ds, O, da, hdl, he⟩ := h
      rw [List.drop_eq_nil_of_le (by omega)] at he
      refine q _ _ _ O.fix ?_
      unfold toldP
      rw [if_neg (of_decide_eq_false h1), ← he]
      show Dp K _ _ (.list (ds ++ []))
      rw [List.append_nil]
      exact .lst (SqL.of upd_same) (dpAll_mono (fix_mono O) da)
/-! ### the parts of a pause -/
structure SeenP where
  room : Str
  nums : PyData
  homes : List PyData
def SeenP.dat (s : SeenP) : PyData := .tuple [.str s.room, s.nums, .list s.homes]
structure Pz where
  rooms : PyData
  shown : List SeenP
  gone : List PyData
  called : List PyData
  moved : List PyData
  sealed : List PyData
def intP (z : Str) : PyData := .int (wordInt z)
def numsP (ws : List Str) : PyData := .list (ws.map intP)
def fldP : List Str → PyData
  | [a, b, c, d] => .tuple [intP a, intP b, intP c, intP d]
  | _ => .none
def pairsP : List Str → List PyData
  | a :: b :: r => .tuple [intP a, .str b] :: pairsP r
  | _ => []
def Pz.seen (p : Pz) : List Str → Pz
  | a :: r => { p with shown := p.shown ++ [⟨a, numsP r, []⟩] }
  | _ => p
def Pz.cell (p : Pz) (ws : List Str) : Pz := match p.shown.getLast?, ws with
  | some s, a :: r => { p with shown := p.shown.dropLast ++ [{ s with homes := s.homes ++ [.tuple [intP a, fldP r]] }] }
  | _, _ => p
def Pz.part (p : Pz) (z : Str) (ws : List Str) : Pz :=
  if z = "gone" then { p with gone := p.gone ++ ws.map intP } else if z = "called" then { p with called := p.called ++ ws.map intP }
  else if z = "moved" then { p with moved := p.moved ++ pairsP ws } else { p with sealed := p.sealed ++ ws.map PyData.str }
section
variable (K : PySem.W.Frag) (G N : Hp) (PL F : Addr) (vs : List V) (z : Pz) (H : Hp)
/-- what the parts hold, but for what is shown -/
structure PvC (R S A B C D : Addr) (av bv cv dv : List V) : Prop where
  pl : N PL = some (.lst [.ref R, .ref S, .ref A, .ref B, .ref C, .ref D])
  rooms : Dp K N (.ref R) z.rooms
  gone : DpAll K N av z.gone
  called : DpAll K N bv z.called
  moved : DpAll K N cv z.moved
  sealed : DpAll K N dv z.sealed
/-- all that is shown is whole -/
def PV0 : Prop := ∃ R S A B C D av bv cv dv sv, PvC K N PL z R S A B C D av bv cv dv ∧ DpAll K N sv (z.shown.map SeenP.dat) ∧ Own G N [(S, .lst sv), (A, .lst av), (B, .lst bv), (C, .lst cv), (D, .lst dv), (F, .lst vs)] H
/-- the last that is shown may grow -/
def PV1 : Prop := ∃ R S A B C D av bv cv dv sv pre last t nl hl hv, PvC K N PL z R S A B C D av bv cv dv ∧ z.shown = pre ++ [last] ∧ DpAll K N sv (pre.map SeenP.dat) ∧ N t = some (.tup [.str last.room, nl, .ref hl]) ∧ Dp K N nl last.nums ∧ DpAll K N hv last.homes ∧
  Own G N [(hl, .lst hv), (S, .lst (sv ++ [.ref t])), (A, .lst av), (B, .lst bv), (C, .lst cv), (D, .lst dv), (F, .lst vs)] H
/-- nothing more is shown -/
def PVb : Prop := ∃ R S A B C D av bv cv dv, PvC K N PL z R S A B C D av bv cv dv ∧ Dp K N (.ref S) (.list (z.shown.map SeenP.dat)) ∧ Own G N [(A, .lst av), (B, .lst bv), (C, .lst cv), (D, .lst dv), (F, .lst vs)] H
end
theorem PvC.mono {N N' : Hp} {PL : Addr} {z : Pz} {R S A B C D : Addr} {av bv cv dv : List V} (h : PvC K N PL z R S A B C D av bv cv dv) (e : Same N N') : PvC K N' PL z R S A B C D av bv cv dv :=
  ⟨e _ _ h.pl, dp_mono e h.rooms, dpAll_mono e h.gone, dpAll_mono e h.called, dpAll_mono e h.moved, dpAll_mono e h.sealed⟩
section
variable {G N H : Hp} {PL F : Addr} {vs : List V} {z : Pz}
theorem PV1.close (h : PV1 K G N PL F vs z H) : ∃ N', Same N N' ∧ PV0 K G N' PL F vs z H := by
  obtain ⟨R, S, A, B, C, D, av, bv, cv, dv, sv, pre, last, t, nl, hl, hv, c, e, d1, ht, d2, d3, O⟩ := h
  have fm := fix_mono O
  refine ⟨_, fm, R, S, A, B, C, D, av, bv, cv, dv, sv ++ [.ref t], c.mono fm, ?_, O.fix⟩
  rw [e, List.map_append]
  exact dpAll_app (dpAll_mono fm d1) (.cons (.tup (SqT.of (fm _ _ ht)) (.cons (.str _) (.cons (dp_mono fm d2) (.cons (.lst (SqL.of upd_same) (dpAll_mono fm d3)) .nil)))) .nil)
theorem PV0.close (h : PV0 K G N PL F vs z H) : ∃ N', Same N N' ∧ PVb K G N' PL F vs z H := by
  obtain ⟨R, S, A, B, C, D, av, bv, cv, dv, sv, c, d1, O⟩ := h
  have fm := fix_mono O
  exact ⟨_, fm, R, S, A, B, C, D, av, bv, cv, dv, c.mono fm, .lst (SqL.of upd_same) (dpAll_mono fm d1), O.fix⟩
end
/-- the rest of a pause's line as pause_part takes it -/
def sp_pause_part (K : PySem.W.Frag) : Sp := fun ws H Q _ => ∃ (PL W : Addr) (w : Str) (r : List Str) (G N : Hp) (F : Addr) (vs : List V) (z : Pz), ws = [.ref PL, .ref W] ∧ SqL K H W ((w :: r).map V.str) ∧ lineStands w r = true ∧ r.length ≤ 90000 ∧ (∀ y ∈ w :: r, Wd y) ∧
  ((w = "seen" ∧ PV0 K G N PL F vs z H ∧ z.shown.length ≤ 100000 ∧ ∀ N' H', Same N N' → PV1 K G N' PL F vs (z.seen r) H' → Q .non H') ∨
   (w = "cell" ∧ PV1 K G N PL F vs z H ∧ (∀ s ∈ z.shown, s.homes.length ≤ 100000) ∧ ∀ N' H', Same N N' → PV1 K G N' PL F vs (z.cell r) H' → Q .non H') ∨
   ((w = "gone" ∨ w = "called" ∨ w = "moved" ∨ w = "sealed") ∧ PVb K G N PL F vs z H ∧ (z.gone.length ≤ 100000 ∧ z.called.length ≤ 100000 ∧ z.moved.length ≤ 100000 ∧ z.sealed.length ≤ 100000) ∧ ∀ N' H', Same N N' → PVb K G N' PL F vs (z.part w r) H' → Q .non H'))
theorem all_num {ws : List Str} (h : ws.all numberWord = true) : ∀ z ∈ ws, NumW z := fun z hz => number_int (List.all_eq_true.mp h z hz)
theorem stands_seen {r : List Str} (h : lineStands "seen" r = true) : ∃ a r', r = a :: r' ∧ nameWord a = true ∧ r'.all numberWord = true := by
  have e : lineStands "seen" r = formSeen r := by
    unfold lineStands
    rw [if_neg (by decide +kernel), if_neg (by decide +kernel), if_neg (by decide +kernel), if_neg (by decide +kernel), if_pos (by decide +kernel)]
  rw [e] at h
  cases r with
  | nil => cases h
  | cons a r' =>
    have h2 : (nameWord a && r'.all numberWord) = true := h
    rw [Bool.and_eq_true] at h2
    exact ⟨a, r', rfl, h2.1, h2.2⟩
theorem stands_cell {r : List Str} (h : lineStands "cell" r = true) : ∃ a b c d e, r = [a, b, c, d, e] ∧ r.all numberWord = true := by
  have e : lineStands "cell" r = (decide (r.length = 5) && r.all numberWord) := by
    unfold lineStands
    rw [if_neg (by decide +kernel), if_neg (by decide +kernel), if_neg (by decide +kernel), if_neg (by decide +kernel), if_neg (by decide +kernel), if_pos rfl]
  rw [e, Bool.and_eq_true] at h
  have hl := of_decide_eq_true h.1
  match r, hl with
  | [a, b, c, d, e], _ => exact ⟨a, b, c, d, e, rfl, h.2⟩
theorem stands_gone {w : Str} {r : List Str} (hw : w = "gone" ∨ w = "called") (h : lineStands w r = true) : r.all numberWord = true := by
  have e : lineStands w r = r.all numberWord := by
    unfold lineStands
    rcases hw with rfl | rfl
    all_goals rw [if_neg (by decide +kernel), if_neg (by decide +kernel), if_neg (by decide +kernel), if_neg (by decide +kernel), if_neg (by decide +kernel), if_neg (by decide +kernel), if_neg (by decide +kernel), if_pos (by decide +kernel)]
  rw [e] at h
  exact h
theorem stands_moved {r : List Str} (h : lineStands "moved" r = true) : movesForm r = true := by
  have e : lineStands "moved" r = movesForm r := by
    unfold lineStands
    rw [if_neg (by decide +kernel), if_neg (by decide +kernel), if_neg (by decide +kernel), if_neg (by decide +kernel), if_neg (by decide +kernel), if_neg (by decide +kernel), if_neg (by decide +kernel), if_neg (by decide +kernel), if_pos rfl]
  rw [e] at h
  exact h
theorem moves_num : ∀ {ws : List Str}, (evens ws).all numberWord = true → ∀ i, 2 * i < ws.length → ∃ a, ws[2 * i]? = some a ∧ NumW a
  | [], _, i, h => absurd h (by simp)
  | [a], h, i, hi => by
    have : i = 0 := by simp at hi; omega
    subst this
    exact ⟨a, rfl, all_num h a (by simp [evens])⟩
  | a :: b :: r, h, 0, _ => ⟨a, rfl, all_num h a (by simp [evens])⟩
  | a :: b :: r, h, i + 1, hi => by
    have h2 : (evens r).all numberWord = true := by
      have : (a :: evens r).all numberWord = true := h
      rw [List.all_cons, Bool.and_eq_true] at this
      exact this.2
    obtain ⟨x, hx, nx⟩ := moves_num h2 i (by simp only [List.length_cons] at hi; omega)
    exact ⟨x, by rw [show 2 * (i + 1) = 2 * i + 1 + 1 by omega]; simpa using hx, nx⟩
theorem drop2 {ws : List Str} {i : Nat} (h : 2 * i + 2 ≤ ws.length) : ∃ x y, ws[2 * i]? = some x ∧ ws[2 * i + 1]? = some y ∧ ws.drop (2 * i) = x :: y :: ws.drop (2 * (i + 1)) := by
  have h0 : 2 * i < ws.length := by omega
  have h1 : 2 * i + 1 < ws.length := by omega
  refine ⟨ws[2 * i], ws[2 * i + 1], List.getElem?_eq_getElem h0, List.getElem?_eq_getElem h1, ?_⟩
  rw [List.drop_eq_getElem_cons h0, List.drop_eq_getElem_cons h1, show 2 * (i + 1) = 2 * i + 1 + 1 by omega]
theorem dp_intP {H : Hp} : ∀ ws : List Str, DpAll K H ((ws.map wordInt).map V.int) (ws.map intP)
  | [] => .nil
  | z :: r => .cons (.int _) (dp_intP r)
theorem part_gone {z : Pz} {r : List Str} : z.part "gone" r = { z with gone := z.gone ++ r.map intP } := if_pos rfl
theorem part_called {z : Pz} {r : List Str} : z.part "called" r = { z with called := z.called ++ r.map intP } := by
  unfold Pz.part
  rw [if_neg (by decide +kernel), if_pos rfl]
theorem part_moved {z : Pz} {r : List Str} : z.part "moved" r = { z with moved := z.moved ++ pairsP r } := by
  unfold Pz.part
  rw [if_neg (by decide +kernel), if_neg (by decide +kernel), if_pos rfl]
theorem part_sealed {z : Pz} {r : List Str} : z.part "sealed" r = { z with sealed := z.sealed ++ r.map PyData.str } := by
  unfold Pz.part
  rw [if_neg (by decide +kernel), if_neg (by decide +kernel), if_neg (by decide +kernel)]
theorem sc_pause_part : FnScope ["parts", "words", "word", "rest", "k"] ["parts", "words"] (defScope s_pause_part) := ⟨rfl, rfl, rfl, by decide +kernel, rfl, by decide +kernel, by decide +kernel⟩
theorem ok_pause_part (T : Tx w K mg) : OkF P w K mg base CX0 2 "pause_part" ["parts", "words"] (sp_pause_part K) := by
  have G_numbers_of := ok_numbers_of (P := P) (base := base) T
  have G_fields_of := ok_fields_of (P := P) (base := base) T
  refine Tx.def0 T 16 rfl T.g_pause_part sc_pause_part (fun _ _ _ _ _ _ us hl => match us, hl with | [_, _], _ => rfl) (fun vs H Q E h => ?_) (fun f cdv A outer s H vs Q E hr h => ?_)
  · obtain ⟨PL, W, w, r, G, N, F, vs, z, rfl, hs, hst, hrl, hwd, hh⟩ := h; rfl
  · obtain ⟨PL, W, w, r, G, N, F, vs, z, rfl, hs, hst, hrl, hwd, hh⟩ := h
    refine ⟨_, (pss_cons (ps_set (i := 2) sc_pause_part.nd rfl (by first | exact Or.inl rfl | exact Or.inr rfl) (pe_ix ix_seq (pv 1) pe_int (fun _ _ => rfl)))
      (pss_cons (ps_set (i := 3) sc_pause_part.nd rfl (by first | exact Or.inl rfl | exact Or.inr rfl) (pe_slice sl_G (pv 1) (po_some pe_int) po_none))
      (pss_one (ps_if (pt_cmpR (op_eqG hr.units) (pv 2) pe_str (nomark _))
        (pss_one (ps_expr (pe_bm PySem.F.plainAttrs_list PySem.F.slot_list_append PySem.F.type_list_append mt_append (pe_ix ix_seq (pv 0) pe_int (fun _ _ => rfl)) (pa_cons (pe_tup (pa_cons (pe_ix ix_seq (pv 3) pe_int (fun _ _ => rfl)) (pa_cons (pe_callO G_numbers_of (hr.mono (by decide)) (by rfl) pass0 (pa_cons (pe_slice sl_G (pv 3) (po_some pe_int) po_none) pa_nil)) (pa_cons (pe_lst pa_nil) pa_nil)))) pa_nil))))
        (pss_one (ps_if (pt_cmpR (op_eqG hr.units) (pv 2) pe_str (nomark _))
          (pss_one (ps_expr (pe_bm PySem.F.plainAttrs_list PySem.F.slot_list_append PySem.F.type_list_append mt_append (pe_ix ix_seq (pe_ix ix_seq (pe_ix ix_seq (pv 0) pe_int (fun _ _ => rfl)) (pe_un un_neg pe_int) (fun _ _ => rfl)) pe_int (fun _ _ => rfl)) (pa_cons (pe_tup (pa_cons (pe_callTy call_intG (by rfl) T.f_int (by decide +kernel) (pa_cons (pe_ix ix_seq (pv 3) pe_int (fun _ _ => rfl)) pa_nil)) (pa_cons (pe_callO G_fields_of (hr.mono (by decide)) (by rfl) pass0 (pa_cons (pe_slice sl_G (pv 3) (po_some pe_int) po_none) pa_nil)) pa_nil))) pa_nil))))
          (pss_one (ps_if (pt_cmpR (op_eqG hr.units) (pv 2) pe_str (nomark _))
            (pss_one (ps_expr (pe_bm PySem.F.plainAttrs_list PySem.F.slot_list_extend PySem.F.type_list_extend mt_extend (pe_ix ix_seq (pv 0) pe_int (fun _ _ => rfl)) (pa_cons (pe_callO G_numbers_of (hr.mono (by decide)) (by rfl) pass0 (pa_cons (pv 3) pa_nil)) pa_nil))))
            (pss_one (ps_if (pt_cmpR (op_eqG hr.units) (pv 2) pe_str (nomark _))
              (pss_one (ps_expr (pe_bm PySem.F.plainAttrs_list PySem.F.slot_list_extend PySem.F.type_list_extend mt_extend (pe_ix ix_seq (pv 0) pe_int (fun _ _ => rfl)) (pa_cons (pe_callO G_numbers_of (hr.mono (by decide)) (by rfl) pass0 (pa_cons (pv 3) pa_nil)) pa_nil))))
              (pss_one (ps_if (pt_cmpR (op_eqG hr.units) (pv 2) pe_str (nomark _))
                (pss_one (ps_expr (pe_bm PySem.F.plainAttrs_list PySem.F.slot_list_extend PySem.F.type_list_extend mt_extend (pe_ix ix_seq (pv 0) pe_int (fun _ _ => rfl)) (pa_cons (pe_lc (own := [("k", 4)]) rfl sc_pause_part.nd (pi_range3 (by rfl) T.f_range (pa_cons pe_int (pa_cons (pe_callB (call_lenG) (by rfl) T.f_len (by decide +kernel) (pa_cons (pv 3) pa_nil)) (pa_cons pe_int pa_nil)))) (blkOk_by (own := [("k", 4)]) (N := ["parts", "words", "word", "rest", "k"]) (sc := (defScope s_pause_part)) (by decide +kernel)) (fun _ _ _ _ _ => (pg_name (i := 4) sc_pause_part.nd rfl (by first | exact Or.inl rfl | exact Or.inr rfl))) (fun _ _ _ _ _ => pts_nil) (fun _ _ _ _ _ => (pe_tup (pa_cons (pe_callTy call_intG (by rfl) T.f_int (by decide +kernel) (pa_cons (pe_ix ix_seqB (pv 3) (pv 4) (fun _ _ => rfl)) pa_nil)) (pa_cons (pe_ix ix_seqB (pv 3) (pe_op op_addG (pv 4) pe_int) (fun _ _ => rfl)) pa_nil))))) pa_nil))))
                (pss_one (ps_expr (pe_bm PySem.F.plainAttrs_list PySem.F.slot_list_extend PySem.F.type_list_extend mt_extend (pe_ix ix_seq (pv 0) pe_int (fun _ _ => rfl)) (pa_cons (pv 3) pa_nil)))))))))))))))), ?_⟩
    walk_at "rd"
    refine a_ixL hs (ixS (i := 0) rfl) ?_
    walk_at "rd"
    refine a_slL hs fun p hp => ?_
    rw [List.map_cons, cut_tail]
    have s1 : Same H (upd H p (.lst (r.map V.str))) := same_new hp
    have hR1 : (upd H p (.lst (r.map V.str))) p = some (.lst (r.map V.str)) := upd_same
    generalize upd H p (.lst (r.map V.str)) = H1 at s1 hR1 ⊢
    walk_at "rd"
    rw [dec_strV]
    refine x_ite (fun g => ?_) (fun g => ?_)
    · -- seen
      have g := of_decide_eq_true g
      subst g
      rcases hh with ⟨_, ⟨R, S, A, B, C, D, av, bv, cv, dv, sv, c, d1, O⟩, hsl, q⟩ | ⟨e, _⟩ | ⟨e, _⟩
      · obtain ⟨a, r', rfl, hna, hnr⟩ := stands_seen hst
        replace O := O.ext s1
        have hl2 := dpAll_len d1
        rw [List.length_map] at hl2
        walk_at "rd"
        refine a_ixL (SqL.of (O.n _ _ c.pl)) (atI_nat (j := 1) rfl) ?_
        refine x_tyL (SqL.of (O.get 0)) ?_
        walk_at "rd"
        refine a_ixL (SqL.of hR1) (ixS (i := 0) rfl) ?_
        walk_at "rd"
        refine a_slL (SqL.of hR1) fun p2 hp2 => ?_
        rw [List.map_cons, cut_tail]
        have O2 := O.ext (same_new (o := .lst (r'.map V.str)) hp2)
        have hp2' : (upd H1 p2 (.lst (r'.map V.str))) p2 = some (.lst (r'.map V.str)) := upd_same
        generalize upd H1 p2 (.lst (r'.map V.str)) = H2 at O2 hp2' ⊢
        walk_at "rd"
        refine ⟨p2, r', rfl, SqL.of hp2', by simp only [List.length_cons] at hrl; omega, all_num hnr, fun p3 H3 hp3 s3 hp3' => ?_⟩
        have nn : ∀ b u, (upd ho0 p3 (.lst ((r'.map wordInt).map V.int))) b = some u → H2 b = none := fun b u e => by
          by_cases hb : b = p3
          · rw [hb]; exact hp3
          · rw [upd_ne hb] at e; cases e
        have ns : Same (upd ho0 p3 (.lst ((r'.map wordInt).map V.int))) H3 := fun b u e => by
          by_cases hb : b = p3
          · subst hb
            rw [upd_same] at e
            rw [← e]; exact hp3'
          · rw [upd_ne hb] at e; cases e
        have O3 := O2.call0 s3 nn ns
        have sN3 := uni_l (A := N) (B := upd ho0 p3 (.lst ((r'.map wordInt).map V.int)))
        have dn : Dp K (uni N (upd ho0 p3 (.lst ((r'.map wordInt).map V.int)))) (.ref p3) (numsP r') := .lst (SqL.of (O2.uni_new nn _ _ upd_same)) (dp_intP r')
        generalize uni N (upd ho0 p3 (.lst ((r'.map wordInt).map V.int))) = N3 at O3 sN3 dn
        walk_at "rd"
        refine ⟨sz_lit (n := 0), fun hl hhl => ?_⟩
        have O4 := O3.new (o := .lst []) hhl
        generalize upd H3 hl (.lst []) = H4 at O4 ⊢
        walk_at "rd"
        refine ⟨sz_lit (n := 3), fun t ht => ?_⟩
        have O5 := O4.frz (o := .tup [.str a, .ref p3, .ref hl]) ht
        have sn := same_new (o := .tup [.str a, .ref p3, .ref hl]) (O4.n.free ht)
        generalize upd H4 t (.tup [.str a, .ref p3, .ref hl]) = H5 at O5 ⊢
        walk_at "rd"
        refine x_append (O5.get 1) (sz_lt (by omega)) ?_
        have sN5 := sN3.trans sn
        exact q _ _ sN5 ⟨R, S, A, B, C, D, av, bv, cv, dv, sv, z.shown, ⟨a, numsP r', []⟩, t, .ref p3, hl, [], ⟨(c.mono sN5).pl, (c.mono sN5).rooms, (c.mono sN5).gone, (c.mono sN5).called, (c.mono sN5).moved, (c.mono sN5).sealed⟩, rfl, dpAll_mono sN5 d1, upd_same, dp_mono sn dn, .nil, O5.put 1 (u := .lst (sv ++ [V.ref t]))⟩
      · cases e
      · rcases e with e | e | e | e <;> cases e
    have g := of_decide_eq_false g
    walk_at "rd"
    rw [dec_strV]
    refine x_ite (fun g2 => ?_) (fun g2 => ?_)
    · -- cell
      have g2 := of_decide_eq_true g2
      subst g2
      rcases hh with ⟨e, _⟩ | ⟨_, ⟨R, S, A, B, C, D, av, bv, cv, dv, sv, pre, last, t, nl, hl, hv, c, es, d1, htN, d2, d3, O⟩, hsz, q⟩ | ⟨e, _⟩
      · cases e
      · obtain ⟨w0, w1, w2, w3, w4, rfl, hall⟩ := stands_cell hst
        replace O := O.ext s1
        have hl3 := dpAll_len d3
        have hsz' := hsz last (by rw [es]; simp)
        have nu := all_num hall
        walk_at "rd"
        refine a_ixL (SqL.of (O.n _ _ c.pl)) (atI_nat (j := 1) rfl) ?_
        walk_at "rd"
        refine x_un ?_
        walk_at "rd"
        refine ⟨_, rfl, ?_⟩
        refine a_ixL (SqL.of (O.get 1)) atI_last ?_
        walk_at "rd"
        refine a_ixT (SqT.of (O.n _ _ htN)) (atI_nat (j := 2) rfl) ?_
        refine x_tyL (SqL.of (O.get 0)) ?_
        walk_at "rd"
        refine a_ixL (SqL.of hR1) (ixS (i := 0) rfl) ?_
        walk_at "rd"
        refine x_intS (nu w0 (by simp)).eq (nu w0 (by simp)).2 ?_
        walk_at "rd"
        refine a_slL (SqL.of hR1) fun p2 hp2 => ?_
        have ec : cutV ([w0, w1, w2, w3, w4].map V.str) (some 1) none = ([w1, w2, w3, w4].map V.str) := rfl
        rw [ec]
        have O2 := O.ext (same_new (o := .lst ([w1, w2, w3, w4].map V.str)) hp2)
        have hp2' : (upd H1 p2 (.lst ([w1, w2, w3, w4].map V.str))) p2 = some (.lst ([w1, w2, w3, w4].map V.str)) := upd_same
        generalize upd H1 p2 (.lst ([w1, w2, w3, w4].map V.str)) = H2 at O2 hp2' ⊢
        walk_at "rd"
        refine ⟨p2, w1, w2, w3, w4, [], rfl, SqL.of hp2', nu w1 (by simp), nu w2 (by simp), nu w3 (by simp), nu w4 (by simp), fun p3 hp3 => ?_⟩
        have O3 := O2.frz (o := .tup [.int (wordInt w1), .int (wordInt w2), .int (wordInt w3), .int (wordInt w4)]) hp3
        have sn3 := same_new (o := .tup [.int (wordInt w1), .int (wordInt w2), .int (wordInt w3), .int (wordInt w4)]) (O2.n.free hp3)
        generalize upd H2 p3 _ = H3 at O3 ⊢
        walk_at "rd"
        refine ⟨sz_lit (n := 2), fun t4 ht4 => ?_⟩
        have O4 := O3.frz (o := .tup [.int (wordInt w0), .ref p3]) ht4
        have sn4 := same_new (o := .tup [.int (wordInt w0), .ref p3]) (O3.n.free ht4)
        generalize upd H3 t4 _ = H4 at O4 ⊢
        walk_at "rd"
        refine x_append (O4.get 0) (sz_lt (by omega)) ?_
        have sN := sn3.trans sn4
        have hcell : (z.cell [w0, w1, w2, w3, w4]).shown = pre ++ [{ last with homes := last.homes ++ [.tuple [intP w0, fldP [w1, w2, w3, w4]]] }] := by
          unfold Pz.cell
          rw [es]
          simp
        have hc2 : (z.cell [w0, w1, w2, w3, w4]).rooms = z.rooms ∧ (z.cell [w0, w1, w2, w3, w4]).gone = z.gone ∧ (z.cell [w0, w1, w2, w3, w4]).called = z.called ∧ (z.cell [w0, w1, w2, w3, w4]).moved = z.moved ∧ (z.cell [w0, w1, w2, w3, w4]).sealed = z.sealed := by
          unfold Pz.cell
          rw [es]
          simp
        have c' := c.mono sN
        refine q _ _ sN ⟨R, S, A, B, C, D, av, bv, cv, dv, sv, pre, _, t, nl, hl, hv ++ [V.ref t4], ⟨c'.pl, by rw [hc2.1]; exact c'.rooms, by rw [hc2.2.1]; exact c'.gone, by rw [hc2.2.2.1]; exact c'.called, by rw [hc2.2.2.2.1]; exact c'.moved, by rw [hc2.2.2.2.2]; exact c'.sealed⟩, hcell, dpAll_mono sN d1, sN _ _ htN, dp_mono sN d2, ?_, O4.put 0 (u := .lst (hv ++ [V.ref t4]))⟩
        exact dpAll_app (dpAll_mono sN d3) (.cons (.tup (SqT.of upd_same) (.cons (.int _) (.cons (.tup (SqT.of (sn4 _ _ upd_same)) (.cons (.int _) (.cons (.int _) (.cons (.int _) (.cons (.int _) .nil))))) .nil))) .nil)
      · rcases e with e | e | e | e <;> cases e
    have g2 := of_decide_eq_false g2
    rcases hh with ⟨e, _⟩ | ⟨e, _⟩ | ⟨hw4, ⟨R, S, A, B, C, D, av, bv, cv, dv, c, dS, O⟩, ⟨z1, z2, z3, z4⟩, q⟩
    · exact absurd e g
    · exact absurd e g2
    replace O := O.ext s1
    have la := dpAll_len c.gone
    have lb := dpAll_len c.called
    have lc := dpAll_len c.moved
    have ld := dpAll_len c.sealed
    walk_at "rd"
    rw [dec_strV]
    refine x_ite (fun g3 => ?_) (fun g3 => ?_)
    · have g3 := of_decide_eq_true g3
      subst g3
      have hnr := stands_gone (.inl rfl) hst
      walk_at "rd"
      refine a_ixL (SqL.of (O.n _ _ c.pl)) (atI_nat (j := 2) rfl) ?_
      refine x_tyL (SqL.of (O.get 0)) ?_
      walk_at "rd"
      refine ⟨p, r, rfl, SqL.of hR1, by omega, all_num hnr, fun p3 H3 hp3 s3 hp3' => ?_⟩
      replace O := O.ext s3
      walk_at "rd"
      refine x_extend (O.get 0) hp3' (sz_le (by rw [List.length_map, List.length_map]; omega)) ?_
      refine q N _ (Same.refl _) ?_
      rw [part_gone]
      exact ⟨R, S, A, B, C, D, av ++ (r.map wordInt).map V.int, bv, cv, dv, ⟨c.pl, c.rooms, dpAll_app c.gone (dp_intP r), c.called, c.moved, c.sealed⟩, dS, O.put 0 (u := .lst (av ++ (r.map wordInt).map V.int))⟩
    have g3 := of_decide_eq_false g3
    walk_at "rd"
    rw [dec_strV]
    refine x_ite (fun g4 => ?_) (fun g4 => ?_)
    · have g4 := of_decide_eq_true g4
      subst g4
      have hnr := stands_gone (.inr rfl) hst
      walk_at "rd"
      refine a_ixL (SqL.of (O.n _ _ c.pl)) (atI_nat (j := 3) rfl) ?_
      refine x_tyL (SqL.of (O.get 1)) ?_
      walk_at "rd"
      refine ⟨p, r, rfl, SqL.of hR1, by omega, all_num hnr, fun p3 H3 hp3 s3 hp3' => ?_⟩
      replace O := O.ext s3
      walk_at "rd"
      refine x_extend (O.get 1) hp3' (sz_le (by rw [List.length_map, List.length_map]; omega)) ?_
      refine q N _ (Same.refl _) ?_
      rw [part_called]
      exact ⟨R, S, A, B, C, D, av, bv ++ (r.map wordInt).map V.int, cv, dv, ⟨c.pl, c.rooms, c.gone, dpAll_app c.called (dp_intP r), c.moved, c.sealed⟩, dS, O.put 1 (u := .lst (bv ++ (r.map wordInt).map V.int))⟩
    have g4 := of_decide_eq_false g4
    walk_at "rd"
    rw [dec_strV]
    refine x_ite (fun g5 => ?_) (fun g5 => ?_)
    · have g5 := of_decide_eq_true g5
      subst g5
      have hm := stands_moved hst
      unfold movesForm at hm
      rw [Bool.and_eq_true, Bool.and_eq_true] at hm
      have hm0 := of_decide_eq_true hm.1
      walk_at "rd"
      refine a_ixL (SqL.of (O.n _ _ c.pl)) (atI_nat (j := 4) rfl) ?_
      refine x_tyL (SqL.of (O.get 2)) ?_
      walk_at "rd"
      refine a_lenL (SqL.of hR1) ?_
      walk_at "rd"
      rw [List.length_map]
      refine ⟨_, _, _, r.length / 2, rfl, rgC (.inr rfl) (by omega) (by omega), ?_⟩
      refine lcRC (fun E' i acc H' => ∃ (N2 : Hp) (ds : List PyData), Same N N2 ∧ Own G N2 [(E', .lst acc), (A, .lst av), (B, .lst bv), (C, .lst cv), (D, .lst dv), (F, .lst vs)] H' ∧ Same H1 H' ∧ DpAll K N2 acc ds ∧ ds.length = i ∧ ds ++ pairsP (r.drop (2 * i)) = pairsP r)
        (fun E' hE => ⟨N, [], Same.refl _, O.new hE, same_new hE, .nil, rfl, rfl⟩) (fun E' i acc H2 hE hi h => ?_) (fun E' acc H' hE h => ?_)
      · obtain ⟨N2, ds, sN, O2, s2, da, hdl, he⟩ := h
        obtain ⟨x, y, hx, hy, hd⟩ := drop2 (ws := r) (i := i) (by omega)
        obtain ⟨x', hx', nx⟩ := moves_num hm.2.1 i (by omega)
        rw [hx] at hx'
        cases hx'
        walk_at "rd"
        refine ⟨rfl, ?_⟩
        walk_at "rd"
        refine iteT ?_
        walk_at "rd"
        refine a_ixL (SqL.of (s2 _ _ hR1)) (ixS' (i := 2 * i) (by omega) hx) ?_
        walk_at "rd"
        refine x_intS nx.eq nx.2 ?_
        walk_at "rd"
        refine a_ixL (SqL.of (s2 _ _ hR1)) (ixS' (i := 2 * i + 1) (by omega) hy) ?_
        walk_at "rd"
        refine ⟨sz_lit (n := 2), fun t ht => ?_⟩
        have O3 := O2.frz (o := .tup [.int (wordInt x), .str y]) ht
        have sn := same_new (o := .tup [.int (wordInt x), .str y]) (O2.n.free ht)
        have hla := dpAll_len da
        refine ⟨acc, O3.get 0, sz_lt (by omega), acc ++ [V.ref t], _, ds ++ [.tuple [intP x, .str y]], sN.trans sn, O3.put 0 (u := .lst (acc ++ [V.ref t])), ?_, dpAll_app (dpAll_mono sn da) (.cons (.tup (SqT.of upd_same) (.cons (.int _) (.cons (.str y) .nil))) .nil), by rw [List.length_append, hdl]; rfl, ?_⟩
        · intro b o e
          rw [upd_ne (ne_of_none e hE)]
          exact same_new ht _ _ (s2 _ _ e)
        · rw [← he, hd, List.append_assoc]
          rfl
      · obtain ⟨N2, ds, sN, O2, s2, da, hdl, he⟩ := h
        rw [List.drop_eq_nil_of_le (by omega)] at he
        replace he : ds = pairsP r := by
          have : ds ++ [] = pairsP r := he
          rwa [List.append_nil] at this
        subst he
        have hla := dpAll_len da
        walk_at "rd"
        refine x_extend (O2.get 3) (O2.get 0) (sz_le (by omega)) ?_
        have c' := c.mono sN
        have O3 := (O2.put 3 (u := .lst (cv ++ acc))).forget
        refine q N2 _ sN ?_
        rw [part_moved]
        exact ⟨R, S, A, B, C, D, av, bv, cv ++ acc, dv, ⟨c'.pl, c'.rooms, c'.gone, c'.called, dpAll_app c'.moved da, c'.sealed⟩, dp_mono sN dS, O3⟩
    have g5 := of_decide_eq_false g5
    have e6 : w = "sealed" := by
      rcases hw4 with e | e | e | e
      · exact absurd e g3
      · exact absurd e g4
      · exact absurd e g5
      · exact e
    subst e6
    walk_at "rd"
    refine a_ixL (SqL.of (O.n _ _ c.pl)) (atI_nat (j := 5) rfl) ?_
    refine x_tyL (SqL.of (O.get 3)) ?_
    walk_at "rd"
    refine x_extend (O.get 3) hR1 (sz_le (by rw [List.length_map]; omega)) ?_
    refine q N _ (Same.refl _) ?_
    rw [part_sealed]
    exact ⟨R, S, A, B, C, D, av, bv, cv, dv ++ r.map V.str, ⟨c.pl, c.rooms, c.gone, c.called, c.moved, dpAll_app c.sealed (dpAll_strs r)⟩, dS, O.put 3 (u := .lst (dv ++ r.map V.str))⟩
end
end K97


set_option maxRecDepth 100000
set_option maxHeartbeats 4000000
namespace K97
open PySem PySem.Spec PyProof.Rows L2 TL NB
local macro_rules | `(tactic| walk_at "rd") => `(tactic| repeat (first
  | (with_reducible refine x_seq ?_) | (with_reducible refine x_asg ?_) | (with_reducible refine x_gName ?_) | (with_reducible refine x_ret ?_) | (with_reducible refine x_drop ?_) | (with_reducible refine x_ifS ?_)
  | (with_reducible refine x_op ?_) | (with_reducible refine x_c ?_) | ((with_reducible refine' x_var ?k1 ?_); (case k1 => with_unfolding_all rfl)) | (with_reducible refine x_cb ?_) | (with_reducible refine x_call0 ?_) | (with_reducible refine x_cons ?_) | (with_reducible refine x_nil ?_)
  | (with_reducible refine x_test ?_) | (with_reducible refine x_B ?_) | (with_reducible refine x_bl ?_) | (with_reducible refine x_and ?_) | (with_reducible refine x_or ?_) | (with_reducible refine x_not ?_)
  | (with_reducible refine x_andV ?_) | (with_reducible refine x_orV ?_) | (with_reducible refine x_notV ?_) | (with_reducible refine x_if ?_) | (with_reducible refine x_isN ?_) | (with_reducible refine x_notN ?_)
  | (with_reducible refine x_tup ?_) | (with_reducible refine x_lst ?_) | (with_reducible refine x_sl ?_) | (with_reducible refine x_noPart ?_) | (with_reducible refine x_part ?_) | (with_reducible refine x_int ?_)
  | (with_reducible refine x_bm ?_) | (with_reducible refine x_m1 ?_) | (with_reducible refine x_tyS ?_) | (with_reducible refine x_gNil ?_) | (with_reducible refine x_gCons ?_) | (with_reducible refine x_gSub ?_) | (with_reducible refine x_next ?_) | (with_reducible refine x_brk ?_)
  | (with_reducible refine x_slStep ?_) | (with_reducible refine x_lc ?_) | (with_reducible refine x_for ?_) | (with_reducible refine x_iL ?_) | (with_reducible refine x_iR1 ?_) | (with_reducible refine x_iR3 ?_) | (with_reducible refine x_iS ?_) | (with_reducible refine x_ref ?_) | (with_reducible refine x_yes ?_)
  | (with_reducible refine a_addI ?_) | (with_reducible refine x_I0 ?_) | (with_reducible refine a_eq rfl ?_) | (with_reducible refine a_ne rfl ?_) | (with_reducible refine a_inS ?_) | (with_reducible refine a_ninS ?_) | (with_reducible refine x_strS ?_) | (with_reducible refine x_intI ?_) | (with_reducible refine x_iB ?_) | (with_reducible refine x_iT ?_)))

section
variable {P : Program} {w : World} {K : PySem.W.Frag} {mg : Str → Option Value} {base : Heap}
/-! ### a view read back: the machine -/
inductive Cur
  | idle
  | came (a : Str) (ns : PyData) (homes : List PyData)
  | pz (z : Pz)
structure Vs where
  done : List PyData
  cur : Cur
def Vs.flush (s : Vs) : List PyData := match s.cur with
  | .came a ns hs => s.done ++ [.tuple [.str "came", .str a, ns, .list hs]]
  | _ => s.done
def isOne (z : Str) : PyData := .bool (decide (z = "1"))
def madeP : List Str → PyData
  | [a, b, c, d, e] => .tuple [.str "made", intP a, .str b, .str c, intP d, isOne e]
  | _ => .none
def wentP : List Str → PyData
  | [a, b] => .tuple [.str "went", intP a, .str b]
  | _ => .none
def heardP : List Str → PyData
  | [a] => .tuple [.str "heard", intP a]
  | _ => .none
def gaveP : List Str → PyData
  | a :: r => .tuple [.str "gave", .str a, numsP r]
  | _ => .none
def newP : List Str → PyData
  | [a, b, c, d, e, f, g] => .tuple [intP a, fldP [b, c, d, e], intP f, isOne g]
  | _ => .none
def Pz.dat (z : Pz) (r : List Str) : PyData := .tuple [.str "pause", z.rooms, .list (z.shown.map SeenP.dat), .list z.gone, .list z.called, .list z.moved, .list z.sealed, toldP r]
def Pz.step (z : Pz) (w : Str) (r : List Str) : Pz := if w = "seen" then z.seen r else if w = "cell" then z.cell r else z.part w r
def vStep (s : Vs) : List Str → Vs
  | [] => s
  | w :: r =>
    if w = "made" then ⟨s.flush ++ [madeP r], .idle⟩ else if w = "went" then ⟨s.flush ++ [wentP r], .idle⟩ else if w = "heard" then ⟨s.flush ++ [heardP r], .idle⟩
    else if w = "gave" then ⟨s.flush ++ [gaveP r], .idle⟩ else if w = "came" then ⟨s.flush, .came (r.headD "") (numsP r.tail) []⟩
    else if w = "new" then (match s.cur with | .came a ns hs => ⟨s.done, .came a ns (hs ++ [newP r])⟩ | _ => s)
    else if w = "pause" then ⟨s.flush, .pz ⟨strsD r, [], [], [], [], []⟩⟩
    else if w = "told" then (match s.cur with | .pz z => ⟨s.done ++ [z.dat r], .idle⟩ | _ => s)
    else match s.cur with | .pz z => ⟨s.done, .pz (z.step w r)⟩ | _ => s
def vRun (rows : List (List Str)) : Vs := rows.foldl vStep ⟨[], .idle⟩
def readView (z : Str) : Except Nat (List PyData) := match readRows z with
  | .error k => .error k
  | .ok rows => .ok (vRun rows).flush
/-! ### the heap of a view that is read -/
section
variable (K : PySem.W.Frag) (G : Hp) (F : Addr) (b : Str) (s : Vs) (vp vh : V) (n : Nat) (N H : Hp)
def VIa : Prop := ∃ vs, (followL b = none ∧ b ≠ "came" ∧ b ≠ "new") ∧ s.cur = .idle ∧ vs.length ≤ n ∧ DpAll K N vs s.done ∧ Own G N [(F, .lst vs)] H
def VIb : Prop := ∃ vs a ns hs t nl M hv, (b = "came" ∨ b = "new") ∧ s.cur = .came a ns hs ∧ vs.length < n ∧ hv.length ≤ n ∧ vh = .ref M ∧ DpAll K N vs s.done ∧ N t = some (.tup [.str "came", .str a, nl, .ref M]) ∧ Dp K N nl ns ∧ DpAll K N hv hs ∧ Own G N [(M, .lst hv), (F, .lst (vs ++ [.ref t]))] H
def Emp (z : Pz) : Prop := z.gone = [] ∧ z.called = [] ∧ z.moved = [] ∧ z.sealed = []
def ShB (z : Pz) (n : Nat) : Prop := z.shown.length ≤ n ∧ ∀ s ∈ z.shown, s.homes.length ≤ n
def VI0 : Prop := ∃ vs z PL, b = "pause" ∧ s.cur = .pz z ∧ vs.length < n ∧ vp = .ref PL ∧ Emp z ∧ ShB z n ∧ DpAll K N vs s.done ∧ PV0 K G N PL F vs z H
def VI1 : Prop := ∃ vs z PL, (b = "seen" ∨ b = "cell") ∧ s.cur = .pz z ∧ vs.length < n ∧ vp = .ref PL ∧ Emp z ∧ ShB z n ∧ DpAll K N vs s.done ∧ PV1 K G N PL F vs z H
def SzB (b : Str) (z : Pz) : Prop := (z.gone.length ≤ 90000 ∧ z.called.length ≤ 90000 ∧ z.moved.length ≤ 90000 ∧ z.sealed.length ≤ 90000) ∧ (b = "gone" → z.called = [] ∧ z.moved = [] ∧ z.sealed = []) ∧ (b = "called" → z.moved = [] ∧ z.sealed = []) ∧ (b = "moved" → z.sealed = [])
def VI2 : Prop := ∃ vs z PL, (b = "gone" ∨ b = "called" ∨ b = "moved" ∨ b = "sealed") ∧ s.cur = .pz z ∧ vs.length < n ∧ vp = .ref PL ∧ SzB b z ∧ DpAll K N vs s.done ∧ PVb K G N PL F vs z H
def VI : Prop := VIa K G F b s n N H ∨ VIb K G F b s vh n N H ∨ VI0 K G F b s vp n N H ∨ VI1 K G F b s vp n N H ∨ VI2 K G F b s vp n N H
end
section
variable {G N H H' : Hp} {F : Addr} {b : Str} {s : Vs} {vp vh : V} {n : Nat}
theorem VI.own (h : VI K G F b s vp vh n N H) : Same G H ∧ Same N H := by
  rcases h with ⟨vs, _, _, _, _, O⟩ | ⟨vs, a, ns, hs, t, nl, M, hv, _, _, _, _, _, _, _, _, _, O⟩ | ⟨vs, z, PL, _, _, _, _, _, _, _, ⟨R, S, A, B, C, D, av, bv, cv, dv, sv, c, d1, O⟩⟩ | ⟨vs, z, PL, _, _, _, _, _, _, _, ⟨R, S, A, B, C, D, av, bv, cv, dv, sv, pre, last, t, nl, hl, hv, c, e, d1, ht, d2, d3, O⟩⟩ | ⟨vs, z, PL, _, _, _, _, _, _, ⟨R, S, A, B, C, D, av, bv, cv, dv, c, d, O⟩⟩
  all_goals exact ⟨O.g, O.n⟩
theorem PV0.ext {PL : Addr} {vs : List V} {z : Pz} (h : PV0 K G N PL F vs z H) (e : Same H H') : PV0 K G N PL F vs z H' := by
  obtain ⟨R, S, A, B, C, D, av, bv, cv, dv, sv, c, d1, O⟩ := h
  exact ⟨R, S, A, B, C, D, av, bv, cv, dv, sv, c, d1, O.ext e⟩
theorem PV1.ext {PL : Addr} {vs : List V} {z : Pz} (h : PV1 K G N PL F vs z H) (e : Same H H') : PV1 K G N PL F vs z H' := by
  obtain ⟨R, S, A, B, C, D, av, bv, cv, dv, sv, pre, last, t, nl, hl, hv, c, e', d1, ht, d2, d3, O⟩ := h
  exact ⟨R, S, A, B, C, D, av, bv, cv, dv, sv, pre, last, t, nl, hl, hv, c, e', d1, ht, d2, d3, O.ext e⟩
theorem PVb.ext {PL : Addr} {vs : List V} {z : Pz} (h : PVb K G N PL F vs z H) (e : Same H H') : PVb K G N PL F vs z H' := by
  obtain ⟨R, S, A, B, C, D, av, bv, cv, dv, c, d, O⟩ := h
  exact ⟨R, S, A, B, C, D, av, bv, cv, dv, c, d, O.ext e⟩
/-- a row of the top: all ahead of it is whole -/
theorem VI.top (h : VI K G F b s vp vh n N H) (hb : followL b = none) : ∃ N' vs, Same N N' ∧ vs.length ≤ n ∧ DpAll K N' vs s.flush ∧ Own G N' [(F, .lst vs)] H := by
  rcases h with ⟨vs, _, hc, hl, d, O⟩ | ⟨vs, a, ns, hs, t, nl, M, hv, _, hc, hl, _, _, d, ht, d2, d3, O⟩ | ⟨vs, z, PL, e, _⟩ | ⟨vs, z, PL, e, _⟩ | ⟨vs, z, PL, e, _⟩
  · exact ⟨N, vs, Same.refl _, hl, by unfold Vs.flush; rw [hc]; exact d, O⟩
  · have fm := fix_mono O
    refine ⟨_, _, fm, ?_, ?_, O.fix⟩
    · rw [List.length_append]; exact hl
    · unfold Vs.flush
      rw [hc]
      exact dpAll_app (dpAll_mono fm d) (.cons (.tup (SqT.of (fm _ _ ht)) (.cons (.str _) (.cons (.str _) (.cons (dp_mono fm d2) (.cons (.lst (SqL.of upd_same) (dpAll_mono fm d3)) .nil))))) .nil)
  · rw [e] at hb; exact absurd hb (by decide +kernel)
  · rcases e with e | e <;> rw [e] at hb <;> exact absurd hb (by decide +kernel)
  · rcases e with e | e | e | e <;> rw [e] at hb <;> exact absurd hb (by decide +kernel)
end
/-! ### which row may follow, and its form -/
theorem fol_some {b : Str} {ks : List Str} (h : followL b = some ks) : (b = "pause" ∧ ks = (["seen"] : List Str)) ∨ ((b = "seen" ∨ b = "cell") ∧ ks = (["cell", "seen", "gone"] : List Str)) ∨ (b = "gone" ∧ ks = (["called"] : List Str)) ∨ (b = "called" ∧ ks = (["moved"] : List Str)) ∨ (b = "moved" ∧ ks = (["sealed"] : List Str)) ∨ (b = "sealed" ∧ ks = (["told"] : List Str)) := by
  unfold followL at h
  split at h
  · rename_i e; exact .inl ⟨e, (Option.some.inj h).symm⟩
  split at h
  · rename_i e; exact .inr (.inl ⟨.inl e, (Option.some.inj h).symm⟩)
  split at h
  · rename_i e; exact .inr (.inl ⟨.inr e, (Option.some.inj h).symm⟩)
  split at h
  · rename_i e; exact .inr (.inr (.inl ⟨e, (Option.some.inj h).symm⟩))
  split at h
  · rename_i e; exact .inr (.inr (.inr (.inl ⟨e, (Option.some.inj h).symm⟩)))
  split at h
  · rename_i e; exact .inr (.inr (.inr (.inr (.inl ⟨e, (Option.some.inj h).symm⟩))))
  split at h
  · rename_i e; exact .inr (.inr (.inr (.inr (.inr ⟨e, (Option.some.inj h).symm⟩))))
  · cases h
theorem may_some {b w : Str} {ks : List Str} (h : followL b = some ks) (m : mayFollow b w = true) : w ∈ ks := by
  unfold mayFollow at m
  rw [h] at m
  exact of_decide_eq_true m
theorem may_none {b w : Str} (h : followL b = none) (hw : w ≠ "new") (m : mayFollow b w = true) : w ∈ l_TOP_WORDS := by
  unfold mayFollow at m
  rw [h] at m
  dsimp only at m
  rw [if_neg hw] at m
  exact of_decide_eq_true m
theorem may_top {b w : Str} (m : mayFollow b w = true) (hw : w ∈ l_TOP_WORDS) : followL b = none := by
  cases e : followL b with
  | none => rfl
  | some ks =>
    have h1 := may_some e m
    have : ∀ w ∈ l_TOP_WORDS, w ∉ (["seen", "cell", "gone", "called", "moved", "sealed", "told"] : List Str) := by decide +kernel
    have h2 := this w hw
    exfalso
    rcases fol_some e with ⟨_, rfl⟩ | ⟨_, rfl⟩ | ⟨_, rfl⟩ | ⟨_, rfl⟩ | ⟨_, rfl⟩ | ⟨_, rfl⟩ <;> simp at h1 h2 <;> simp_all
theorem may_in {b w : Str} (m : mayFollow b w = true) (h1 : w ≠ "new") (h2 : w ∉ l_TOP_WORDS) : (w = "seen" ∧ (b = "pause" ∨ b = "seen" ∨ b = "cell")) ∨ (w = "cell" ∧ (b = "seen" ∨ b = "cell")) ∨ (w = "gone" ∧ (b = "seen" ∨ b = "cell")) ∨ (w = "called" ∧ b = "gone") ∨ (w = "moved" ∧ b = "called") ∨ (w = "sealed" ∧ b = "moved") ∨ (w = "told" ∧ b = "sealed") := by
  cases e : followL b with
  | none => exact absurd (may_none e h1 m) h2
  | some ks =>
    have h3 := may_some e m
    rcases fol_some e with ⟨rfl, rfl⟩ | ⟨hb, rfl⟩ | ⟨rfl, rfl⟩ | ⟨rfl, rfl⟩ | ⟨rfl, rfl⟩ | ⟨rfl, rfl⟩
    · rw [List.mem_singleton.mp h3]; simp
    · simp only [List.mem_cons, List.not_mem_nil, or_false] at h3
      rcases h3 with rfl | rfl | rfl
      · exact .inr (.inl ⟨rfl, hb⟩)
      · exact .inl ⟨rfl, .inr hb⟩
      · exact .inr (.inr (.inl ⟨rfl, hb⟩))
    · rw [List.mem_singleton.mp h3]; simp
    · rw [List.mem_singleton.mp h3]; simp
    · rw [List.mem_singleton.mp h3]; simp
    · rw [List.mem_singleton.mp h3]; simp
theorem may_new {b : Str} (m : mayFollow b "new" = true) : b = "came" ∨ b = "new" := by
  cases e : followL b with
  | none =>
    unfold mayFollow at m
    rw [e] at m
    dsimp only at m
    rw [if_pos rfl, Bool.or_eq_true] at m
    exact m.imp of_decide_eq_true of_decide_eq_true
  | some ks =>
    have h3 := may_some e m
    exfalso
    rcases fol_some e with ⟨_, rfl⟩ | ⟨_, rfl⟩ | ⟨_, rfl⟩ | ⟨_, rfl⟩ | ⟨_, rfl⟩ | ⟨_, rfl⟩ <;> revert h3 <;> decide +kernel
theorem ls_made {r : List Str} : lineStands "made" r = formMade r := by
  unfold lineStands
  rw [if_pos rfl]
theorem ls_went {r : List Str} : lineStands "went" r = formWent r := by
  unfold lineStands
  rw [if_neg (by decide +kernel), if_pos rfl]
theorem ls_heard {r : List Str} : lineStands "heard" r = formHeard r := by
  unfold lineStands
  rw [if_neg (by decide +kernel), if_neg (by decide +kernel), if_pos rfl]
theorem ls_pause {r : List Str} : lineStands "pause" r = (decide (0 < r.length) && r.all nameWord) := by
  unfold lineStands
  rw [if_neg (by decide +kernel), if_neg (by decide +kernel), if_neg (by decide +kernel), if_pos rfl]
theorem ls_gave {r : List Str} : lineStands "gave" r = formSeen r := by
  unfold lineStands
  rw [if_neg (by decide +kernel), if_neg (by decide +kernel), if_neg (by decide +kernel), if_neg (by decide +kernel), if_pos (by decide +kernel)]
theorem ls_came {r : List Str} : lineStands "came" r = formSeen r := by
  unfold lineStands
  rw [if_neg (by decide +kernel), if_neg (by decide +kernel), if_neg (by decide +kernel), if_neg (by decide +kernel), if_pos (by decide +kernel)]
theorem ls_new {r : List Str} : lineStands "new" r = formNew r := by
  unfold lineStands
  rw [if_neg (by decide +kernel), if_neg (by decide +kernel), if_neg (by decide +kernel), if_neg (by decide +kernel), if_neg (by decide +kernel), if_neg (by decide +kernel), if_pos rfl]
theorem ls_told {r : List Str} : lineStands "told" r = toldForm r := by
  unfold lineStands
  rw [if_neg (by decide +kernel), if_neg (by decide +kernel), if_neg (by decide +kernel), if_neg (by decide +kernel), if_neg (by decide +kernel), if_neg (by decide +kernel), if_neg (by decide +kernel), if_neg (by decide +kernel), if_neg (by decide +kernel), if_neg (by decide +kernel), decide_eq_true rfl, Bool.true_and]
theorem st_made {r : List Str} (h : lineStands "made" r = true) : ∃ a b c d e, r = [a, b, c, d, e] ∧ NumW a ∧ NumW d := by
  rw [ls_made] at h
  unfold formMade at h
  split at h
  · rename_i a b c d e
    rw [Bool.and_eq_true, Bool.and_eq_true] at h
    exact ⟨a, b, c, d, e, rfl, all_num h.1.1 a (by simp), all_num h.1.1 d (by simp)⟩
  · cases h
theorem st_went {r : List Str} (h : lineStands "went" r = true) : ∃ a b, r = [a, b] ∧ NumW a := by
  rw [ls_went] at h
  unfold formWent at h
  split at h
  · rename_i a b
    rw [Bool.and_eq_true] at h
    exact ⟨a, b, rfl, number_int h.1⟩
  · cases h
theorem st_heard {r : List Str} (h : lineStands "heard" r = true) : ∃ a, r = [a] ∧ NumW a := by
  rw [ls_heard] at h
  unfold formHeard at h
  split at h
  · rename_i a
    exact ⟨a, rfl, number_int h⟩
  · cases h
theorem form_seen {r : List Str} (h : formSeen r = true) : ∃ a r', r = a :: r' ∧ r'.all numberWord = true := by
  unfold formSeen at h
  split at h
  · rename_i a r'
    rw [Bool.and_eq_true] at h
    exact ⟨a, r', rfl, h.2⟩
  · cases h
theorem st_new {r : List Str} (h : lineStands "new" r = true) : ∃ a b c d e f g, r = [a, b, c, d, e, f, g] ∧ r.all numberWord = true := by
  rw [ls_new] at h
  unfold formNew at h
  split at h
  · rename_i a b c d e f g
    rw [Bool.and_eq_true] at h
    exact ⟨a, b, c, d, e, f, g, rfl, h.1⟩
  · cases h
theorem vs_made {s : Vs} {r : List Str} : vStep s ("made" :: r) = ⟨s.flush ++ [madeP r], .idle⟩ := by
  unfold vStep
  dsimp only
  rw [if_pos rfl]
theorem vs_went {s : Vs} {r : List Str} : vStep s ("went" :: r) = ⟨s.flush ++ [wentP r], .idle⟩ := by
  unfold vStep
  dsimp only
  rw [if_neg (by decide +kernel), if_pos rfl]
theorem vs_heard {s : Vs} {r : List Str} : vStep s ("heard" :: r) = ⟨s.flush ++ [heardP r], .idle⟩ := by
  unfold vStep
  dsimp only
  rw [if_neg (by decide +kernel), if_neg (by decide +kernel), if_pos rfl]
theorem vs_gave {s : Vs} {r : List Str} : vStep s ("gave" :: r) = ⟨s.flush ++ [gaveP r], .idle⟩ := by
  unfold vStep
  dsimp only
  rw [if_neg (by decide +kernel), if_neg (by decide +kernel), if_neg (by decide +kernel), if_pos rfl]
theorem vs_came {s : Vs} {r : List Str} : vStep s ("came" :: r) = ⟨s.flush, .came (r.headD "") (numsP r.tail) []⟩ := by
  unfold vStep
  dsimp only
  rw [if_neg (by decide +kernel), if_neg (by decide +kernel), if_neg (by decide +kernel), if_neg (by decide +kernel), if_pos rfl]
theorem vs_new {s : Vs} {r : List Str} {a : Str} {ns : PyData} {hs : List PyData} (h : s.cur = .came a ns hs) : vStep s ("new" :: r) = ⟨s.done, .came a ns (hs ++ [newP r])⟩ := by
  unfold vStep
  dsimp only
  rw [if_neg (by decide +kernel), if_neg (by decide +kernel), if_neg (by decide +kernel), if_neg (by decide +kernel), if_neg (by decide +kernel), if_pos rfl, h]
theorem vs_pause {s : Vs} {r : List Str} : vStep s ("pause" :: r) = ⟨s.flush, .pz ⟨strsD r, [], [], [], [], []⟩⟩ := by
  unfold vStep
  dsimp only
  rw [if_neg (by decide +kernel), if_neg (by decide +kernel), if_neg (by decide +kernel), if_neg (by decide +kernel), if_neg (by decide +kernel), if_neg (by decide +kernel), if_pos rfl]
theorem vs_told {s : Vs} {r : List Str} {z : Pz} (h : s.cur = .pz z) : vStep s ("told" :: r) = ⟨s.done ++ [z.dat r], .idle⟩ := by
  unfold vStep
  dsimp only
  rw [if_neg (by decide +kernel), if_neg (by decide +kernel), if_neg (by decide +kernel), if_neg (by decide +kernel), if_neg (by decide +kernel), if_neg (by decide +kernel), if_neg (by decide +kernel), if_pos rfl, h]
theorem vs_part {s : Vs} {w : Str} {r : List Str} {z : Pz} (h : s.cur = .pz z) (hw : w ∈ ([("seen" : Str), "cell", "gone", "called", "moved", "sealed"] : List Str)) : vStep s (w :: r) = ⟨s.done, .pz (z.step w r)⟩ := by
  have hn : ∀ w ∈ ([("seen" : Str), "cell", "gone", "called", "moved", "sealed"] : List Str), w ∉ ([("made" : Str), "went", "heard", "gave", "came", "new", "pause", "told"] : List Str) := by decide +kernel
  have h2 := hn w hw
  simp only [List.mem_cons, List.not_mem_nil, or_false, not_or] at h2
  obtain ⟨n1, n2, n3, n4, n5, n6, n7, n8⟩ := h2
  unfold vStep
  dsimp only
  rw [if_neg n1, if_neg n2, if_neg n3, if_neg n4, if_neg n5, if_neg n6, if_neg n7, if_neg n8, h]
theorem rows_ok {z : Str} {rows : List (List Str)} (h : readRows z = .ok rows) : ∃ b, vwScan "told" 0 (linesS z).dropLast = .ok b ∧ followL b = none ∧ rows = (linesS z).dropLast.map wordsS := by
  unfold readRows at h
  split at h
  · cases h
  · rename_i b e
    split at h
    · rename_i g
      exact ⟨b, e, g.2, (Except.ok.inj h).symm⟩
    · cases h
theorem VI.ext {G N H H' : Hp} {F : Addr} {b : Str} {s : Vs} {vp vh : V} {n : Nat} (h : VI K G F b s vp vh n N H) (e : Same H H') : VI K G F b s vp vh n N H' := by
  rcases h with ⟨vs, h1, h2, h3, h4, O⟩ | ⟨vs, a, ns, hs, t, nl, M, hv, h1, h2, h3, h4, h5, h6, h7, h8, h9, O⟩ | ⟨vs, z, PL, h1, h2, h3, h4, h5, h6, h7, p⟩ | ⟨vs, z, PL, h1, h2, h3, h4, h5, h6, h7, p⟩ | ⟨vs, z, PL, h1, h2, h3, h4, h5, h6, p⟩
  · exact .inl ⟨vs, h1, h2, h3, h4, O.ext e⟩
  · exact .inr (.inl ⟨vs, a, ns, hs, t, nl, M, hv, h1, h2, h3, h4, h5, h6, h7, h8, h9, O.ext e⟩)
  · exact .inr (.inr (.inl ⟨vs, z, PL, h1, h2, h3, h4, h5, h6, h7, p.ext e⟩))
  · exact .inr (.inr (.inr (.inl ⟨vs, z, PL, h1, h2, h3, h4, h5, h6, h7, p.ext e⟩)))
  · exact .inr (.inr (.inr (.inr ⟨vs, z, PL, h1, h2, h3, h4, h5, h6, p.ext e⟩)))
theorem Own.one {G N H H' : Hp} {L : List (Addr × HO)} {p : Addr} {o : HO} (O : Own G N L H) (hp : H p = none) (s : Same H H') (e : H' p = some o) : Own G (upd N p o) L H' := by
  refine ⟨O.g.trans s, fun b u h => ?_, fun b u h => ?_, fun q hq => s _ _ (O.at_ q hq), O.lg, fun q hq => ?_, O.nd⟩
  · by_cases hb : b = p
    · subst hb
      rw [upd_same] at h
      rw [e]; exact h
    · rw [upd_ne hb] at h
      exact s _ _ (O.n _ _ h)
  · by_cases hb : b = p
    · subst hb
      exact O.g.free hp
    · rw [upd_ne hb] at h
      exact O.nf _ _ h
  · rw [upd_ne (ne_of_none (O.at_ q hq) hp)]
    exact O.ln q hq
theorem Own.perm {G N H : Hp} {L L' : List (Addr × HO)} (O : Own G N L H) (p : L.Perm L') : Own G N L' H :=
  ⟨O.g, O.n, O.nf, fun q hq => O.at_ q (p.mem_iff.mpr hq), fun q hq => O.lg q (p.mem_iff.mpr hq), fun q hq => O.ln q (p.mem_iff.mpr hq), (p.map (·.1)).nodup_iff.mp O.nd⟩
theorem perm6 {α : Type} (a b c d e f : α) : [e, d, c, b, a, f].Perm [a, b, c, d, e, f] := (List.reverse_perm [a, b, c, d, e]).append_right [f]
theorem step_seen {z : Pz} {r : List Str} : z.step "seen" r = z.seen r := if_pos rfl
theorem step_cell {z : Pz} {r : List Str} : z.step "cell" r = z.cell r := by
  unfold Pz.step
  rw [if_neg (by decide +kernel), if_pos rfl]
theorem step_part {z : Pz} {w : Str} {r : List Str} (h1 : w ≠ "seen") (h2 : w ≠ "cell") : z.step w r = z.part w r := by
  unfold Pz.step
  rw [if_neg h1, if_neg h2]
theorem shb_seen {z : Pz} {a : Str} {r : List Str} {n : Nat} (h : ShB z n) : ShB (z.seen (a :: r)) (n + 1) := by
  refine ⟨?_, fun s hs => ?_⟩
  · show (z.shown ++ [_]).length ≤ n + 1
    rw [List.length_append]
    have := h.1
    show _ + 1 ≤ _
    omega
  · rcases List.mem_append.mp (show s ∈ z.shown ++ [⟨a, numsP r, []⟩] from hs) with hs | hs
    · have := h.2 s hs; omega
    · rw [List.mem_singleton.mp hs]; exact Nat.zero_le _
theorem cell_facts {z : Pz} {a : Str} {r : List Str} {n : Nat} {pre : List SeenP} {last : SeenP} (e : z.shown = pre ++ [last]) (h : ShB z n) (he : Emp z) : ShB (z.cell (a :: r)) (n + 1) ∧ Emp (z.cell (a :: r)) := by
  have h1 : z.cell (a :: r) = { z with shown := pre ++ [{ last with homes := last.homes ++ [.tuple [intP a, fldP r]] }] } := by
    unfold Pz.cell
    rw [e]
    simp
  rw [h1]
  refine ⟨⟨?_, fun s hs => ?_⟩, he⟩
  · have := h.1
    rw [e] at this
    show (pre ++ [_]).length ≤ n + 1
    rw [List.length_append] at this ⊢
    exact Nat.le_succ_of_le this
  · rcases List.mem_append.mp hs with hs | hs
    · have := h.2 s (by rw [e]; exact List.mem_append_left _ hs); omega
    · have := h.2 last (by rw [e]; simp)
      rw [List.mem_singleton.mp hs]
      show (last.homes ++ [_]).length ≤ n + 1
      rw [List.length_append]
      show _ + 1 ≤ _
      omega
theorem pairs_len : ∀ {r : List Str}, (pairsP r).length ≤ r.length
  | [] => Nat.zero_le _
  | [_] => Nat.zero_le _
  | a :: b :: r => by
    have := pairs_len (r := r)
    show (pairsP r).length + 1 ≤ r.length + 1 + 1
    omega
theorem szb_gone {z : Pz} {r : List Str} (h : Emp z) (hr : r.length ≤ 90000) : SzB "gone" (z.part "gone" r) := by
  obtain ⟨h1, h2, h3, h4⟩ := h
  rw [part_gone]
  refine ⟨⟨?_, ?_, ?_, ?_⟩, fun _ => ⟨h2, h3, h4⟩, fun e => absurd e (by decide +kernel), fun e => absurd e (by decide +kernel)⟩
  · show (z.gone ++ r.map intP).length ≤ 90000
    rw [h1, List.nil_append, List.length_map]; exact hr
  · show z.called.length ≤ 90000
    rw [h2]; exact Nat.zero_le _
  · show z.moved.length ≤ 90000
    rw [h3]; exact Nat.zero_le _
  · show z.sealed.length ≤ 90000
    rw [h4]; exact Nat.zero_le _
theorem szb_called {z : Pz} {r : List Str} (h : SzB "gone" z) (hr : r.length ≤ 90000) : SzB "called" (z.part "called" r) := by
  obtain ⟨⟨a1, a2, a3, a4⟩, h2, _, _⟩ := h
  obtain ⟨h2, h3, h4⟩ := h2 rfl
  rw [part_called]
  refine ⟨⟨a1, ?_, a3, a4⟩, fun e => absurd e (by decide +kernel), fun _ => ⟨h3, h4⟩, fun e => absurd e (by decide +kernel)⟩
  show (z.called ++ r.map intP).length ≤ 90000
  rw [h2, List.nil_append, List.length_map]; exact hr
theorem szb_moved {z : Pz} {r : List Str} (h : SzB "called" z) (hr : r.length ≤ 90000) : SzB "moved" (z.part "moved" r) := by
  obtain ⟨⟨a1, a2, a3, a4⟩, _, h2, _⟩ := h
  obtain ⟨h3, h4⟩ := h2 rfl
  rw [part_moved]
  refine ⟨⟨a1, a2, ?_, a4⟩, fun e => absurd e (by decide +kernel), fun e => absurd e (by decide +kernel), fun _ => h4⟩
  show (z.moved ++ pairsP r).length ≤ 90000
  rw [h3, List.nil_append]; exact Nat.le_trans pairs_len hr
theorem szb_sealed {z : Pz} {r : List Str} (h : SzB "moved" z) (hr : r.length ≤ 90000) : SzB "sealed" (z.part "sealed" r) := by
  obtain ⟨⟨a1, a2, a3, a4⟩, _, _, h2⟩ := h
  have h4 := h2 rfl
  rw [part_sealed]
  refine ⟨⟨a1, a2, a3, ?_⟩, fun e => absurd e (by decide +kernel), fun e => absurd e (by decide +kernel), fun e => absurd e (by decide +kernel)⟩
  show (z.sealed ++ r.map PyData.str).length ≤ 90000
  rw [h4, List.nil_append, List.length_map]; exact hr
theorem cut_tail2 (x y : V) (r : List V) : cutV (x :: y :: r) (some 2) none = r := by
  unfold cutV
  rw [show (2 : Int) = ((2 : Nat) : Int) from rfl, HT.sIx_nat, HT.sIx_none]
  have : min 2 (x :: y :: r).length = 2 := by simp
  rw [this]
  show r.take ((x :: y :: r).length - 2) = r
  rw [List.length_cons, List.length_cons]
  exact List.take_of_length_le (by omega)
def sp_view_from (K : PySem.W.Frag) : Sp := fun vs H Q E => ∃ z : Str, vs = [.str z] ∧ Tok90 z ∧ (∀ k, readView z = .error k → Bad K "view" k H E) ∧ ∀ ds l vs N H', readView z = .ok ds → Own H N [] H' → N l = some (.lst vs) → DpAll K N vs ds → Q (.ref l) H'
theorem sc_view_from : FnScope ["text", "found", "parts", "homes", "words", "word", "told"] ["text"] (defScope s_view_from) := ⟨rfl, rfl, rfl, by decide +kernel, rfl, by decide +kernel, by decide +kernel⟩
theorem ok_view_from (T : Tx w K mg) : OkF P w K mg base (L2.CX P w) 7 "view_from" ["text"] (sp_view_from K) := by
  have G_view_lines := ok_view_lines (P := P) (base := base) T
  have G_numbers_of := ok_numbers_of (P := P) (base := base) T
  have G_fields_of := ok_fields_of (P := P) (base := base) T
  have G_told_of := ok_told_of (P := P) (base := base) T
  have G_pause_part := ok_pause_part (P := P) (base := base) T
  obtain ⟨fdI, hBI, hFI⟩ := ok_init (P := P) (base := base) T
  refine Tx.defX T 17 rfl T.g_view_from sc_view_from (fun _ _ _ _ _ _ us hl => match us, hl with | [_], _ => rfl) (fun vs H Q E h => ?_) (fun f cdv A outer s H vs Q E hr h => ?_)
  · obtain ⟨z, rfl, hz, qe, q⟩ := h; rfl
  · obtain ⟨z, rfl, hz, qe, q⟩ := h
    refine ⟨_, (pss_cons (ps_set (i := 1) sc_view_from.nd rfl (by first | exact Or.inl rfl | exact Or.inr rfl) (pe_lst pa_nil))
      (pss_cons (ps_set (i := 2) sc_view_from.nd rfl (by first | exact Or.inl rfl | exact Or.inr rfl) (pe_lst pa_nil))
      (pss_cons (ps_set (i := 3) sc_view_from.nd rfl (by first | exact Or.inl rfl | exact Or.inr rfl) (pe_lst pa_nil))
      (pss_cons (ps_for (passes_of rfl) rfl (pi_list (pe_callO G_view_lines (hr.mono (by decide)) (by rfl) (passes_call (takes_of rfl rfl rfl rfl) (fun _ _ _ _ h => h)) (pa_cons (pv 0) pa_nil))) (pg_name (i := 4) sc_view_from.nd rfl (by first | exact Or.inl rfl | exact Or.inr rfl))
        (pss_cons (ps_set (i := 5) sc_view_from.nd rfl (by first | exact Or.inl rfl | exact Or.inr rfl) (pe_ix ix_seq (pv 4) pe_int (fun _ _ => rfl)))
        (pss_one (ps_if (pt_cmpR (op_eqG hr.units) (pv 5) pe_str (nomark _))
          (pss_one (ps_expr (pe_bm PySem.F.plainAttrs_list PySem.F.slot_list_append PySem.F.type_list_append mt_append (pv 1) (pa_cons (pe_tup (pa_cons pe_str (pa_cons (pe_callTy call_intG (by rfl) T.f_int (by decide +kernel) (pa_cons (pe_ix ix_seq (pv 4) pe_int (fun _ _ => rfl)) pa_nil)) (pa_cons (pe_ix ix_seq (pv 4) pe_int (fun _ _ => rfl)) (pa_cons (pe_ix ix_seq (pv 4) pe_int (fun _ _ => rfl)) (pa_cons (pe_callTy call_intG (by rfl) T.f_int (by decide +kernel) (pa_cons (pe_ix ix_seq (pv 4) pe_int (fun _ _ => rfl)) pa_nil)) (pa_cons (pe_cmpR (op_eqG hr.units) (pe_ix ix_seq (pv 4) pe_int (fun _ _ => rfl)) pe_str (nomark _)) pa_nil))))))) pa_nil))))
          (pss_one (ps_if (pt_cmpR (op_eqG hr.units) (pv 5) pe_str (nomark _))
            (pss_one (ps_expr (pe_bm PySem.F.plainAttrs_list PySem.F.slot_list_append PySem.F.type_list_append mt_append (pv 1) (pa_cons (pe_tup (pa_cons pe_str (pa_cons (pe_callTy call_intG (by rfl) T.f_int (by decide +kernel) (pa_cons (pe_ix ix_seq (pv 4) pe_int (fun _ _ => rfl)) pa_nil)) (pa_cons (pe_ix ix_seq (pv 4) pe_int (fun _ _ => rfl)) pa_nil)))) pa_nil))))
            (pss_one (ps_if (pt_cmpR (op_eqG hr.units) (pv 5) pe_str (nomark _))
              (pss_one (ps_expr (pe_bm PySem.F.plainAttrs_list PySem.F.slot_list_append PySem.F.type_list_append mt_append (pv 1) (pa_cons (pe_tup (pa_cons pe_str (pa_cons (pe_callTy call_intG (by rfl) T.f_int (by decide +kernel) (pa_cons (pe_ix ix_seq (pv 4) pe_int (fun _ _ => rfl)) pa_nil)) pa_nil))) pa_nil))))
              (pss_one (ps_if (pt_cmpR (op_eqG hr.units) (pv 5) pe_str (nomark _))
                (pss_one (ps_expr (pe_bm PySem.F.plainAttrs_list PySem.F.slot_list_append PySem.F.type_list_append mt_append (pv 1) (pa_cons (pe_tup (pa_cons pe_str (pa_cons (pe_ix ix_seq (pv 4) pe_int (fun _ _ => rfl)) (pa_cons (pe_callO G_numbers_of (hr.mono (by decide)) (by rfl) pass0 (pa_cons (pe_slice sl_G (pv 4) (po_some pe_int) po_none) pa_nil)) pa_nil)))) pa_nil))))
                (pss_one (ps_if (pt_cmpR (op_eqG hr.units) (pv 5) pe_str (nomark _))
                  (pss_cons (ps_set (i := 3) sc_view_from.nd rfl (by first | exact Or.inl rfl | exact Or.inr rfl) (pe_lst pa_nil))
                  (pss_one (ps_expr (pe_bm PySem.F.plainAttrs_list PySem.F.slot_list_append PySem.F.type_list_append mt_append (pv 1) (pa_cons (pe_tup (pa_cons pe_str (pa_cons (pe_ix ix_seq (pv 4) pe_int (fun _ _ => rfl)) (pa_cons (pe_callO G_numbers_of (hr.mono (by decide)) (by rfl) pass0 (pa_cons (pe_slice sl_G (pv 4) (po_some pe_int) po_none) pa_nil)) (pa_cons (pv 3) pa_nil))))) pa_nil)))))
                  (pss_one (ps_if (pt_cmpR (op_eqG hr.units) (pv 5) pe_str (nomark _))
                    (pss_one (ps_expr (pe_bm PySem.F.plainAttrs_list PySem.F.slot_list_append PySem.F.type_list_append mt_append (pv 3) (pa_cons (pe_tup (pa_cons (pe_callTy call_intG (by rfl) T.f_int (by decide +kernel) (pa_cons (pe_ix ix_seq (pv 4) pe_int (fun _ _ => rfl)) pa_nil)) (pa_cons (pe_callO G_fields_of (hr.mono (by decide)) (by rfl) pass0 (pa_cons (pe_slice sl_G (pv 4) (po_some pe_int) po_none) pa_nil)) (pa_cons (pe_callTy call_intG (by rfl) T.f_int (by decide +kernel) (pa_cons (pe_ix ix_seq (pv 4) pe_int (fun _ _ => rfl)) pa_nil)) (pa_cons (pe_cmpR (op_eqG hr.units) (pe_ix ix_seq (pv 4) pe_int (fun _ _ => rfl)) pe_str (nomark _)) pa_nil))))) pa_nil))))
                    (pss_one (ps_if (pt_cmpR (op_eqG hr.units) (pv 5) pe_str (nomark _))
                      (pss_one (ps_set (i := 2) sc_view_from.nd rfl (by first | exact Or.inl rfl | exact Or.inr rfl) (pe_lst (pa_cons (pe_slice sl_G (pv 4) (po_some pe_int) po_none) (pa_cons (pe_lst pa_nil) (pa_cons (pe_lst pa_nil) (pa_cons (pe_lst pa_nil) (pa_cons (pe_lst pa_nil) (pa_cons (pe_lst pa_nil) pa_nil)))))))))
                      (pss_one (ps_if (pt_cmpR (op_eqG hr.units) (pv 5) pe_str (nomark _))
                        (pss_cons (ps_set (i := 6) sc_view_from.nd rfl (by first | exact Or.inl rfl | exact Or.inr rfl) (pe_callO G_told_of (hr.mono (by decide)) (by rfl) pass0 (pa_cons (pe_slice sl_G (pv 4) (po_some pe_int) po_none) pa_nil)))
                        (pss_one (ps_expr (pe_bm PySem.F.plainAttrs_list PySem.F.slot_list_append PySem.F.type_list_append mt_append (pv 1) (pa_cons (pe_tup (pa_cons pe_str (pa_cons (pe_ix ix_seq (pv 2) pe_int (fun _ _ => rfl)) (pa_cons (pe_ix ix_seq (pv 2) pe_int (fun _ _ => rfl)) (pa_cons (pe_ix ix_seq (pv 2) pe_int (fun _ _ => rfl)) (pa_cons (pe_ix ix_seq (pv 2) pe_int (fun _ _ => rfl)) (pa_cons (pe_ix ix_seq (pv 2) pe_int (fun _ _ => rfl)) (pa_cons (pe_ix ix_seq (pv 2) pe_int (fun _ _ => rfl)) (pa_cons (pv 6) pa_nil))))))))) pa_nil)))))
                        (pss_one (ps_expr (pe_callO G_pause_part (hr.mono (by decide)) (by rfl) pass0 (pa_cons (pv 2) (pa_cons (pv 4) pa_nil)))))))))))))))))))))))
      (pss_one (ps_ret (pv 1))))))), ?_⟩
    walk_at "rd"
    refine ⟨sz_lit (n := 0), fun F hF => ?_⟩
    have O1 := (Own.start H).new (o := .lst []) hF
    generalize upd H F (.lst []) = H1 at O1 ⊢
    walk_at "rd"
    refine ⟨sz_lit (n := 0), fun P0 hP0 => ?_⟩
    have O2 := O1.ext (same_new (o := .lst []) hP0)
    generalize upd H1 P0 (.lst []) = H2 at O2 ⊢
    walk_at "rd"
    refine ⟨sz_lit (n := 0), fun M0 hM0 => ?_⟩
    have O3 := O2.ext (same_new (o := .lst []) hM0)
    generalize upd H2 M0 (.lst []) = H3 at O3 ⊢
    walk_at "rd"
    refine ⟨z, rfl, hz, fun k hk => ?_, fun rows v N H4 hrows O4 dv => ?_⟩
    · refine (qe k ?_).ext O3.g
      unfold readView
      rw [hk]
    replace O4 := O3.call1 O4
    replace dv := dp_mono (uni_r (A := ho0) (B := N) fun _ _ _ => rfl) dv
    generalize uni ho0 N = N0 at O4 dv
    obtain ⟨bl, hscan, hbl, erows⟩ := rows_ok hrows
    obtain ⟨ra, xs, rfl, hxs, dxs⟩ := dp_lst dv
    obtain ⟨hw1, hw2, hw3⟩ := lines_wd hz
    have hrl : rows.length ≤ 89991 := by
      rw [erows, List.length_map, List.length_dropLast]; omega
    have hview : readView z = .ok (vRun rows).flush := by
      unfold readView
      rw [hrows]
    walk_at "rd"
    refine forL (O4.n.seq hxs) (fun i σ H' => ∃ (b : Str) (N : Hp) (vp vh : V) (x4 x5 x6 : Option V), σ = [some (.str z), some (.ref F), some vp, some vh, x4, x5, x6] ∧ Same N0 N ∧ VI K H F b ((rows.take i).foldl vStep ⟨[], .idle⟩) vp vh i N H' ∧ vwScan b i ((linesS z).dropLast.drop i) = .ok bl)
      ⟨"told", N0, _, _, _, _, _, rfl, Same.refl _, .inl ⟨[], ⟨by decide +kernel, by decide +kernel, by decide +kernel⟩, rfl, Nat.le_refl _, .nil, O4⟩, hscan⟩ (fun i σ H' _ ⟨b, N, vp, vh, x4, x5, x6, _, sN, I, _⟩ => (sN.trans I.own.2).seq hxs) ?_ ?_
    · rintro i x σ H5 hx ⟨b, N1, vp, vh, x4, x5, x6, rfl, sN, I, hsc⟩
      obtain ⟨ws, hws, dws⟩ := dp_at dxs hx
      obtain ⟨W, ys, rfl, hW0, dys⟩ := dp_lst dws
      have eys := strs_of_dp dys
      subst eys
      obtain ⟨zi, hzi, ezi⟩ : ∃ zi, (linesS z).dropLast[i]? = some zi ∧ wordsS zi = ws := by
        rw [erows, List.getElem?_map] at hws
        cases e : (linesS z).dropLast[i]? with
        | none => rw [e] at hws; cases hws
        | some y => rw [e] at hws; cases hws; exact ⟨y, rfl, rfl⟩
      have hzt := hw1 zi (List.dropLast_subset _ (List.mem_of_getElem? hzi))
      obtain ⟨hq1, hq2, hq3⟩ := words_wd hzt
      have hi : i < (linesS z).dropLast.length := (List.getElem?_eq_some_iff.mp hzi).1
      have hi2 : i ≤ 89991 := by rw [List.length_dropLast] at hi; omega
      rw [List.drop_eq_getElem_cons hi, (List.getElem?_eq_some_iff.mp hzi).2] at hsc
      unfold vwScan at hsc
      rw [ezi] at hsc hq1 hq2 hq3
      obtain ⟨w0, r, rfl⟩ : ∃ w0 r, ws = w0 :: r := by
        cases ws with
        | nil => exact absurd rfl hq3
        | cons a b => exact ⟨a, b, rfl⟩
      have hwd : ∀ y ∈ w0 :: r, Wd y := fun y hy => (hq1 y hy).wd
      have hrl2 : r.length ≤ 90000 := by simp only [List.length_cons] at hq2; omega
      have hst : vwStep b (w0 :: r) = if mayFollow b w0 = true ∧ lineStands w0 r = true then some w0 else none := rfl
      by_cases hms : mayFollow b w0 = true ∧ lineStands w0 r = true
      case neg => rw [hst, if_neg hms] at hsc; cases hsc
      rw [hst, if_pos hms] at hsc
      obtain ⟨hmay, hstd⟩ := hms
      have hrun : (rows.take (i + 1)).foldl vStep ⟨[], .idle⟩ = vStep ((rows.take i).foldl vStep ⟨[], .idle⟩) (w0 :: r) := by
        rw [take_snoc hws, List.foldl_append]
        rfl
      rw [hrun]
      generalize (rows.take i).foldl vStep ⟨[], .idle⟩ = st at I hrun
      clear hst hws hzi ezi hrun
      have hW : ∀ {H' : Hp}, Same N1 H' → SqL K H' W ((w0 :: r).map V.str) := fun {H'} s => (sN.trans s).seq hW0
      have hWI := hW I.own.2
      walk_at "rd"
      refine a_ixL hWI (ixS (i := 0) rfl) ?_
      walk_at "rd"
      rw [dec_strV]
      refine x_ite (fun g => ?_) (fun g => ?_)
      · -- made
        have g := of_decide_eq_true g
        subst g
        obtain ⟨a, b1, c, d, e, rfl, na, nd⟩ := st_made hstd
        obtain ⟨N2, vs, s2, hvl, dvs, O⟩ := I.top (may_top hmay (by decide +kernel))
        walk_at "rd"
        refine x_tyL (SqL.of (O.get 0)) ?_
        walk_at "rd"
        refine a_ixL hWI (ixS (i := 1) rfl) ?_
        walk_at "rd"
        refine x_intS na.eq na.2 ?_
        walk_at "rd"
        refine a_ixL hWI (ixS (i := 2) rfl) ?_
        walk_at "rd"
        refine a_ixL hWI (ixS (i := 3) rfl) ?_
        walk_at "rd"
        refine a_ixL hWI (ixS (i := 4) rfl) ?_
        walk_at "rd"
        refine x_intS nd.eq nd.2 ?_
        walk_at "rd"
        refine a_ixL hWI (ixS (i := 5) rfl) ?_
        walk_at "rd"
        rw [dec_strV]
        refine ⟨sz_lit (n := 6), fun t ht => ?_⟩
        have O2 := O.frz (o := .tup [.str "made", .int (wordInt a), .str b1, .str c, .int (wordInt d), .bl (decide (e = "1"))]) ht
        have sn := same_new (o := .tup [.str "made", .int (wordInt a), .str b1, .str c, .int (wordInt d), .bl (decide (e = "1"))]) (O.n.free ht)
        walk_at "rd"
        refine x_append (O2.get 0) (sz_lt (by omega)) ?_
        refine ⟨"made", _, _, _, _, _, _, rfl, (sN.trans s2).trans sn, ?_, hsc⟩
        rw [vs_made]
        exact .inl ⟨vs ++ [V.ref t], ⟨by decide +kernel, by decide +kernel, by decide +kernel⟩, rfl, by rw [List.length_append]; show _ + 1 ≤ _; omega, dpAll_app (dpAll_mono sn dvs) (.cons (.tup (SqT.of upd_same) (.cons (.str _) (.cons (.int _) (.cons (.str _) (.cons (.str _) (.cons (.int _) (.cons (.bl _) .nil))))))) .nil), O2.put 0 (u := .lst (vs ++ [V.ref t]))⟩
      have g1 := of_decide_eq_false g
      walk_at "rd"
      rw [dec_strV]
      refine x_ite (fun g => ?_) (fun g => ?_)
      · -- went
        have g := of_decide_eq_true g
        subst g
        obtain ⟨a, b1, rfl, na⟩ := st_went hstd
        obtain ⟨N2, vs, s2, hvl, dvs, O⟩ := I.top (may_top hmay (by decide +kernel))
        walk_at "rd"
        refine x_tyL (SqL.of (O.get 0)) ?_
        walk_at "rd"
        refine a_ixL hWI (ixS (i := 1) rfl) ?_
        walk_at "rd"
        refine x_intS na.eq na.2 ?_
        walk_at "rd"
        refine a_ixL hWI (ixS (i := 2) rfl) ?_
        walk_at "rd"
        refine ⟨sz_lit (n := 3), fun t ht => ?_⟩
        have O2 := O.frz (o := .tup [.str "went", .int (wordInt a), .str b1]) ht
        have sn := same_new (o := .tup [.str "went", .int (wordInt a), .str b1]) (O.n.free ht)
        walk_at "rd"
        refine x_append (O2.get 0) (sz_lt (by omega)) ?_
        refine ⟨"went", _, _, _, _, _, _, rfl, (sN.trans s2).trans sn, ?_, hsc⟩
        rw [vs_went]
        exact .inl ⟨vs ++ [V.ref t], ⟨by decide +kernel, by decide +kernel, by decide +kernel⟩, rfl, by rw [List.length_append]; show _ + 1 ≤ _; omega, dpAll_app (dpAll_mono sn dvs) (.cons (.tup (SqT.of upd_same) (.cons (.str _) (.cons (.int _) (.cons (.str _) .nil)))) .nil), O2.put 0 (u := .lst (vs ++ [V.ref t]))⟩
      have g2 := of_decide_eq_false g
      walk_at "rd"
      rw [dec_strV]
      refine x_ite (fun g => ?_) (fun g => ?_)
      · -- heard
        have g := of_decide_eq_true g
        subst g
        obtain ⟨a, rfl, na⟩ := st_heard hstd
        obtain ⟨N2, vs, s2, hvl, dvs, O⟩ := I.top (may_top hmay (by decide +kernel))
        walk_at "rd"
        refine x_tyL (SqL.of (O.get 0)) ?_
        walk_at "rd"
        refine a_ixL hWI (ixS (i := 1) rfl) ?_
        walk_at "rd"
        refine x_intS na.eq na.2 ?_
        walk_at "rd"
        refine ⟨sz_lit (n := 2), fun t ht => ?_⟩
        have O2 := O.frz (o := .tup [.str "heard", .int (wordInt a)]) ht
        have sn := same_new (o := .tup [.str "heard", .int (wordInt a)]) (O.n.free ht)
        walk_at "rd"
        refine x_append (O2.get 0) (sz_lt (by omega)) ?_
        refine ⟨"heard", _, _, _, _, _, _, rfl, (sN.trans s2).trans sn, ?_, hsc⟩
        rw [vs_heard]
        exact .inl ⟨vs ++ [V.ref t], ⟨by decide +kernel, by decide +kernel, by decide +kernel⟩, rfl, by rw [List.length_append]; show _ + 1 ≤ _; omega, dpAll_app (dpAll_mono sn dvs) (.cons (.tup (SqT.of upd_same) (.cons (.str _) (.cons (.int _) .nil))) .nil), O2.put 0 (u := .lst (vs ++ [V.ref t]))⟩
      have g3 := of_decide_eq_false g
      walk_at "rd"
      rw [dec_strV]
      refine x_ite (fun g => ?_) (fun g => ?_)
      · -- gave
        have g := of_decide_eq_true g
        subst g
        rw [ls_gave] at hstd
        obtain ⟨a, r', rfl, hnr⟩ := form_seen hstd
        obtain ⟨N2, vs, s2, hvl, dvs, O⟩ := I.top (may_top hmay (by decide +kernel))
        walk_at "rd"
        refine x_tyL (SqL.of (O.get 0)) ?_
        walk_at "rd"
        refine a_ixL hWI (ixS (i := 1) rfl) ?_
        walk_at "rd"
        refine a_slL hWI fun p2 hp2 => ?_
        rw [List.map_cons, List.map_cons, cut_tail2]
        have O3 := O.ext (same_new (o := .lst (r'.map V.str)) hp2)
        have hp2' : (upd H5 p2 (.lst (r'.map V.str))) p2 = some (.lst (r'.map V.str)) := upd_same
        generalize upd H5 p2 (.lst (r'.map V.str)) = H6 at O3 hp2' ⊢
        walk_at "rd"
        refine ⟨p2, r', rfl, SqL.of hp2', by simp only [List.length_cons] at hrl2; omega, all_num hnr, fun p3 H7 hp3 s3 hp3' => ?_⟩
        have O4 := Own.one O3 hp3 s3 hp3'
        have sn4 := same_new (o := .lst ((r'.map wordInt).map V.int)) (O3.n.free hp3)
        have dn : Dp K (upd N2 p3 (.lst ((r'.map wordInt).map V.int))) (.ref p3) (numsP r') := .lst (SqL.of upd_same) (dp_intP r')
        generalize upd N2 p3 (.lst ((r'.map wordInt).map V.int)) = N4 at O4 sn4 dn
        walk_at "rd"
        refine ⟨sz_lit (n := 3), fun t ht => ?_⟩
        have O5 := O4.frz (o := .tup [.str "gave", .str a, .ref p3]) ht
        have sn := same_new (o := .tup [.str "gave", .str a, .ref p3]) (O4.n.free ht)
        walk_at "rd"
        refine x_append (O5.get 0) (sz_lt (by omega)) ?_
        refine ⟨"gave", _, _, _, _, _, _, rfl, ((sN.trans s2).trans sn4).trans sn, ?_, hsc⟩
        rw [vs_gave]
        exact .inl ⟨vs ++ [V.ref t], ⟨by decide +kernel, by decide +kernel, by decide +kernel⟩, rfl, by rw [List.length_append]; show _ + 1 ≤ _; omega, dpAll_app (dpAll_mono (sn4.trans sn) dvs) (.cons (.tup (SqT.of upd_same) (.cons (.str _) (.cons (.str _) (.cons (dp_mono sn dn) .nil)))) .nil), O5.put 0 (u := .lst (vs ++ [V.ref t]))⟩
      have g4 := of_decide_eq_false g
      walk_at "rd"
      rw [dec_strV]
      refine x_ite (fun g => ?_) (fun g => ?_)
      · -- came
        have g := of_decide_eq_true g
        subst g
        rw [ls_came] at hstd
        obtain ⟨a, r', rfl, hnr⟩ := form_seen hstd
        obtain ⟨N2, vs, s2, hvl, dvs, O⟩ := I.top (may_top hmay (by decide +kernel))
        walk_at "rd"
        refine ⟨sz_lit (n := 0), fun M hM => ?_⟩
        replace hWI := (same_new (o := .lst []) hM).seq hWI
        replace O := O.new (o := .lst []) hM
        generalize upd H5 M (.lst []) = H5b at O hWI ⊢
        walk_at "rd"
        refine x_tyL (SqL.of (O.get 1)) ?_
        walk_at "rd"
        refine a_ixL hWI (ixS (i := 1) rfl) ?_
        walk_at "rd"
        refine a_slL hWI fun p2 hp2 => ?_
        rw [List.map_cons, List.map_cons, cut_tail2]
        have O3 := O.ext (same_new (o := .lst (r'.map V.str)) hp2)
        have hp2' : (upd H5b p2 (.lst (r'.map V.str))) p2 = some (.lst (r'.map V.str)) := upd_same
        generalize upd H5b p2 (.lst (r'.map V.str)) = H6 at O3 hp2' ⊢
        walk_at "rd"
        refine ⟨p2, r', rfl, SqL.of hp2', by simp only [List.length_cons] at hrl2; omega, all_num hnr, fun p3 H7 hp3 s3 hp3' => ?_⟩
        have O4 := Own.one O3 hp3 s3 hp3'
        have sn4 := same_new (o := .lst ((r'.map wordInt).map V.int)) (O3.n.free hp3)
        have dn : Dp K (upd N2 p3 (.lst ((r'.map wordInt).map V.int))) (.ref p3) (numsP r') := .lst (SqL.of upd_same) (dp_intP r')
        generalize upd N2 p3 (.lst ((r'.map wordInt).map V.int)) = N4 at O4 sn4 dn
        walk_at "rd"
        refine ⟨sz_lit (n := 4), fun t ht => ?_⟩
        have O5 := O4.frz (o := .tup [.str "came", .str a, .ref p3, .ref M]) ht
        have sn := same_new (o := .tup [.str "came", .str a, .ref p3, .ref M]) (O4.n.free ht)
        walk_at "rd"
        refine x_append (O5.get 1) (sz_lt (by omega)) ?_
        refine ⟨"came", _, _, _, _, _, _, rfl, ((sN.trans s2).trans sn4).trans sn, ?_, hsc⟩
        rw [vs_came]
        exact .inr (.inl ⟨vs, a, numsP r', [], t, .ref p3, M, [], .inl rfl, rfl, by omega, Nat.zero_le _, rfl, dpAll_mono (sn4.trans sn) dvs, upd_same, dp_mono sn dn, .nil, O5.put 1 (u := .lst (vs ++ [V.ref t]))⟩)
      have g5 := of_decide_eq_false g
      walk_at "rd"
      rw [dec_strV]
      refine x_ite (fun g => ?_) (fun g => ?_)
      · -- new
        have g := of_decide_eq_true g
        subst g
        obtain ⟨w1, w2, w3, w4, w5, w6, w7, rfl, hall⟩ := st_new hstd
        have nu := all_num hall
        have hbn := may_new hmay
        obtain ⟨vs, a, ns, hs, t, nl, M, hv, _, hcur, hvl, hhv, rfl, dvs, ht, d2, d3, O⟩ : VIb K H F b st vh i N1 H5 := by
          rcases I with ⟨vs, h, _⟩ | h | ⟨vs, z, PL, e, _⟩ | ⟨vs, z, PL, e, _⟩ | ⟨vs, z, PL, e, _⟩
          · rcases hbn with e | e
            · exact absurd e h.2.1
            · exact absurd e h.2.2
          · exact h
          all_goals exfalso; rcases hbn with e2 | e2 <;> rw [e2] at e <;> revert e <;> decide +kernel
        walk_at "rd"
        refine x_tyL (SqL.of (O.get 0)) ?_
        walk_at "rd"
        refine a_ixL hWI (ixS (i := 1) rfl) ?_
        walk_at "rd"
        refine x_intS (nu w1 (by simp)).eq (nu w1 (by simp)).2 ?_
        walk_at "rd"
        refine a_slL hWI fun p2 hp2 => ?_
        rw [List.map_cons, List.map_cons, cut_tail2]
        have O3 := O.ext (same_new (o := .lst ([w2, w3, w4, w5, w6, w7].map V.str)) hp2)
        replace hWI := (same_new (o := .lst ([w2, w3, w4, w5, w6, w7].map V.str)) hp2).seq hWI
        have hp2' : (upd H5 p2 (.lst ([w2, w3, w4, w5, w6, w7].map V.str))) p2 = some (.lst ([w2, w3, w4, w5, w6, w7].map V.str)) := upd_same
        generalize upd H5 p2 (.lst ([w2, w3, w4, w5, w6, w7].map V.str)) = H6 at O3 hp2' hWI ⊢
        walk_at "rd"
        refine ⟨p2, w2, w3, w4, w5, [w6, w7], rfl, SqL.of hp2', nu w2 (by simp), nu w3 (by simp), nu w4 (by simp), nu w5 (by simp), fun p3 hp3 => ?_⟩
        have O4 := O3.frz (o := .tup [.int (wordInt w2), .int (wordInt w3), .int (wordInt w4), .int (wordInt w5)]) hp3
        have sn4 := same_new (o := .tup [.int (wordInt w2), .int (wordInt w3), .int (wordInt w4), .int (wordInt w5)]) (O3.n.free hp3)
        replace hWI := (same_new (o := .tup [.int (wordInt w2), .int (wordInt w3), .int (wordInt w4), .int (wordInt w5)]) hp3).seq hWI
        have df : Dp K (upd N1 p3 (.tup [.int (wordInt w2), .int (wordInt w3), .int (wordInt w4), .int (wordInt w5)])) (.ref p3) (fldP [w2, w3, w4, w5]) := .tup (SqT.of upd_same) (.cons (.int _) (.cons (.int _) (.cons (.int _) (.cons (.int _) .nil))))
        generalize upd H6 p3 _ = H7 at O4 hWI ⊢
        generalize upd N1 p3 _ = N4 at O4 sn4 df
        walk_at "rd"
        refine a_ixL hWI (ixS (i := 6) rfl) ?_
        walk_at "rd"
        refine x_intS (nu w6 (by simp)).eq (nu w6 (by simp)).2 ?_
        walk_at "rd"
        refine a_ixL hWI (ixS (i := 7) rfl) ?_
        walk_at "rd"
        rw [dec_strV]
        refine ⟨sz_lit (n := 4), fun t8 ht8 => ?_⟩
        have O5 := O4.frz (o := .tup [.int (wordInt w1), .ref p3, .int (wordInt w6), .bl (decide (w7 = "1"))]) ht8
        have sn := same_new (o := .tup [.int (wordInt w1), .ref p3, .int (wordInt w6), .bl (decide (w7 = "1"))]) (O4.n.free ht8)
        walk_at "rd"
        refine x_append (O5.get 0) (sz_lt (by omega)) ?_
        have snn := sn4.trans sn
        refine ⟨"new", _, _, _, _, _, _, rfl, sN.trans snn, ?_, hsc⟩
        rw [vs_new hcur]
        refine .inr (.inl ⟨vs, a, ns, _, t, nl, M, hv ++ [V.ref t8], .inr rfl, rfl, by omega, by rw [List.length_append]; show _ + 1 ≤ _; omega, rfl, dpAll_mono snn dvs, snn _ _ ht, dp_mono snn d2, ?_, O5.put 0 (u := .lst (hv ++ [V.ref t8]))⟩)
        exact dpAll_app (dpAll_mono snn d3) (.cons (.tup (SqT.of upd_same) (.cons (.int _) (.cons (dp_mono sn df) (.cons (.int _) (.cons (.bl _) .nil))))) .nil)
      have g6 := of_decide_eq_false g
      walk_at "rd"
      rw [dec_strV]
      refine x_ite (fun g => ?_) (fun g => ?_)
      · -- pause
        have g := of_decide_eq_true g
        subst g
        obtain ⟨N2, vs, s2, hvl, dvs, O⟩ := I.top (may_top hmay (by decide +kernel))
        walk_at "rd"
        refine a_slL hWI fun R hR => ?_
        rw [List.map_cons, cut_tail]
        have sR := same_new (o := .lst (r.map V.str)) (O.n.free hR)
        replace O := O.frz (o := .lst (r.map V.str)) hR
        have dR : Dp K (upd N2 R (.lst (r.map V.str))) (.ref R) (strsD r) := dp_strs (SqL.of upd_same)
        generalize upd H5 R (.lst (r.map V.str)) = HR at O ⊢
        generalize upd N2 R (.lst (r.map V.str)) = NR at O sR dR
        walk_at "rd"
        refine ⟨sz_lit (n := 0), fun S hS => ?_⟩
        replace O := O.new (o := .lst []) hS
        generalize upd HR S (.lst []) = HS at O ⊢
        walk_at "rd"
        refine ⟨sz_lit (n := 0), fun A hA => ?_⟩
        replace O := O.new (o := .lst []) hA
        generalize upd HS A (.lst []) = HA at O ⊢
        walk_at "rd"
        refine ⟨sz_lit (n := 0), fun B hB => ?_⟩
        replace O := O.new (o := .lst []) hB
        generalize upd HA B (.lst []) = HB at O ⊢
        walk_at "rd"
        refine ⟨sz_lit (n := 0), fun C hC => ?_⟩
        replace O := O.new (o := .lst []) hC
        generalize upd HB C (.lst []) = HC at O ⊢
        walk_at "rd"
        refine ⟨sz_lit (n := 0), fun D hD => ?_⟩
        replace O := O.new (o := .lst []) hD
        generalize upd HC D (.lst []) = HD at O ⊢
        walk_at "rd"
        refine ⟨sz_lit (n := 6), fun PL hPL => ?_⟩
        have sP := same_new (o := .lst [.ref R, .ref S, .ref A, .ref B, .ref C, .ref D]) (O.n.free hPL)
        replace O := O.frz (o := .lst [.ref R, .ref S, .ref A, .ref B, .ref C, .ref D]) hPL
        walk_at "rd"
        have O' := Own.perm O (perm6 _ _ _ _ _ _)
        refine ⟨"pause", _, _, _, _, _, _, rfl, ((sN.trans s2).trans sR).trans sP, ?_, hsc⟩
        rw [vs_pause]
        exact .inr (.inr (.inl ⟨vs, ⟨strsD r, [], [], [], [], []⟩, PL, rfl, rfl, by omega, rfl, ⟨rfl, rfl, rfl, rfl⟩, ⟨Nat.zero_le _, fun _ h => (List.not_mem_nil h).elim⟩, dpAll_mono (sR.trans sP) dvs,
          R, S, A, B, C, D, [], [], [], [], [], ⟨upd_same, dp_mono sP dR, .nil, .nil, .nil, .nil⟩, .nil, O'⟩))
      have g7 := of_decide_eq_false g
      walk_at "rd"
      rw [dec_strV]
      have hin : w0 ∉ l_TOP_WORDS := by
        show w0 ∉ ([("made" : Str), "went", "heard", "pause", "gave", "came"] : List Str)
        simp only [List.mem_cons, List.not_mem_nil, or_false, not_or]
        exact ⟨g1, g2, g3, g7, g4, g5⟩
      have hmi := may_in hmay g6 hin
      refine x_ite (fun g => ?_) (fun g => ?_)
      · -- told
        have g := of_decide_eq_true g
        subst g
        rw [ls_told] at hstd
        have hbs : b = "sealed" := by
          rcases hmi with ⟨e, _⟩ | ⟨e, _⟩ | ⟨e, _⟩ | ⟨e, _⟩ | ⟨e, _⟩ | ⟨e, _⟩ | ⟨_, e⟩
          all_goals first | exact e | (exfalso; revert e; decide +kernel)
        subst hbs
        obtain ⟨vs, zz, PL, _, hcur, hvl, rfl, hsz, dvs, ⟨R, S, A, B, C, D, av, bv, cv, dvv, c, dS, O⟩⟩ : VI2 K H F "sealed" st vp i N1 H5 := by
          rcases I with ⟨vs, h, _⟩ | ⟨vs, a, ns, hs, t, nl, M, hv, e, _⟩ | ⟨vs, z, PL, e, _⟩ | ⟨vs, z, PL, e, _⟩ | h
          · exact absurd h.1 (by decide +kernel)
          · exfalso; revert e; decide +kernel
          · exfalso; revert e; decide +kernel
          · exfalso; revert e; decide +kernel
          · exact h
        have f1 := fix_mono O
        have f2 := fix_mono O.fix
        have f3 := fix_mono O.fix.fix
        have f4 := fix_mono O.fix.fix.fix
        have O5 := O.fix.fix.fix.fix
        have dA : Dp K (upd (upd (upd (upd N1 A (.lst av)) B (.lst bv)) C (.lst cv)) D (.lst dvv)) (.ref A) (.list zz.gone) := .lst (SqL.of (f4 _ _ (f3 _ _ (f2 _ _ upd_same)))) (dpAll_mono (f1.trans (f2.trans (f3.trans f4))) c.gone)
        have dB : Dp K (upd (upd (upd (upd N1 A (.lst av)) B (.lst bv)) C (.lst cv)) D (.lst dvv)) (.ref B) (.list zz.called) := .lst (SqL.of (f4 _ _ (f3 _ _ upd_same))) (dpAll_mono (f1.trans (f2.trans (f3.trans f4))) c.called)
        have dC : Dp K (upd (upd (upd (upd N1 A (.lst av)) B (.lst bv)) C (.lst cv)) D (.lst dvv)) (.ref C) (.list zz.moved) := .lst (SqL.of (f4 _ _ upd_same)) (dpAll_mono (f1.trans (f2.trans (f3.trans f4))) c.moved)
        have dD : Dp K (upd (upd (upd (upd N1 A (.lst av)) B (.lst bv)) C (.lst cv)) D (.lst dvv)) (.ref D) (.list zz.sealed) := .lst (SqL.of upd_same) (dpAll_mono (f1.trans (f2.trans (f3.trans f4))) c.sealed)
        have sF := f1.trans (f2.trans (f3.trans f4))
        replace c := c.mono sF
        replace dS := dp_mono sF dS
        replace dvs := dpAll_mono sF dvs
        generalize upd (upd (upd (upd N1 A (.lst av)) B (.lst bv)) C (.lst cv)) D (.lst dvv) = N2 at O5 dA dB dC dD sF c dS dvs
        walk_at "rd"
        refine a_slL hWI fun p2 hp2 => ?_
        rw [List.map_cons, cut_tail]
        replace O5 := O5.ext (same_new (o := .lst (r.map V.str)) hp2)
        have hp2' : (upd H5 p2 (.lst (r.map V.str))) p2 = some (.lst (r.map V.str)) := upd_same
        generalize upd H5 p2 (.lst (r.map V.str)) = H6 at O5 hp2' ⊢
        walk_at "rd"
        refine ⟨p2, r, rfl, SqL.of hp2', by omega, fun y hy => hwd y (List.mem_cons_of_mem _ hy), hstd, fun vt Nt H7 Ot dt => ?_⟩
        have O6 := O5.call1 Ot
        have s6 := uni_l (A := N2) (B := Nt)
        replace dt := dp_mono (O5.uni_new Ot.nf) dt
        replace c := c.mono s6
        replace dS := dp_mono s6 dS
        replace dA := dp_mono s6 dA
        replace dB := dp_mono s6 dB
        replace dC := dp_mono s6 dC
        replace dD := dp_mono s6 dD
        replace dvs := dpAll_mono s6 dvs
        replace sF := sF.trans s6
        generalize uni N2 Nt = N3 at O6 dt c dS dA dB dC dD dvs sF
        have hPL := O6.n _ _ c.pl
        walk_at "rd"
        refine x_tyL (SqL.of (O6.get 0)) ?_
        walk_at "rd"
        refine a_ixL (SqL.of hPL) (atI_nat (j := 0) rfl) ?_
        walk_at "rd"
        refine a_ixL (SqL.of hPL) (atI_nat (j := 1) rfl) ?_
        walk_at "rd"
        refine a_ixL (SqL.of hPL) (atI_nat (j := 2) rfl) ?_
        walk_at "rd"
        refine a_ixL (SqL.of hPL) (atI_nat (j := 3) rfl) ?_
        walk_at "rd"
        refine a_ixL (SqL.of hPL) (atI_nat (j := 4) rfl) ?_
        walk_at "rd"
        refine a_ixL (SqL.of hPL) (atI_nat (j := 5) rfl) ?_
        walk_at "rd"
        refine ⟨sz_lit (n := 8), fun t ht => ?_⟩
        have O7 := O6.frz (o := .tup [.str "pause", .ref R, .ref S, .ref A, .ref B, .ref C, .ref D, vt]) ht
        have sn := same_new (o := .tup [.str "pause", .ref R, .ref S, .ref A, .ref B, .ref C, .ref D, vt]) (O6.n.free ht)
        walk_at "rd"
        refine x_append (O7.get 0) (sz_lt (by omega)) ?_
        refine ⟨"told", _, _, _, _, _, _, rfl, (sN.trans sF).trans sn, ?_, hsc⟩
        rw [vs_told hcur]
        exact .inl ⟨vs ++ [V.ref t], ⟨by decide +kernel, by decide +kernel, by decide +kernel⟩, rfl, by rw [List.length_append]; show _ + 1 ≤ _; omega,
          dpAll_app (dpAll_mono sn dvs) (.cons (.tup (SqT.of upd_same) (.cons (.str _) (.cons (dp_mono sn c.rooms) (.cons (dp_mono sn dS) (.cons (dp_mono sn dA) (.cons (dp_mono sn dB) (.cons (dp_mono sn dC) (.cons (dp_mono sn dD) (.cons (dp_mono sn dt) .nil))))))))) .nil),
          O7.put 0 (u := .lst (vs ++ [V.ref t]))⟩
      have g8 := of_decide_eq_false g
      walk_at "rd"
      have hv1 : (b = "seen" ∨ b = "cell") → VI1 K H F b st vp i N1 H5 := fun hb => by
        rcases I with ⟨vs, h, _⟩ | ⟨vs, a, ns, hs, t, nl, M, hv, e, _⟩ | ⟨vs, z, PL, e, _⟩ | h | ⟨vs, z, PL, e, _⟩
        · rcases hb with rfl | rfl
          · exact absurd h.1 (by decide +kernel)
          · exact absurd h.1 (by decide +kernel)
        · exfalso; rcases hb with rfl | rfl <;> revert e <;> decide +kernel
        · exfalso; rcases hb with rfl | rfl <;> revert e <;> decide +kernel
        · exact h
        · exfalso; rcases hb with rfl | rfl <;> revert e <;> decide +kernel
      rcases hmi with ⟨rfl, hb⟩ | ⟨rfl, hb⟩ | ⟨rfl, hb⟩ | ⟨rfl, hbp⟩ | ⟨rfl, hbp⟩ | ⟨rfl, hbp⟩ | ⟨e, _⟩
      · -- seen
        obtain ⟨a, r', rfl, _, _⟩ := stands_seen hstd
        obtain ⟨N2, vs, zz, PL, s2, hcur, hvl, hvp, hem, hsh, dvs, pv⟩ : ∃ N2 vs zz PL, Same N1 N2 ∧ st.cur = .pz zz ∧ vs.length < i ∧ vp = .ref PL ∧ Emp zz ∧ ShB zz i ∧ DpAll K N2 vs st.done ∧ PV0 K H N2 PL F vs zz H5 := by
          rcases hb with rfl | hb
          · rcases I with ⟨vs, h, _⟩ | ⟨vs, a, ns, hs, t, nl, M, hv, e, _⟩ | ⟨vs, z, PL, _, h2, h3, h4, h5, h6, h7, p⟩ | ⟨vs, z, PL, e, _⟩ | ⟨vs, z, PL, e, _⟩
            · exact absurd h.1 (by decide +kernel)
            · exfalso; revert e; decide +kernel
            · exact ⟨N1, vs, z, PL, Same.refl _, h2, h3, h4, h5, h6, h7, p⟩
            · exfalso; revert e; decide +kernel
            · exfalso; revert e; decide +kernel
          · obtain ⟨vs, z, PL, _, h2, h3, h4, h5, h6, h7, p⟩ := hv1 hb
            obtain ⟨N2, s2, p2⟩ := p.close
            exact ⟨N2, vs, z, PL, s2, h2, h3, h4, h5, h6, dpAll_mono s2 h7, p2⟩
        subst hvp
        refine ⟨PL, W, "seen", a :: r', H, N2, F, vs, zz, rfl, hWI, hstd, hrl2, hwd, .inl ⟨rfl, pv, by have := hsh.1; omega, fun N3 H6 s3 pv2 => ?_⟩⟩
        refine ⟨"seen", _, _, _, _, _, _, rfl, (sN.trans s2).trans s3, ?_, hsc⟩
        rw [vs_part hcur (by simp), step_seen]
        exact .inr (.inr (.inr (.inl ⟨vs, _, PL, .inl rfl, rfl, by omega, rfl, hem, shb_seen hsh, dpAll_mono s3 dvs, pv2⟩)))
      · -- cell
        obtain ⟨c0, c1, c2, c3, c4, rfl, _⟩ := stands_cell hstd
        obtain ⟨vs, zz, PL, _, hcur, hvl, rfl, hem, hsh, dvs, pv⟩ := hv1 hb
        have hshown : ∃ pre last, zz.shown = pre ++ [last] := by
          obtain ⟨R, S, A, B, C, D, av, bv, cv, dv, sv, pre, last, t, nl, hl, hv, c, e', _⟩ := pv
          exact ⟨pre, last, e'⟩
        obtain ⟨pre, last, hshown⟩ := hshown
        have hcf := cell_facts (a := c0) (r := [c1, c2, c3, c4]) hshown hsh hem
        refine ⟨PL, W, "cell", _, H, N1, F, vs, zz, rfl, hWI, hstd, hrl2, hwd, .inr (.inl ⟨rfl, pv, fun s hs => by have := hsh.2 s hs; omega, fun N3 H6 s3 pv2 => ?_⟩)⟩
        refine ⟨"cell", _, _, _, _, _, _, rfl, sN.trans s3, ?_, hsc⟩
        rw [vs_part hcur (by simp), step_cell]
        exact .inr (.inr (.inr (.inl ⟨vs, _, PL, .inr rfl, rfl, by omega, rfl, hcf.2, hcf.1, dpAll_mono s3 dvs, pv2⟩)))
      · -- gone
        obtain ⟨vs, zz, PL, _, hcur, hvl, rfl, hem, hsh, dvs, pv⟩ := hv1 hb
        obtain ⟨N2, s2, pv⟩ := pv.close
        obtain ⟨N3, s3, pv⟩ := pv.close
        obtain ⟨e1, e2, e3, e4⟩ := id hem
        refine ⟨PL, W, "gone", r, H, N3, F, vs, zz, rfl, hWI, hstd, hrl2, hwd, .inr (.inr ⟨.inl rfl, pv, ⟨by rw [e1]; exact Nat.zero_le _, by rw [e2]; exact Nat.zero_le _, by rw [e3]; exact Nat.zero_le _, by rw [e4]; exact Nat.zero_le _⟩, fun N4 H6 s4 pv2 => ?_⟩)⟩
        refine ⟨"gone", _, _, _, _, _, _, rfl, ((sN.trans s2).trans s3).trans s4, ?_, hsc⟩
        rw [vs_part hcur (by simp), step_part (by decide +kernel) (by decide +kernel)]
        exact .inr (.inr (.inr (.inr ⟨vs, _, PL, .inl rfl, rfl, by omega, rfl, szb_gone hem hrl2, dpAll_mono ((s2.trans s3).trans s4) dvs, pv2⟩)))
      · subst hbp
        obtain ⟨vs, zz, PL, _, hcur, hvl, rfl, hsz, dvs, pv⟩ : VI2 K H F "gone" st vp i N1 H5 := by
          rcases I with ⟨vs, h, _⟩ | ⟨vs, a, ns, hs, t, nl, M, hv, e, _⟩ | ⟨vs, z, PL, e, _⟩ | ⟨vs, z, PL, e, _⟩ | h
          · exact absurd h.1 (by decide +kernel)
          · exfalso; revert e; decide +kernel
          · exfalso; revert e; decide +kernel
          · exfalso; revert e; decide +kernel
          · exact h
        have hb4 := hsz.1
        refine ⟨PL, W, "called", r, H, N1, F, vs, zz, rfl, hWI, hstd, hrl2, hwd, .inr (.inr ⟨.inr (.inl rfl), pv, ⟨by omega, by omega, by omega, by omega⟩, fun N3 H6 s3 pv2 => ?_⟩)⟩
        refine ⟨"called", _, _, _, _, _, _, rfl, sN.trans s3, ?_, hsc⟩
        rw [vs_part hcur (by simp), step_part (by decide +kernel) (by decide +kernel)]
        exact .inr (.inr (.inr (.inr ⟨vs, _, PL, .inr (.inl rfl), rfl, by omega, rfl, szb_called hsz hrl2, dpAll_mono s3 dvs, pv2⟩)))
      · subst hbp
        obtain ⟨vs, zz, PL, _, hcur, hvl, rfl, hsz, dvs, pv⟩ : VI2 K H F "called" st vp i N1 H5 := by
          rcases I with ⟨vs, h, _⟩ | ⟨vs, a, ns, hs, t, nl, M, hv, e, _⟩ | ⟨vs, z, PL, e, _⟩ | ⟨vs, z, PL, e, _⟩ | h
          · exact absurd h.1 (by decide +kernel)
          · exfalso; revert e; decide +kernel
          · exfalso; revert e; decide +kernel
          · exfalso; revert e; decide +kernel
          · exact h
        have hb4 := hsz.1
        refine ⟨PL, W, "moved", r, H, N1, F, vs, zz, rfl, hWI, hstd, hrl2, hwd, .inr (.inr ⟨.inr (.inr (.inl rfl)), pv, ⟨by omega, by omega, by omega, by omega⟩, fun N3 H6 s3 pv2 => ?_⟩)⟩
        refine ⟨"moved", _, _, _, _, _, _, rfl, sN.trans s3, ?_, hsc⟩
        rw [vs_part hcur (by simp), step_part (by decide +kernel) (by decide +kernel)]
        exact .inr (.inr (.inr (.inr ⟨vs, _, PL, .inr (.inr (.inl rfl)), rfl, by omega, rfl, szb_moved hsz hrl2, dpAll_mono s3 dvs, pv2⟩)))
      · subst hbp
        obtain ⟨vs, zz, PL, _, hcur, hvl, rfl, hsz, dvs, pv⟩ : VI2 K H F "moved" st vp i N1 H5 := by
          rcases I with ⟨vs, h, _⟩ | ⟨vs, a, ns, hs, t, nl, M, hv, e, _⟩ | ⟨vs, z, PL, e, _⟩ | ⟨vs, z, PL, e, _⟩ | h
          · exact absurd h.1 (by decide +kernel)
          · exfalso; revert e; decide +kernel
          · exfalso; revert e; decide +kernel
          · exfalso; revert e; decide +kernel
          · exact h
        have hb4 := hsz.1
        refine ⟨PL, W, "sealed", r, H, N1, F, vs, zz, rfl, hWI, hstd, hrl2, hwd, .inr (.inr ⟨.inr (.inr (.inr rfl)), pv, ⟨by omega, by omega, by omega, by omega⟩, fun N3 H6 s3 pv2 => ?_⟩)⟩
        refine ⟨"sealed", _, _, _, _, _, _, rfl, sN.trans s3, ?_, hsc⟩
        rw [vs_part hcur (by simp), step_part (by decide +kernel) (by decide +kernel)]
        exact .inr (.inr (.inr (.inr ⟨vs, _, PL, .inr (.inr (.inr rfl)), rfl, by omega, rfl, szb_sealed hsz hrl2, dpAll_mono s3 dvs, pv2⟩)))
      · exact absurd e g8
    · rintro σ H5 ⟨b, N1, vp, vh, x4, x5, x6, rfl, sN, I, hsc⟩
      have exl : xs.length = rows.length := dpl_len dxs
      have ebl : b = bl := by
        rw [List.drop_eq_nil_of_le (by rw [exl, erows, List.length_map]; exact Nat.le_refl _)] at hsc
        exact Except.ok.inj hsc
      subst ebl
      rw [exl, List.take_length] at I
      obtain ⟨N2, vs, s2, hvl, dvs, O⟩ := I.top hbl
      walk_at "rd"
      exact q _ _ _ _ _ hview O.fix upd_same (dpAll_mono (fix_mono O) dvs)
end
end K97


set_option maxRecDepth 100000
set_option maxHeartbeats 4000000
namespace K97
open PySem PySem.Spec PyProof.Rows L2 TL NB
local macro_rules | `(tactic| walk_at "rd") => `(tactic| repeat (first
  | (with_reducible refine x_seq ?_) | (with_reducible refine x_asg ?_) | (with_reducible refine x_gName ?_) | (with_reducible refine x_ret ?_) | (with_reducible refine x_drop ?_) | (with_reducible refine x_ifS ?_)
  | (with_reducible refine x_op ?_) | (with_reducible refine x_c ?_) | ((with_reducible refine' x_var ?k1 ?_); (case k1 => with_unfolding_all rfl)) | (with_reducible refine x_cb ?_) | (with_reducible refine x_call0 ?_) | (with_reducible refine x_cons ?_) | (with_reducible refine x_nil ?_)
  | (with_reducible refine x_test ?_) | (with_reducible refine x_B ?_) | (with_reducible refine x_bl ?_) | (with_reducible refine x_and ?_) | (with_reducible refine x_or ?_) | (with_reducible refine x_not ?_)
  | (with_reducible refine x_andV ?_) | (with_reducible refine x_orV ?_) | (with_reducible refine x_notV ?_) | (with_reducible refine x_if ?_) | (with_reducible refine x_isN ?_) | (with_reducible refine x_notN ?_)
  | (with_reducible refine x_tup ?_) | (with_reducible refine x_lst ?_) | (with_reducible refine x_sl ?_) | (with_reducible refine x_noPart ?_) | (with_reducible refine x_part ?_) | (with_reducible refine x_int ?_)
  | (with_reducible refine x_bm ?_) | (with_reducible refine x_m1 ?_) | (with_reducible refine x_tyS ?_) | (with_reducible refine x_gNil ?_) | (with_reducible refine x_gCons ?_) | (with_reducible refine x_gSub ?_) | (with_reducible refine x_next ?_) | (with_reducible refine x_brk ?_)
  | (with_reducible refine x_slStep ?_) | (with_reducible refine x_lc ?_) | (with_reducible refine x_for ?_) | (with_reducible refine x_iL ?_) | (with_reducible refine x_iR1 ?_) | (with_reducible refine x_iR3 ?_) | (with_reducible refine x_iS ?_) | (with_reducible refine x_ref ?_) | (with_reducible refine x_yes ?_)
  | (with_reducible refine a_addI ?_) | (with_reducible refine x_I0 ?_) | (with_reducible refine a_eq rfl ?_) | (with_reducible refine a_ne rfl ?_) | (with_reducible refine a_inS ?_) | (with_reducible refine a_ninS ?_) | (with_reducible refine x_strS ?_) | (with_reducible refine x_intI ?_) | (with_reducible refine x_iB ?_) | (with_reducible refine x_iT ?_)))

section
variable {P : Program} {w : World} {K : PySem.W.Frag} {mg : Str → Option Value} {base : Heap}
/-! ### read, or what was told of it -/
theorem pe_callOS {X : Cx} {CX : CXT} {k : Nat} {x : Str} {ps : List Str} {sp : Sp} {E : L2.St → XK} {e : Expr} {es : List Expr} {t : TA} {p pos : Pos} (F : OkF X.prog X.w X.K X.mg X.base CX k x ps sp) (hr : Room k X.A) (hg : Gl X x) (hx : ∀ σ, PassesAt CX X σ (E σ)) (ha : PA X (e :: es) t)
    (hdb : (x == ("__debug__" : Str)) = false := by decide) (he : starEach (e :: es) X.env = (false, eval e X.env) :: starEach es X.env := by rfl) (hpl : (backTo pos (starEach es X.env)).any (·.1) = false := by rfl) : PE X (.Call (.Name x p) (e :: es) [] pos) (tCallS sp E t) := by
  obtain ⟨fd, hb, hF⟩ := F.ok
  exact pe_callS hF hr hg F.g F.kp hb hx ha hdb he hpl
theorem x_callS {σ : L2.St} {H : Hp} {Q : VK} {sp : Sp} {E : L2.St → XK} {t : TA} (h : t σ H fun vs H1 => sp vs H1 Q (E σ)) : tCallS sp E t σ H Q := h
theorem x_xf {a : Addr} {cls : Value} {d : Option Addr} {C : Addr} {f : Str} {te : TE} {σ : L2.St} {H : Hp} {Q : VK} (h : te σ H fun x H1 => x = .ref a ∧ cls = .ref C ∧ ∃ (dd : Addr) (fs : List (Str × V)) (v : V), d = some dd ∧ H1 dd = some (.xd fs) ∧ fs.lookup f = some v ∧ Q v H1) : tXf a cls d C f te σ H Q := h
def unitS (b : Bool) : Str := if b = true then "view" else "paper"
def badD (u : Str) (k : Nat) : PyData := .tuple [.str u, .int k, .int 1, .str "row"]
def readAny (b : Bool) (z : Str) : Except Nat PyData := if b = true then (match readView z with | .error k => .error k | .ok ds => .ok (.list ds)) else (match readPaper z with | .error k => .error k | .ok f => .ok (papID f))
def resD (b : Bool) (z : Str) : PyData := match readAny b z with
  | .error k => badD (unitS b) k
  | .ok d => d
def sp_law_read (K : PySem.W.Frag) : Sp := fun vs H Q _ => ∃ (z : Str) (b : Bool), vs = [.str z, .bl b] ∧ Tok90 z ∧ ∀ v N H', Own H N [] H' → Dp K N v (resD b z) → Q v H'
theorem sc_law_read : FnScope ["text", "view", "e"] ["text", "view"] (defScope s_law_read) := ⟨rfl, rfl, rfl, by decide +kernel, rfl, by decide +kernel, by decide +kernel⟩
theorem ok_law_read (T : Tx w K mg) : OkF P w K mg base CX0 8 "_law_read" ["text", "view"] (sp_law_read K) := by
  have G_view_from := ok_view_from (P := P) (base := base) T
  have G_paper_from := ok_paper_from (P := P) (base := base) T
  refine Tx.def0 T 32 rfl T.g_law_read sc_law_read (fun _ _ _ _ _ _ us hl => match us, hl with | [_, _], _ => rfl) (fun vs H Q E h => ?_) (fun f cdv A outer s H vs Q E hr h => ?_)
  · obtain ⟨z, b, rfl, hz, q⟩ := h; rfl
  · obtain ⟨z, b, rfl, hz, q⟩ := h
    refine ⟨_, (pss_one (ps_try_as (i := 2) rfl rfl sc_law_read.nd rfl rfl ⟨rfl, by decide, .inl T.g_BadText⟩ takes0 (fun W pn xe tk _ => (pss_one (ps_ret (pe_ifExp (pt_val (pv 1)) (pe_callOS G_view_from (hr.mono (by decide)) (by rfl) (fun σ => passAt tk σ) (pa_cons (pv 0) pa_nil)) (pe_callOS G_paper_from (hr.mono (by decide)) (by rfl) (fun σ => passAt tk σ) (pa_cons (pv 0) pa_nil)))))) (fun a oe cls d pn hz hf => (pss_one (ps_ret (pe_tup (pa_cons (pe_xf T.xf_BadText T.no_BadText_unit hz hf (pv 2)) (pa_cons (pe_xf T.xf_BadText T.no_BadText_line hz hf (pv 2)) (pa_cons (pe_xf T.xf_BadText T.no_BadText_column hz hf (pv 2)) (pa_cons (pe_xf T.xf_BadText T.no_BadText_what hz hf (pv 2)) pa_nil)))))))))), ?_⟩
    walk_at "rd"
    cases b with
    | true =>
      refine iteT ?_
      walk_at "rd"
      refine x_callS ?_
      walk_at "rd"
      refine ⟨z, rfl, hz, fun k hk => ?_, fun ds l vs N H' hk O hl dv => ?_⟩
      · intro d H' hd s
        refine ⟨true, T.exm_BadText, fun _ a ha => ?_, fun h => by cases h⟩
        walk_at "rd"
        refine x_xf ?_
        walk_at "rd"
        refine ⟨rfl, rfl, d, _, _, rfl, hd, (by rfl), ?_⟩
        walk_at "rd"
        refine x_xf ?_
        walk_at "rd"
        refine ⟨rfl, rfl, d, _, _, rfl, hd, (by rfl), ?_⟩
        walk_at "rd"
        refine x_xf ?_
        walk_at "rd"
        refine ⟨rfl, rfl, d, _, _, rfl, hd, (by rfl), ?_⟩
        walk_at "rd"
        refine x_xf ?_
        walk_at "rd"
        refine ⟨rfl, rfl, d, _, _, rfl, hd, (by rfl), ?_⟩
        walk_at "rd"
        refine ⟨sz_lit (n := 4), fun p hp => ?_⟩
        refine q _ _ _ (((Own.start H).ext s).frz hp) ?_
        have e : resD true z = badD "view" k := by
          unfold resD readAny
          simp only [if_true, hk, Bool.false_eq_true, if_false]
          rfl
        rw [e]
        exact .tup (SqT.of upd_same) (.cons (.str _) (.cons (.int _) (.cons (.int _) (.cons (.str _) .nil))))
      · have e : resD true z = (.list ds) := by
          unfold resD readAny
          simp only [if_true, hk, Bool.false_eq_true, if_false]
        exact q (.ref l) N H' O (by rw [e]; exact .lst (SqL.of hl) dv)
    | false =>
      refine iteF ?_
      walk_at "rd"
      refine x_callS ?_
      walk_at "rd"
      refine ⟨z, rfl, hz, fun k hk => ?_, fun ds v N H' hk O dv => ?_⟩
      · intro d H' hd s
        refine ⟨true, T.exm_BadText, fun _ a ha => ?_, fun h => by cases h⟩
        walk_at "rd"
        refine x_xf ?_
        walk_at "rd"
        refine ⟨rfl, rfl, d, _, _, rfl, hd, (by rfl), ?_⟩
        walk_at "rd"
        refine x_xf ?_
        walk_at "rd"
        refine ⟨rfl, rfl, d, _, _, rfl, hd, (by rfl), ?_⟩
        walk_at "rd"
        refine x_xf ?_
        walk_at "rd"
        refine ⟨rfl, rfl, d, _, _, rfl, hd, (by rfl), ?_⟩
        walk_at "rd"
        refine x_xf ?_
        walk_at "rd"
        refine ⟨rfl, rfl, d, _, _, rfl, hd, (by rfl), ?_⟩
        walk_at "rd"
        refine ⟨sz_lit (n := 4), fun p hp => ?_⟩
        refine q _ _ _ (((Own.start H).ext s).frz hp) ?_
        have e : resD false z = badD "paper" k := by
          unfold resD readAny
          simp only [if_true, hk, Bool.false_eq_true, if_false]
          rfl
        rw [e]
        exact .tup (SqT.of upd_same) (.cons (.str _) (.cons (.int _) (.cons (.int _) (.cons (.str _) .nil))))
      · have e : resD false z = papID ds := by
          unfold resD readAny
          simp only [if_true, hk, Bool.false_eq_true, if_false]
        exact q v N H' O (by rw [e]; exact dv)
end
end K97


set_option maxRecDepth 100000
set_option maxHeartbeats 4000000
namespace K97
open PySem PySem.Spec PyProof.Rows L2 TL NB
local macro_rules | `(tactic| walk_at "rd") => `(tactic| repeat (first
  | (with_reducible refine x_seq ?_) | (with_reducible refine x_asg ?_) | (with_reducible refine x_gName ?_) | (with_reducible refine x_ret ?_) | (with_reducible refine x_drop ?_) | (with_reducible refine x_ifS ?_)
  | (with_reducible refine x_op ?_) | (with_reducible refine x_c ?_) | ((with_reducible refine' x_var ?k1 ?_); (case k1 => with_unfolding_all rfl)) | (with_reducible refine x_cb ?_) | (with_reducible refine x_call0 ?_) | (with_reducible refine x_cons ?_) | (with_reducible refine x_nil ?_)
  | (with_reducible refine x_test ?_) | (with_reducible refine x_B ?_) | (with_reducible refine x_bl ?_) | (with_reducible refine x_and ?_) | (with_reducible refine x_or ?_) | (with_reducible refine x_not ?_)
  | (with_reducible refine x_andV ?_) | (with_reducible refine x_orV ?_) | (with_reducible refine x_notV ?_) | (with_reducible refine x_if ?_) | (with_reducible refine x_isN ?_) | (with_reducible refine x_notN ?_)
  | (with_reducible refine x_tup ?_) | (with_reducible refine x_lst ?_) | (with_reducible refine x_sl ?_) | (with_reducible refine x_noPart ?_) | (with_reducible refine x_part ?_) | (with_reducible refine x_int ?_)
  | (with_reducible refine x_bm ?_) | (with_reducible refine x_m1 ?_) | (with_reducible refine x_tyS ?_) | (with_reducible refine x_gNil ?_) | (with_reducible refine x_gCons ?_) | (with_reducible refine x_gSub ?_) | (with_reducible refine x_next ?_) | (with_reducible refine x_brk ?_)
  | (with_reducible refine x_slStep ?_) | (with_reducible refine x_lc ?_) | (with_reducible refine x_for ?_) | (with_reducible refine x_iL ?_) | (with_reducible refine x_iR1 ?_) | (with_reducible refine x_iR3 ?_) | (with_reducible refine x_iS ?_) | (with_reducible refine x_ref ?_) | (with_reducible refine x_yes ?_)
  | (with_reducible refine a_addI ?_) | (with_reducible refine x_I0 ?_) | (with_reducible refine a_eq rfl ?_) | (with_reducible refine a_ne rfl ?_) | (with_reducible refine a_inS ?_) | (with_reducible refine a_ninS ?_) | (with_reducible refine x_strS ?_) | (with_reducible refine x_intI ?_) | (with_reducible refine x_iB ?_) | (with_reducible refine x_iT ?_)))

section
variable {P : Program} {w : World} {K : PySem.W.Frag} {mg : Str → Option Value} {base : Heap}
/-! ### the law's own order -/
theorem x_disp {trs : List (TE × TE)} {σ : L2.St} {H : Hp} {Q : VK} (h : ∀ p, H p = none → tPairs trs σ (upd H p (.dK [])) fun ps H2 => H2 p = some (.dK []) ∧ ∃ kvs : List (Key × V), ps = kvs.map (fun kv => (kV kv.1, kv.2)) ∧ kvs.length ≤ 15 ∧ Q (.ref p) (upd H2 p (.dK (mergeK [] kvs)))) : tDisp trs σ H Q := h
theorem x_din {ty td : TE} {σ : L2.St} {H : Hp} {Q : VK} (h : ty σ H fun y H1 => td σ H1 fun x H2 => ∃ a o, x = .ref a ∧ DGet H2 a y o ∧ Q (.bl o.isSome) H2) : tDIn ty td σ H Q := h
theorem x_dget {td ty : TE} {σ : L2.St} {H : Hp} {Q : VK} (h : td σ H fun x H1 => ty σ H1 fun y H2 => ∃ a v, x = .ref a ∧ DGet H2 a y (some v) ∧ Q v H2) : tDGet td ty σ H Q := h
theorem x_prC {tk tv : TE} {r : List (TE × TE)} {σ : L2.St} {H : Hp} {Q : List (V × V) → Hp → Prop} (h : tk σ H fun x H1 => tv σ H1 fun y H2 => tPairs r σ H2 fun ps H3 => Q ((x, y) :: ps) H3) : tPairs ((tk, tv) :: r) σ H Q := h
theorem x_prN {σ : L2.St} {H : Hp} {Q : List (V × V) → Hp → Prop} (h : Q [] H) : tPairs [] σ H Q := h
theorem vK_pos {x : Str} {v : V} {r : List (Key × V)} : valV ((.inr x, v) :: r) (.inr x) = some v := by
  unfold valV
  simp
theorem vK_neg {x y : Str} {v : V} {r : List (Key × V)} (h : ¬ y = x) : valV ((.inr x, v) :: r) (.inr y) = valV r (.inr y) := by
  unfold valV
  have : ¬ x = y := fun e => h e.symm
  simp [this]
def sp_law_follows : Sp := fun vs H Q _ => ∃ b z : Str, vs = [.str b, .str z] ∧ ∀ H', Same H H' → Q (.bl (mayFollow b z)) H'
theorem sc_law_follows : FnScope ["before", "word", "book"] ["before", "word"] (defScope s_law_follows) := ⟨rfl, rfl, rfl, by decide +kernel, rfl, by decide +kernel, by decide +kernel⟩
theorem ok_law_follows (T : Tx w K mg) : OkF P w K mg base CX0 1 "_law_follows" ["before", "word"] sp_law_follows := by
  refine Tx.def0 T 33 rfl T.g_law_follows sc_law_follows (fun _ _ _ _ _ _ us hl => match us, hl with | [_, _], _ => rfl) (fun vs H Q E h => ?_) (fun f cdv A outer s H vs Q E hr h => ?_)
  · obtain ⟨b, z, rfl, q⟩ := h; rfl
  · obtain ⟨b, z, rfl, q⟩ := h
    refine ⟨_, (pss_cons (ps_set (i := 2) sc_law_follows.nd rfl (by first | exact Or.inl rfl | exact Or.inr rfl) (pe_disp (pps_cons pe_str (pe_lst (pa_cons pe_str pa_nil)) (pps_cons pe_str (pe_lst (pa_cons pe_str (pa_cons pe_str (pa_cons pe_str pa_nil)))) (pps_cons pe_str (pe_lst (pa_cons pe_str (pa_cons pe_str (pa_cons pe_str pa_nil)))) (pps_cons pe_str (pe_lst (pa_cons pe_str pa_nil)) (pps_cons pe_str (pe_lst (pa_cons pe_str pa_nil)) pps_nil))))) (by rfl) (by rfl) (fun z => by cases z) (by decide)))
      (pss_cons (ps_asg (pe_lst (pa_cons pe_str pa_nil)) (pg_sub (pv 2) pe_str (set_dict (hu_of hr))))
      (pss_cons (ps_asg (pe_lst (pa_cons pe_str pa_nil)) (pg_sub (pv 2) pe_str (set_dict (hu_of hr))))
      (pss_cons (ps_if (pt_cmp (pc_din (hu_of hr) (pv 0) (pv 2)) (by rfl))
        (pss_one (ps_ret (pe_cmpR op_inG (pv 1) (pe_dget (hu_of hr) (pv 2) (pv 0) (fun _ _ => rfl)) (by rfl))))
        pss_nil)
      (pss_cons (ps_if (pt_cmpR (op_eqG hr.units) (pv 1) pe_str (nomark _))
        (pss_one (ps_ret (pe_cmpR op_inG (pv 0) (pe_tup (pa_cons pe_str (pa_cons pe_str pa_nil))) (by rfl))))
        pss_nil)
      (pss_one (ps_ret (pe_cmpR op_inG (pv 1) (pe_tup (pa_cons pe_str (pa_cons pe_str (pa_cons pe_str (pa_cons pe_str (pa_cons pe_str (pa_cons pe_str pa_nil))))))) (by rfl))))))))), ?_⟩
    walk_at "rd"
    refine x_disp fun p hp => ?_
    have O := (Own.start H).new (o := .dK []) hp
    generalize upd H p (.dK []) = H0 at O ⊢
    generalize ho0 = M0 at O
    refine x_prC ?_
    walk_at "rd"
    refine ⟨sz_lit (n := 1), fun a0 h0 => ?_⟩
    have s0 := same_new (o := .lst [V.str "seen"]) (O.n.free h0)
    replace O := O.frz (o := .lst [V.str "seen"]) h0
    have e0 : (upd M0 a0 (.lst [V.str "seen"])) a0 = some (.lst [V.str "seen"]) := upd_same
    generalize upd H0 a0 (.lst [V.str "seen"]) = H1 at O ⊢
    generalize upd M0 a0 (.lst [V.str "seen"]) = M1 at O s0 e0
    refine x_prC ?_
    walk_at "rd"
    refine ⟨sz_lit (n := 3), fun a1 h1 => ?_⟩
    have s1 := same_new (o := .lst [V.str "cell", V.str "seen", V.str "gone"]) (O.n.free h1)
    replace O := O.frz (o := .lst [V.str "cell", V.str "seen", V.str "gone"]) h1
    have e1 : (upd M1 a1 (.lst [V.str "cell", V.str "seen", V.str "gone"])) a1 = some (.lst [V.str "cell", V.str "seen", V.str "gone"]) := upd_same
    generalize upd H1 a1 (.lst [V.str "cell", V.str "seen", V.str "gone"]) = H2 at O ⊢
    generalize upd M1 a1 (.lst [V.str "cell", V.str "seen", V.str "gone"]) = M2 at O s1 e1
    replace e0 := s1 _ _ e0
    refine x_prC ?_
    walk_at "rd"
    refine ⟨sz_lit (n := 3), fun a2 h2 => ?_⟩
    have s2 := same_new (o := .lst [V.str "cell", V.str "seen", V.str "gone"]) (O.n.free h2)
    replace O := O.frz (o := .lst [V.str "cell", V.str "seen", V.str "gone"]) h2
    have e2 : (upd M2 a2 (.lst [V.str "cell", V.str "seen", V.str "gone"])) a2 = some (.lst [V.str "cell", V.str "seen", V.str "gone"]) := upd_same
    generalize upd H2 a2 (.lst [V.str "cell", V.str "seen", V.str "gone"]) = H3 at O ⊢
    generalize upd M2 a2 (.lst [V.str "cell", V.str "seen", V.str "gone"]) = M3 at O s2 e2
    replace e0 := s2 _ _ e0
    replace e1 := s2 _ _ e1
    refine x_prC ?_
    walk_at "rd"
    refine ⟨sz_lit (n := 1), fun a3 h3 => ?_⟩
    have s3 := same_new (o := .lst [V.str "called"]) (O.n.free h3)
    replace O := O.frz (o := .lst [V.str "called"]) h3
    have e3 : (upd M3 a3 (.lst [V.str "called"])) a3 = some (.lst [V.str "called"]) := upd_same
    generalize upd H3 a3 (.lst [V.str "called"]) = H4 at O ⊢
    generalize upd M3 a3 (.lst [V.str "called"]) = M4 at O s3 e3
    replace e0 := s3 _ _ e0
    replace e1 := s3 _ _ e1
    replace e2 := s3 _ _ e2
    refine x_prC ?_
    walk_at "rd"
    refine ⟨sz_lit (n := 1), fun a4 h4 => ?_⟩
    have s4 := same_new (o := .lst [V.str "moved"]) (O.n.free h4)
    replace O := O.frz (o := .lst [V.str "moved"]) h4
    have e4 : (upd M4 a4 (.lst [V.str "moved"])) a4 = some (.lst [V.str "moved"]) := upd_same
    generalize upd H4 a4 (.lst [V.str "moved"]) = H5 at O ⊢
    generalize upd M4 a4 (.lst [V.str "moved"]) = M5 at O s4 e4
    replace e0 := s4 _ _ e0
    replace e1 := s4 _ _ e1
    replace e2 := s4 _ _ e2
    replace e3 := s4 _ _ e3
    refine x_prN ⟨O.get 0, [((.inr "pause" : Key), V.ref a0), ((.inr "seen" : Key), V.ref a1), ((.inr "cell" : Key), V.ref a2), ((.inr "gone" : Key), V.ref a3), ((.inr "called" : Key), V.ref a4)], rfl, (by show 5 ≤ 15; decide), ?_⟩
    rw [show mergeK [] [((.inr "pause" : Key), V.ref a0), ((.inr "seen" : Key), V.ref a1), ((.inr "cell" : Key), V.ref a2), ((.inr "gone" : Key), V.ref a3), ((.inr "called" : Key), V.ref a4)] = [((.inr "pause" : Key), V.ref a0), ((.inr "seen" : Key), V.ref a1), ((.inr "cell" : Key), V.ref a2), ((.inr "gone" : Key), V.ref a3), ((.inr "called" : Key), V.ref a4)] from rfl]
    replace O := O.put 0 (u := .dK [((.inr "pause" : Key), V.ref a0), ((.inr "seen" : Key), V.ref a1), ((.inr "cell" : Key), V.ref a2), ((.inr "gone" : Key), V.ref a3), ((.inr "called" : Key), V.ref a4)])
    generalize upd H5 p (.dK [((.inr "pause" : Key), V.ref a0), ((.inr "seen" : Key), V.ref a1), ((.inr "cell" : Key), V.ref a2), ((.inr "gone" : Key), V.ref a3), ((.inr "called" : Key), V.ref a4)]) = H5' at O ⊢
    walk_at "rd"
    refine ⟨sz_lit (n := 1), fun a5 h5 => ?_⟩
    have s5 := same_new (o := .lst [V.str "sealed"]) (O.n.free h5)
    replace O := O.frz (o := .lst [V.str "sealed"]) h5
    have e5 : (upd M5 a5 (.lst [V.str "sealed"])) a5 = some (.lst [V.str "sealed"]) := upd_same
    generalize upd H5' a5 (.lst [V.str "sealed"]) = H6 at O ⊢
    generalize upd M5 a5 (.lst [V.str "sealed"]) = M6 at O s5 e5
    replace e0 := s5 _ _ e0
    replace e1 := s5 _ _ e1
    replace e2 := s5 _ _ e2
    replace e3 := s5 _ _ e3
    replace e4 := s5 _ _ e4
    walk_at "rd"
    refine ⟨p, _, rfl, DPut.k (k := .inr "moved") (O.get 0) (sz_lt (by show 5 < 1000000; decide)), ?_⟩
    rw [show putK [((.inr "pause" : Key), V.ref a0), ((.inr "seen" : Key), V.ref a1), ((.inr "cell" : Key), V.ref a2), ((.inr "gone" : Key), V.ref a3), ((.inr "called" : Key), V.ref a4)] (.inr "moved") (.ref a5) = [((.inr "pause" : Key), V.ref a0), ((.inr "seen" : Key), V.ref a1), ((.inr "cell" : Key), V.ref a2), ((.inr "gone" : Key), V.ref a3), ((.inr "called" : Key), V.ref a4), ((.inr "moved" : Key), V.ref a5)] from rfl]
    replace O := O.put 0 (u := .dK [((.inr "pause" : Key), V.ref a0), ((.inr "seen" : Key), V.ref a1), ((.inr "cell" : Key), V.ref a2), ((.inr "gone" : Key), V.ref a3), ((.inr "called" : Key), V.ref a4), ((.inr "moved" : Key), V.ref a5)])
    generalize upd H6 p (.dK [((.inr "pause" : Key), V.ref a0), ((.inr "seen" : Key), V.ref a1), ((.inr "cell" : Key), V.ref a2), ((.inr "gone" : Key), V.ref a3), ((.inr "called" : Key), V.ref a4), ((.inr "moved" : Key), V.ref a5)]) = H6' at O ⊢
    walk_at "rd"
    refine ⟨sz_lit (n := 1), fun a6 h6 => ?_⟩
    have s6 := same_new (o := .lst [V.str "told"]) (O.n.free h6)
    replace O := O.frz (o := .lst [V.str "told"]) h6
    have e6 : (upd M6 a6 (.lst [V.str "told"])) a6 = some (.lst [V.str "told"]) := upd_same
    generalize upd H6' a6 (.lst [V.str "told"]) = H7 at O ⊢
    generalize upd M6 a6 (.lst [V.str "told"]) = M7 at O s6 e6
    replace e0 := s6 _ _ e0
    replace e1 := s6 _ _ e1
    replace e2 := s6 _ _ e2
    replace e3 := s6 _ _ e3
    replace e4 := s6 _ _ e4
    replace e5 := s6 _ _ e5
    walk_at "rd"
    refine ⟨p, _, rfl, DPut.k (k := .inr "sealed") (O.get 0) (sz_lt (by show 6 < 1000000; decide)), ?_⟩
    rw [show putK [((.inr "pause" : Key), V.ref a0), ((.inr "seen" : Key), V.ref a1), ((.inr "cell" : Key), V.ref a2), ((.inr "gone" : Key), V.ref a3), ((.inr "called" : Key), V.ref a4), ((.inr "moved" : Key), V.ref a5)] (.inr "sealed") (.ref a6) = [((.inr "pause" : Key), V.ref a0), ((.inr "seen" : Key), V.ref a1), ((.inr "cell" : Key), V.ref a2), ((.inr "gone" : Key), V.ref a3), ((.inr "called" : Key), V.ref a4), ((.inr "moved" : Key), V.ref a5), ((.inr "sealed" : Key), V.ref a6)] from rfl]
    replace O := O.put 0 (u := .dK [((.inr "pause" : Key), V.ref a0), ((.inr "seen" : Key), V.ref a1), ((.inr "cell" : Key), V.ref a2), ((.inr "gone" : Key), V.ref a3), ((.inr "called" : Key), V.ref a4), ((.inr "moved" : Key), V.ref a5), ((.inr "sealed" : Key), V.ref a6)])
    generalize upd H7 p (.dK [((.inr "pause" : Key), V.ref a0), ((.inr "seen" : Key), V.ref a1), ((.inr "cell" : Key), V.ref a2), ((.inr "gone" : Key), V.ref a3), ((.inr "called" : Key), V.ref a4), ((.inr "moved" : Key), V.ref a5), ((.inr "sealed" : Key), V.ref a6)]) = H8 at O ⊢
    have hd : H8 p = some (.dK [((.inr "pause" : Key), V.ref a0), ((.inr "seen" : Key), V.ref a1), ((.inr "cell" : Key), V.ref a2), ((.inr "gone" : Key), V.ref a3), ((.inr "called" : Key), V.ref a4), ((.inr "moved" : Key), V.ref a5), ((.inr "sealed" : Key), V.ref a6)]) := O.get 0
    have hv : (∃ ks a, valV [((.inr "pause" : Key), V.ref a0), ((.inr "seen" : Key), V.ref a1), ((.inr "cell" : Key), V.ref a2), ((.inr "gone" : Key), V.ref a3), ((.inr "called" : Key), V.ref a4), ((.inr "moved" : Key), V.ref a5), ((.inr "sealed" : Key), V.ref a6)] (.inr b) = some (.ref a) ∧ H8 a = some (.lst (ks.map V.str)) ∧ followL b = some ks) ∨ (valV [((.inr "pause" : Key), V.ref a0), ((.inr "seen" : Key), V.ref a1), ((.inr "cell" : Key), V.ref a2), ((.inr "gone" : Key), V.ref a3), ((.inr "called" : Key), V.ref a4), ((.inr "moved" : Key), V.ref a5), ((.inr "sealed" : Key), V.ref a6)] (.inr b) = none ∧ followL b = none) := by
      by_cases c0 : b = "pause"
      · subst c0; exact .inl ⟨["seen"], a0, rfl, O.n _ _ e0, by rfl⟩
      rw [vK_neg c0]
      by_cases c1 : b = "seen"
      · subst c1; exact .inl ⟨["cell", "seen", "gone"], a1, vK_pos, O.n _ _ e1, by unfold followL; rw [if_neg c0, if_pos rfl]⟩
      rw [vK_neg c1]
      by_cases c2 : b = "cell"
      · subst c2; exact .inl ⟨["cell", "seen", "gone"], a2, vK_pos, O.n _ _ e2, by unfold followL; rw [if_neg c0, if_neg c1, if_pos rfl]⟩
      rw [vK_neg c2]
      by_cases c3 : b = "gone"
      · subst c3; exact .inl ⟨["called"], a3, vK_pos, O.n _ _ e3, by unfold followL; rw [if_neg c0, if_neg c1, if_neg c2, if_pos rfl]⟩
      rw [vK_neg c3]
      by_cases c4 : b = "called"
      · subst c4; exact .inl ⟨["moved"], a4, vK_pos, O.n _ _ e4, by unfold followL; rw [if_neg c0, if_neg c1, if_neg c2, if_neg c3, if_pos rfl]⟩
      rw [vK_neg c4]
      by_cases c5 : b = "moved"
      · subst c5; exact .inl ⟨["sealed"], a5, vK_pos, O.n _ _ e5, by unfold followL; rw [if_neg c0, if_neg c1, if_neg c2, if_neg c3, if_neg c4, if_pos rfl]⟩
      rw [vK_neg c5]
      by_cases c6 : b = "sealed"
      · subst c6; exact .inl ⟨["told"], a6, vK_pos, O.n _ _ e6, by unfold followL; rw [if_neg c0, if_neg c1, if_neg c2, if_neg c3, if_neg c4, if_neg c5, if_pos rfl]⟩
      rw [vK_neg c6]
      exact .inr ⟨rfl, by unfold followL; rw [if_neg c0, if_neg c1, if_neg c2, if_neg c3, if_neg c4, if_neg c5, if_neg c6]⟩
    have fin : ∀ c H', mayFollow b z = c → Same H8 H' → Q (.bl c) H' := fun c H' e s => e ▸ q H' (O.g.trans s)
    generalize [((.inr "pause" : Key), V.ref a0), ((.inr "seen" : Key), V.ref a1), ((.inr "cell" : Key), V.ref a2), ((.inr "gone" : Key), V.ref a3), ((.inr "called" : Key), V.ref a4), ((.inr "moved" : Key), V.ref a5), ((.inr "sealed" : Key), V.ref a6)] = kvs at hd hv
    unfold mayFollow at fin
    walk_at "rd"
    refine x_din ?_
    walk_at "rd"
    refine ⟨p, _, rfl, DGet.k (k := .inr b) hd, ?_⟩
    walk_at "rd"
    rcases hv with ⟨ks, a, v1, v2, v3⟩ | ⟨v1, v3⟩
    · rw [v1]
      rw [v3] at fin
      refine iteT ?_
      walk_at "rd"
      refine x_dget ?_
      walk_at "rd"
      refine ⟨p, .ref a, rfl, v1 ▸ DGet.k (k := .inr b) hd, ?_⟩
      refine a_inL (SqL.of v2) rfl (all_flat_strs _) ?_
      rw [inV_strs]
      exact fin _ _ rfl (Same.refl _)
    · rw [v1]
      rw [v3] at fin
      have fin2 : ∀ c H', (if z = "new" then decide (b = "came") || decide (b = "new") else decide (z ∈ l_TOP_WORDS)) = c → Same H8 H' → Q (.bl c) H' := fin
      refine iteF ?_
      walk_at "rd"
      rw [dec_strV]
      refine x_ite (fun g1 => ?_) (fun g1 => ?_)
      · rw [if_pos (of_decide_eq_true g1)] at fin2
        walk_at "rd"
        refine ⟨sz_lit (n := 2), fun t ht => ?_⟩
        refine a_inT (SqT.of upd_same) rfl (by rfl) ?_
        rw [show ([V.str "came", V.str "new"] : List V) = ([("came" : Str), "new"] : List Str).map V.str from rfl, inV_strs]
        refine fin2 _ _ ?_ (same_new ht)
        by_cases c1 : b = "came"
        · simp [c1]
        · by_cases c2 : b = "new"
          · simp [c2]
          · simp [c1, c2]
      · rw [if_neg (of_decide_eq_false g1)] at fin2
        walk_at "rd"
        refine ⟨sz_lit (n := 6), fun t ht => ?_⟩
        refine a_inT (SqT.of upd_same) rfl (by rfl) ?_
        rw [show ([V.str "made", V.str "went", V.str "heard", V.str "pause", V.str "gave", V.str "came"] : List V) = l_TOP_WORDS.map V.str from rfl, inV_strs]
        exact fin2 _ _ rfl (same_new ht)
end
end K97


set_option maxRecDepth 100000
set_option maxHeartbeats 4000000
namespace K97
open PySem PySem.Spec PyProof.Rows L2 TL NB
local macro_rules | `(tactic| walk_at "rd") => `(tactic| repeat (first
  | (with_reducible refine x_seq ?_) | (with_reducible refine x_asg ?_) | (with_reducible refine x_gName ?_) | (with_reducible refine x_ret ?_) | (with_reducible refine x_drop ?_) | (with_reducible refine x_ifS ?_)
  | (with_reducible refine x_op ?_) | (with_reducible refine x_c ?_) | ((with_reducible refine' x_var ?k1 ?_); (case k1 => with_unfolding_all rfl)) | (with_reducible refine x_cb ?_) | (with_reducible refine x_call0 ?_) | (with_reducible refine x_cons ?_) | (with_reducible refine x_nil ?_)
  | (with_reducible refine x_test ?_) | (with_reducible refine x_B ?_) | (with_reducible refine x_bl ?_) | (with_reducible refine x_and ?_) | (with_reducible refine x_or ?_) | (with_reducible refine x_not ?_)
  | (with_reducible refine x_andV ?_) | (with_reducible refine x_orV ?_) | (with_reducible refine x_notV ?_) | (with_reducible refine x_if ?_) | (with_reducible refine x_isN ?_) | (with_reducible refine x_notN ?_)
  | (with_reducible refine x_tup ?_) | (with_reducible refine x_lst ?_) | (with_reducible refine x_sl ?_) | (with_reducible refine x_noPart ?_) | (with_reducible refine x_part ?_) | (with_reducible refine x_int ?_)
  | (with_reducible refine x_bm ?_) | (with_reducible refine x_m1 ?_) | (with_reducible refine x_tyS ?_) | (with_reducible refine x_gNil ?_) | (with_reducible refine x_gCons ?_) | (with_reducible refine x_gSub ?_) | (with_reducible refine x_next ?_) | (with_reducible refine x_brk ?_)
  | (with_reducible refine x_slStep ?_) | (with_reducible refine x_lc ?_) | (with_reducible refine x_for ?_) | (with_reducible refine x_iL ?_) | (with_reducible refine x_iR1 ?_) | (with_reducible refine x_iR3 ?_) | (with_reducible refine x_iS ?_) | (with_reducible refine x_ref ?_) | (with_reducible refine x_yes ?_)
  | (with_reducible refine a_addI ?_) | (with_reducible refine x_I0 ?_) | (with_reducible refine a_eq rfl ?_) | (with_reducible refine a_ne rfl ?_) | (with_reducible refine a_inS ?_) | (with_reducible refine a_ninS ?_) | (with_reducible refine x_strS ?_) | (with_reducible refine x_intI ?_) | (with_reducible refine x_iB ?_) | (with_reducible refine x_iT ?_)))

section
variable {P : Program} {w : World} {K : PySem.W.Frag} {mg : Str → Option Value} {base : Heap}
/-! ### the law's own count of the order's fault -/
def endWords : List Str := ["told", "made", "went", "heard", "gave", "came", "new"]
def ordGo (n : Nat) : Str → Nat → List Str → Nat
  | b, _, [] => if b ∈ endWords then 0 else n + 1
  | b, k, z :: r => if mayFollow b ((wordsS z).headD "") = true then ordGo n ((wordsS z).headD "") (k + 1) r else k + 1
def ordFault (ls : List Str) : Nat := ordGo ls.length "told" 0 ls
def sp_law_order_fault (K : PySem.W.Frag) : Sp := fun vs H Q _ => ∃ (a : Addr) (ls : List Str), vs = [.ref a] ∧ SqL K H a (ls.map V.str) ∧ ls.length ≤ 1000 ∧ (∀ z ∈ ls, Tok90 z) ∧ ∀ H', Same H H' → Q (.int (ordFault ls)) H'
theorem sc_law_order_fault : FnScope ["lines", "before", "k", "word"] ["lines"] (defScope s_law_order_fault) := ⟨rfl, rfl, rfl, by decide +kernel, rfl, by decide +kernel, by decide +kernel⟩
theorem ok_law_order_fault (T : Tx w K mg) : OkF P w K mg base CX0 2 "_law_order_fault" ["lines"] (sp_law_order_fault K) := by
  have G_law_follows := ok_law_follows (P := P) (base := base) T
  refine Tx.def0 T 34 rfl T.g_law_order_fault sc_law_order_fault (fun _ _ _ _ _ _ us hl => match us, hl with | [_], _ => rfl) (fun vs H Q E h => ?_) (fun f cdv A outer s H vs Q E hr h => ?_)
  · obtain ⟨a, ls, rfl, hs, hl, hw, q⟩ := h; rfl
  · obtain ⟨a, ls, rfl, hs, hl, hw, q⟩ := h
    refine ⟨_, (pss_cons (ps_set (i := 1) sc_law_order_fault.nd rfl (by first | exact Or.inl rfl | exact Or.inr rfl) pe_str)
      (pss_cons (ps_for PassesOwn.never rfl (pi_range1 (by rfl) T.f_range (pa_cons (pe_callB (call_lenG) (by rfl) T.f_len (by decide +kernel) (pa_cons (pv 0) pa_nil)) pa_nil)) (pg_name (i := 2) sc_law_order_fault.nd rfl (by first | exact Or.inl rfl | exact Or.inr rfl))
        (pss_cons (ps_set (i := 3) sc_law_order_fault.nd rfl (by first | exact Or.inl rfl | exact Or.inr rfl) (pe_ix ix_seq (pe_split (pe_ix ix_seq (pv 0) (pv 2) (fun _ _ => rfl)) pe_str) pe_int (fun _ _ => rfl)))
        (pss_cons (ps_if (pt_not (pt_val (pe_callO G_law_follows (hr.mono (by decide)) (by rfl) pass0 (pa_cons (pv 1) (pa_cons (pv 3) pa_nil)))))
          (pss_one (ps_ret (pe_op op_addG (pv 2) pe_int)))
          pss_nil)
        (pss_one (ps_set (i := 1) sc_law_order_fault.nd rfl (by first | exact Or.inl rfl | exact Or.inr rfl) (pv 3))))))
      (pss_one (ps_ret (pe_ifExp (pt_cmpR op_inG (pv 1) (pe_tup (pa_cons pe_str (pa_cons pe_str (pa_cons pe_str (pa_cons pe_str (pa_cons pe_str (pa_cons pe_str (pa_cons pe_str pa_nil)))))))) (by rfl)) pe_int (pe_op op_addG (pe_callB (call_lenG) (by rfl) T.f_len (by decide +kernel) (pa_cons (pv 0) pa_nil)) pe_int)))))), ?_⟩
    walk_at "rd"
    refine a_lenL hs ?_
    walk_at "rd"
    rw [List.length_map]
    refine x_r1 (by omega) (by omega) ?_
    rw [show ((ls.length : Int)).toNat = ls.length from Int.toNat_natCast _]
    refine forR (fun i σ H' => ∃ (b : Str) (x2 x3 : Option V), σ = [some (.ref a), some (.str b), x2, x3] ∧ Same H H' ∧ ordFault ls = ordGo ls.length b i (ls.drop i)) ⟨_, _, _, rfl, Same.refl _, rfl⟩ ?_ ?_
    · rintro i σ H2 hi ⟨b, x2, x3, rfl, sm, he⟩
      have e1 : ls[i]? = some ls[i] := List.getElem?_eq_getElem hi
      rw [List.drop_eq_getElem_cons hi] at he
      have hzi := hw ls[i] (List.getElem_mem hi)
      generalize ls[i] = zi at e1 he hzi
      obtain ⟨hq1, hq2, hq3⟩ := words_wd hzi
      walk_at "rd"
      refine a_ixL (sm.seq hs) (i := 0 + (i : Int)) (ixS' (i := i) (Int.zero_add _) e1) ?_
      walk_at "rd"
      refine x_spl (by decide +kernel) (sz_le (by have := hzi.len; omega)) fun pw hpw => ?_
      have sm2 := sm.trans (same_new (o := .lst ((Txt.split zi " ").map V.str)) hpw)
      have hwd : (upd H2 pw (.lst ((Txt.split zi " ").map V.str))) pw = some (.lst ((wordsS zi).map V.str)) := upd_same
      show tC _ _ _ _
      generalize upd H2 pw (.lst ((Txt.split zi " ").map V.str)) = H3 at sm2 hwd ⊢
      obtain ⟨w0, r, hws⟩ : ∃ w0 r, wordsS zi = w0 :: r := by
        cases e : wordsS zi with
        | nil => exact absurd e hq3
        | cons a b => exact ⟨a, b, rfl⟩
      rw [hws] at hwd
      have he2 : ordFault ls = if mayFollow b w0 = true then ordGo ls.length w0 (i + 1) (ls.drop (i + 1)) else i + 1 := by
        rw [he]
        show (if mayFollow b ((wordsS zi).headD "") = true then _ else _) = _
        rw [hws]
        rfl
      walk_at "rd"
      refine a_ixL (SqL.of hwd) (ixS (i := 0) rfl) ?_
      walk_at "rd"
      refine ⟨b, w0, rfl, fun H4 s4 => ?_⟩
      have sm4 := sm2.trans s4
      walk_at "rd"
      refine x_ite (fun g => ?_) (fun g => ?_)
      · have g : mayFollow b w0 = false := by simpa using g
        walk_at "rd"
        rw [if_neg (by rw [g]; decide)] at he2
        have := q H4 sm4
        rw [he2] at this
        rw [show V.int (0 + (i : Int) + 1) = V.int ((i + 1 : Nat) : Int) from by rw [Int.zero_add]; rfl]
        exact this
      · have g : mayFollow b w0 = true := by simpa using g
        walk_at "rd"
        rw [if_pos g] at he2
        exact ⟨w0, _, _, rfl, sm4, he2⟩
    · rintro σ H2 ⟨b, x2, x3, rfl, sm, he⟩
      rw [List.drop_length] at he
      have he2 : ordFault ls = if b ∈ endWords then 0 else ls.length + 1 := he
      walk_at "rd"
      refine ⟨sz_lit (n := 7), fun t ht => ?_⟩
      refine a_inT (SqT.of upd_same) rfl (by rfl) ?_
      have sm2 := sm.trans (same_new (o := .tup (endWords.map V.str)) ht)
      rw [show ([V.str "told", V.str "made", V.str "went", V.str "heard", V.str "gave", V.str "came", V.str "new"] : List V) = endWords.map V.str from rfl, inV_strs]
      generalize upd H2 t (.tup (endWords.map V.str)) = H3 at sm2 ⊢
      walk_at "rd"
      refine x_ite (fun g => ?_) (fun g => ?_)
      · rw [if_pos (of_decide_eq_true g)] at he2
        walk_at "rd"
        have := q H3 sm2
        rw [he2] at this
        exact this
      · rw [if_neg (of_decide_eq_false g)] at he2
        walk_at "rd"
        refine a_lenL (sm2.seq hs) ?_
        walk_at "rd"
        rw [List.length_map]
        have := q H3 sm2
        rw [he2] at this
        exact this
end
end K97


set_option maxRecDepth 100000
set_option maxHeartbeats 4000000
namespace K97
open PySem PySem.Spec PyProof.Rows L2 TL NB
local macro_rules | `(tactic| walk_at "rd") => `(tactic| repeat (first
  | (with_reducible refine x_seq ?_) | (with_reducible refine x_asg ?_) | (with_reducible refine x_gName ?_) | (with_reducible refine x_ret ?_) | (with_reducible refine x_drop ?_) | (with_reducible refine x_ifS ?_)
  | (with_reducible refine x_op ?_) | (with_reducible refine x_c ?_) | ((with_reducible refine' x_var ?k1 ?_); (case k1 => with_unfolding_all rfl)) | (with_reducible refine x_cb ?_) | (with_reducible refine x_call0 ?_) | (with_reducible refine x_cons ?_) | (with_reducible refine x_nil ?_)
  | (with_reducible refine x_test ?_) | (with_reducible refine x_B ?_) | (with_reducible refine x_bl ?_) | (with_reducible refine x_and ?_) | (with_reducible refine x_or ?_) | (with_reducible refine x_not ?_)
  | (with_reducible refine x_andV ?_) | (with_reducible refine x_orV ?_) | (with_reducible refine x_notV ?_) | (with_reducible refine x_if ?_) | (with_reducible refine x_isN ?_) | (with_reducible refine x_notN ?_)
  | (with_reducible refine x_tup ?_) | (with_reducible refine x_lst ?_) | (with_reducible refine x_sl ?_) | (with_reducible refine x_noPart ?_) | (with_reducible refine x_part ?_) | (with_reducible refine x_int ?_)
  | (with_reducible refine x_bm ?_) | (with_reducible refine x_m1 ?_) | (with_reducible refine x_tyS ?_) | (with_reducible refine x_gNil ?_) | (with_reducible refine x_gCons ?_) | (with_reducible refine x_gSub ?_) | (with_reducible refine x_next ?_) | (with_reducible refine x_brk ?_)
  | (with_reducible refine x_slStep ?_) | (with_reducible refine x_lc ?_) | (with_reducible refine x_for ?_) | (with_reducible refine x_iL ?_) | (with_reducible refine x_iR1 ?_) | (with_reducible refine x_iR3 ?_) | (with_reducible refine x_iS ?_) | (with_reducible refine x_ref ?_) | (with_reducible refine x_yes ?_)
  | (with_reducible refine a_addI ?_) | (with_reducible refine x_I0 ?_) | (with_reducible refine a_eq rfl ?_) | (with_reducible refine a_ne rfl ?_) | (with_reducible refine a_inS ?_) | (with_reducible refine a_ninS ?_) | (with_reducible refine x_strS ?_) | (with_reducible refine x_intI ?_) | (with_reducible refine x_iB ?_) | (with_reducible refine x_iT ?_)))

section
variable {P : Program} {w : World} {K : PySem.W.Frag} {mg : Str → Option Value} {base : Heap}
/-! ### a conditional whose test lays a text before e.replace(..) -/
theorem pe_ifInRepl {X : Cx} {y1 : Str} {j1 : Nat} {c1 cpos pos : Pos} {b a e : Expr} {tb ta te : TE} {r : R2} (ho : OpR X (compareOp .In) r) (hb : PE X b tb) (hm : behindInMarks .In b = false) (ha : PET X a ta) (he : PE X e te) :
    PE X (.IfExp (.Compare (.Constant (.str y1) j1 c1) [.In] [b] cpos) a e pos) (tIf (tTest (tOp r (tC (.str y1)) tb)) ta te) := by
  refine ⟨fun pins s σ H Q I h => ?_⟩
  refine wpAny_IfExp (wpAny_isTrue_Compare1 (Calls.Constant_str ?_) hm)
  refine wpAny_mono (wpAny_toks (hb.run pins _ σ H _ (I.tok _) h)) (fun u s2 hk => ?_) fun _ _ z => z.2
  obtain ⟨k2, y, H2, I2, r2, q2⟩ := hk
  refine wpAny_mono (wpAny_toks (ho pins s2 σ H2 (.str y1) y _ u _ I2 ⟨_, rfl⟩ r2 q2)) (fun c s3 hk3 => ?_) fun _ _ z => z.2
  obtain ⟨k3, z, H3, I3, r3, k, ek, q3⟩ := hk3
  subst ek
  cases r3
  refine wpAny_truthy_bool ?_
  cases k with
  | true => exact ha pins s3 σ H3 Q (by have : s.toks + 1 ≤ s2.toks := k2; omega) I3 q3
  | false => exact he.run pins s3 σ H3 Q I3 q3
theorem x_repl {to : TE} {y z : Str} {σ : L2.St} {H : Hp} {Q : VK} (h : to σ H fun v H1 => ∃ x, v = .str x ∧ x.length + (x.length + 1) * z.length ≤ 16777216 ∧ Q (.str (Txt.replace x y z)) H1) : CwR.tReplC to y z σ H Q := h
/-! ### words and spaces -/
theorem spl_app {r : List Nat} : ∀ (l acc : List Nat), spl [32] 0 acc (l ++ 32 :: r) = spl [32] 0 acc l ++ spl [32] 0 [] r
  | [], acc => by
    rw [List.nil_append, spl_hit (by rfl), spl_nil]
    rfl
  | c :: l, acc => by
    by_cases hc : c = 32
    · subst hc
      rw [List.cons_append, spl_hit (by rfl), spl_hit (by rfl)]
      show acc :: spl [32] 0 [] (l ++ 32 :: r) = (acc :: spl [32] 0 [] l) ++ spl [32] 0 [] r
      rw [spl_app l []]
      rfl
    · rw [List.cons_append, spl_miss (pre_of_head _ _ hc), spl_miss (pre_of_head _ _ hc)]
      exact spl_app l (acc ++ [c])
theorem spl_free : ∀ (l acc : List Nat), 32 ∉ acc → ∀ p ∈ spl [32] 0 acc l, 32 ∉ p
  | [], acc, h, p, hp => by
    rw [spl_nil] at hp
    rw [List.mem_singleton.mp hp]
    exact h
  | c :: l, acc, h, p, hp => by
    by_cases hc : c = 32
    · subst hc
      rw [spl_hit (by rfl)] at hp
      rcases List.mem_cons.mp hp with rfl | hp
      · exact h
      · exact spl_free l [] (by simp) p hp
    · rw [spl_miss (pre_of_head _ _ hc)] at hp
      refine spl_free l (acc ++ [c]) (fun hm => ?_) p hp
      rcases List.mem_append.mp hm with hm | hm
      · exact h hm
      · exact hc (List.mem_singleton.mp hm).symm
theorem words_tl (z : Str) : (wordsS z).map tl = spl [32] 0 [] (tl z) := split_spl z " " (by decide +kernel) (kind_ok (by decide +kernel))
theorem mem_words {z : Str} {p : List Nat} (h : p ∈ spl [32] 0 [] (tl z)) : ∃ w ∈ wordsS z, tl w = p := by
  rw [← words_tl] at h
  obtain ⟨w, hw, e⟩ := List.mem_map.mp h
  exact ⟨w, hw, e⟩
def odds8 : List Str := ["A", "01", "1234567890", "", "x_", "-1", "abcdefghijklmnopq", "1a"]
/-- a line with a word that no form has -/
def Spo (z : Str) : Prop := ∃ w ∈ wordsS z, w ∈ odds8
theorem spo_of {z : Str} {o : Str} (ho : o ∈ odds8) (h : tl o ∈ spl [32] 0 [] (tl z)) : Spo z := by
  obtain ⟨w, hw, e⟩ := mem_words h
  rw [ext_tl e] at hw
  exact ⟨o, hw, ho⟩
theorem odd_free {o : Str} (ho : o ∈ odds8) : 32 ∉ tl o := by
  have : (odds8.all fun o => !decide (32 ∈ tl o)) = true := by decide +kernel
  have := List.all_eq_true.mp this o ho
  simpa using this
theorem spo_end (z : Str) : Spo (z ++ " ") := by
  refine spo_of (o := "") (by simp [odds8]) ?_
  rw [tl_append, show tl (" " : Str) = [32] from rfl, show tl z ++ [32] = tl z ++ 32 :: [] from rfl, spl_app, spl_nil]
  exact List.mem_append_right _ (List.mem_singleton.mpr rfl)
theorem spo_start (z : Str) : Spo (" " ++ z) := by
  refine spo_of (o := "") (by simp [odds8]) ?_
  rw [tl_append, show tl (" " : Str) = [32] from rfl, show [32] ++ tl z = [] ++ 32 :: tl z from rfl, spl_app, spl_nil]
  exact List.mem_append_left _ (List.mem_singleton.mpr rfl)
theorem spo_more (z : Str) {o : Str} (ho : o ∈ odds8) : Spo (z ++ " " ++ o) := by
  refine spo_of ho ?_
  rw [tl_append, tl_append, show tl (" " : Str) = [32] from rfl, List.append_assoc, show [32] ++ tl o = 32 :: tl o from rfl, spl_app]
  refine List.mem_append_right _ ?_
  have := spl_last1 (S := []) (acc := []) (odd_free ho)
  rw [this]
  exact List.mem_singleton.mpr rfl
theorem spo_join {ws : List Str} {i : Nat} {o : Str} (ho : o ∈ odds8) (hf : ∀ w ∈ ws, 32 ∉ tl w) : Spo (lineS (ws.take i ++ [o] ++ ws.drop (i + 1))) := by
  have hm : ∀ w ∈ ws.take i ++ [o] ++ ws.drop (i + 1), 32 ∉ tl w := fun w hw => by
    rcases List.mem_append.mp hw with hw | hw
    · rcases List.mem_append.mp hw with hw | hw
      · exact hf w (List.mem_of_mem_take hw)
      · rw [List.mem_singleton.mp hw]; exact odd_free ho
    · exact hf w (List.mem_of_mem_drop hw)
  refine ⟨o, ?_, ho⟩
  have e : wordsS (lineS (ws.take i ++ [o] ++ ws.drop (i + 1))) = ws.take i ++ [o] ++ ws.drop (i + 1) := split_join (s := 32) (S := []) (by rfl) (by decide +kernel) (by simp) hm
  rw [e]
  simp
theorem words_free {z : Str} : ∀ w ∈ wordsS z, 32 ∉ tl w := fun w hw => by
  have : tl w ∈ (wordsS z).map tl := List.mem_map.mpr ⟨w, hw, rfl⟩
  rw [words_tl] at this
  exact spl_free _ [] (by simp) _ this
theorem spo_empty : Spo "" := by
  refine spo_of (o := "") (by simp [odds8]) ?_
  rw [show tl ("" : Str) = [] from rfl, spl_nil]
  exact List.mem_singleton.mpr rfl
theorem first32 : ∀ {l : List Nat}, 32 ∈ l → ∃ p q, l = p ++ 32 :: q ∧ 32 ∉ p
  | c :: l, h => by
    by_cases hc : c = 32
    · subst hc
      exact ⟨[], l, rfl, by simp⟩
    · have : 32 ∈ l := by
        rcases List.mem_cons.mp h with e | h
        · exact absurd e.symm hc
        · exact h
      obtain ⟨p, q, rfl, hp⟩ := first32 this
      refine ⟨c :: p, q, rfl, fun hm => ?_⟩
      rcases List.mem_cons.mp hm with e | hm
      · exact hc e.symm
      · exact hp hm
theorem repl_first : ∀ {p q : List Nat}, 32 ∉ p → PySem.StrLaws.replL [32] [32, 32] (p ++ 32 :: q) = p ++ 32 :: 32 :: PySem.StrLaws.replL [32] [32, 32] q
  | [], q, _ => by
    rw [List.nil_append, PySem.StrLaws.replL_hit (by simp) (by rfl)]
    rfl
  | c :: p, q, h => by
    have hc : c ≠ 32 := fun e => h (by rw [e]; exact List.mem_cons_self)
    rw [List.cons_append, PySem.StrLaws.replL_miss (by simp [hc]), repl_first fun hm => h (List.mem_cons_of_mem _ hm)]
    rfl
theorem repl_tl (z : Str) : tl (Txt.replace z " " "  ") = PySem.StrLaws.replL [32] [32, 32] (tl z) := PySem.StrLaws.replace_list (x := z) (y := " ") (z := "  ") (by decide +kernel)
theorem spo_repl {z : Str} (h : 32 ∈ tl z) : Spo (Txt.replace z " " "  ") := by
  obtain ⟨p, q, e, hp⟩ := first32 h
  refine spo_of (o := "") (by simp [odds8]) ?_
  rw [repl_tl, e, repl_first hp, spl_app]
  refine List.mem_append_right _ ?_
  rw [show (32 :: PySem.StrLaws.replL [32] [32, 32] q) = [] ++ 32 :: PySem.StrLaws.replL [32] [32, 32] q from rfl, spl_app, spl_nil]
  exact List.mem_append_left _ (List.mem_singleton.mpr rfl)
theorem repl_mem : ∀ (n : Nat) {l : List Nat} {c : Nat}, l.length ≤ n → c ∈ PySem.StrLaws.replL [32] [32, 32] l → c = 32 ∨ c ∈ l
  | _, [], c, _, h => by
    rw [PySem.StrLaws.replL_nil] at h
    exact absurd h (by simp)
  | n + 1, d :: l, c, hn, h => by
    have hl : l.length ≤ n := by simpa using hn
    by_cases hd : d = 32
    · subst hd
      rw [PySem.StrLaws.replL_hit (by simp) (by rfl)] at h
      rcases List.mem_append.mp h with h | h
      · simp at h; exact .inl h
      · exact (repl_mem n hl (show c ∈ PySem.StrLaws.replL [32] [32, 32] l from h)).imp id (List.mem_cons_of_mem _)
    · rw [PySem.StrLaws.replL_miss (by simp [hd])] at h
      rcases List.mem_cons.mp h with rfl | h
      · exact .inr List.mem_cons_self
      · exact (repl_mem n hl h).imp id (List.mem_cons_of_mem _)
/-- a line of ours: short, no line feed -/
structure Lin (n : Nat) (z : Str) : Prop where
  len : z.length ≤ n
  asc : ∀ c ∈ tl z, c < 128 ∧ c ≠ 10
theorem spl_sum : ∀ (l acc : List Nat), ((spl [32] 0 acc l).map List.length).sum + (spl [32] 0 acc l).length = acc.length + l.length + 1
  | [], acc => by
    rw [spl_nil]
    simp
  | c :: l, acc => by
    by_cases hc : c = 32
    · subst hc
      rw [spl_hit (by rfl)]
      have ih := spl_sum l []
      show ((acc :: spl [32] 0 [] l).map List.length).sum + (acc :: spl [32] 0 [] l).length = _
      simp only [List.map_cons, List.sum_cons, List.length_cons, List.length_nil] at ih ⊢
      omega
    · rw [spl_miss (pre_of_head _ _ hc)]
      have ih := spl_sum l (acc ++ [c])
      simp only [List.length_append, List.length_cons, List.length_nil] at ih ⊢
      omega
theorem joinL_mem {c : Nat} : ∀ {ls : List (List Nat)}, c ∈ joinL [32] ls → c = 32 ∨ ∃ p ∈ ls, c ∈ p
  | [p], h => .inr ⟨p, by simp, h⟩
  | p :: q :: r, h => by
    rcases List.mem_append.mp (show c ∈ p ++ ([32] ++ joinL [32] (q :: r)) from h) with h | h
    · exact .inr ⟨p, by simp, h⟩
    · rcases List.mem_append.mp h with h | h
      · exact .inl (List.mem_singleton.mp h)
      · rcases joinL_mem h with h | ⟨x, hx, hc⟩
        · exact .inl h
        · exact .inr ⟨x, List.mem_cons_of_mem _ hx, hc⟩
theorem sum_parts {ws : List Str} {n : Nat} : ((ws.take n).map (fun x : Str => x.length)).sum + ((ws.drop (n + 1)).map (fun x : Str => x.length)).sum ≤ (ws.map (fun x : Str => x.length)).sum := by
  have e : (ws.map (fun x : Str => x.length)).sum = ((ws.take n).map (fun x : Str => x.length)).sum + ((ws.drop n).map (fun x : Str => x.length)).sum := by
    rw [← List.sum_append, ← List.map_append, List.take_append_drop]
  rw [e]
  have : ((ws.drop (n + 1)).map (fun x : Str => x.length)).sum ≤ ((ws.drop n).map (fun x : Str => x.length)).sum := by
    by_cases h : n < ws.length
    · rw [List.drop_eq_getElem_cons h, List.map_cons, List.sum_cons]
      omega
    · rw [List.drop_eq_nil_of_le (by omega), List.drop_eq_nil_of_le (by omega)]
      exact Nat.le_refl _
  omega
theorem cut_to {xs : List V} {n : Nat} : cutV xs none (some (n : Int)) = xs.take n := by
  unfold cutV
  rw [HT.sIx_none, HT.sIx_nat, List.drop_zero, Nat.sub_zero]
  by_cases h : n ≤ xs.length
  · rw [Nat.min_eq_left h]
  · rw [Nat.min_eq_right (by omega), List.take_length, List.take_of_length_le (by omega)]
theorem cut_from {xs : List V} {n : Nat} : cutV xs (some (n : Int)) none = xs.drop n := by
  unfold cutV
  rw [HT.sIx_none, HT.sIx_nat]
  by_cases h : n ≤ xs.length
  · rw [Nat.min_eq_left h]
    exact List.take_of_length_le (by rw [List.length_drop]; omega)
  · rw [Nat.min_eq_right (by omega), List.drop_length, List.drop_eq_nil_of_le (by omega), List.take_nil]
def sp_law_spoilt (K : PySem.W.Frag) : Sp := fun vs H Q _ => ∃ (s d : Addr) (z : Str), vs = [.ref s, .str z] ∧ Sta s d H ∧ Lin 600 z ∧ ∀ z' H', Spo z' → Lin 1900 z' → Sta s d H' → Same (hid s d H) (hid s d H') → Q (.str z') H'
theorem sc_law_spoilt : FnScope ["s", "line", "words", "at", "odd", "sort"] ["s", "line"] (defScope s_law_spoilt) := ⟨rfl, rfl, rfl, by decide +kernel, rfl, by decide +kernel, by decide +kernel⟩
theorem ok_law_spoilt (T : Tx w K mg) : OkF P w K mg base CX0 2 "_law_spoilt" ["s", "line"] (sp_law_spoilt K) := by
  have G_law_pick := ok_law_pick (P := P) (base := base) T
  refine Tx.def0 T 36 rfl T.g_law_spoilt sc_law_spoilt (fun _ _ _ _ _ _ us hl => match us, hl with | [_, _], _ => rfl) (fun vs H Q E h => ?_) (fun f cdv A outer s H vs Q E hr h => ?_)
  · obtain ⟨sa, d, z, rfl, S, hz, q⟩ := h; rfl
  · obtain ⟨sa, d, z, rfl, S, hz, q⟩ := h
    refine ⟨_, (pss_cons (ps_set (i := 2) sc_law_spoilt.nd rfl (by first | exact Or.inl rfl | exact Or.inr rfl) (pe_split (pv 1) pe_str))
      (pss_cons (ps_set (i := 3) sc_law_spoilt.nd rfl (by first | exact Or.inl rfl | exact Or.inr rfl) (pe_callO G_law_pick (hr.mono (by decide)) (by rfl) pass0 (pa_cons (pv 0) (pa_cons (pe_callB (call_lenG) (by rfl) T.f_len (by decide +kernel) (pa_cons (pv 2) pa_nil)) pa_nil))))
      (pss_cons (ps_set (i := 4) sc_law_spoilt.nd rfl (by first | exact Or.inl rfl | exact Or.inr rfl) (pe_ix ix_seq (pe_lst (pa_cons pe_str (pa_cons pe_str (pa_cons pe_str (pa_cons pe_str (pa_cons pe_str (pa_cons pe_str (pa_cons pe_str (pa_cons pe_str pa_nil))))))))) (pe_callO G_law_pick (hr.mono (by decide)) (by rfl) pass0 (pa_cons (pv 0) (pa_cons pe_int pa_nil))) (fun _ _ => rfl)))
      (pss_cons (ps_set (i := 5) sc_law_spoilt.nd rfl (by first | exact Or.inl rfl | exact Or.inr rfl) (pe_callO G_law_pick (hr.mono (by decide)) (by rfl) pass0 (pa_cons (pv 0) (pa_cons pe_int pa_nil))))
      (pss_cons (ps_if (pt_cmpR (op_eqG hr.units) (pv 5) pe_int (nomark _))
        (pss_one (ps_ret (pe_op op_addG (pv 1) pe_str)))
        pss_nil)
      (pss_cons (ps_if (pt_cmpR (op_eqG hr.units) (pv 5) pe_int (nomark _))
        (pss_one (ps_ret (pe_op op_addG pe_str (pv 1))))
        pss_nil)
      (pss_cons (ps_if (pt_cmpR (op_eqG hr.units) (pv 5) pe_int (nomark _))
        (pss_one (ps_ret (pe_join pe_str (pe_op op_addG (pe_op op_addG (pe_slice sl_G (pv 2) po_none (po_some (pv 3))) (pe_lst (pa_cons (pv 4) pa_nil))) (pe_slice sl_G (pv 2) (po_some (pe_op op_addG (pv 3) pe_int)) po_none)))))
        pss_nil)
      (pss_cons (ps_if (pt_cmpR (op_eqG hr.units) (pv 5) pe_int (nomark _))
        (pss_one (ps_ret (pe_ifInRepl op_inG (pv 1) (by rfl) (CwR.pet_replC (pv 1)) pe_str)))
        pss_nil)
      (pss_one (ps_ret (pe_op op_addG (pe_op op_addG (pv 1) pe_str) (pv 4)))))))))))), ?_⟩
    have hzt : Tok90 z := ⟨by have := hz.len; omega, fun c hc => (hz.asc c hc).1⟩
    obtain ⟨hq1, hq2, hq3⟩ := words_wd hzt
    walk_at "rd"
    refine x_spl (by decide +kernel) (sz_le (by have := hz.len; omega)) fun pw hpw => ?_
    have s1 : Same (hid sa d H) (hid sa d (upd H pw (.lst ((Txt.split z " ").map V.str)))) := hid_same (same_new hpw)
    have S1 := S.new (o := .lst ((Txt.split z " ").map V.str)) hpw
    have hw1 : hid sa d (upd H pw (.lst ((Txt.split z " ").map V.str))) pw = some (.lst ((wordsS z).map V.str)) := by rw [hid_new S hpw, upd_same]; rfl
    show gName 2 _ _ _ _
    generalize upd H pw (.lst ((Txt.split z " ").map V.str)) = H1 at s1 S1 hw1 ⊢
    walk_at "rd"
    refine a_lenL (SqL.of (hid_le _ _ hw1)) ?_
    walk_at "rd"
    rw [List.length_map]
    have hpos : 0 < (wordsS z).length := List.length_pos_iff.mpr hq3
    refine ⟨sa, d, (wordsS z).length, rfl, S1, ⟨by omega, by omega⟩, fun r2 H2 h20 h21 S2 e2 => ?_⟩
    rw [← e2] at s1 hw1
    obtain ⟨n, rfl⟩ : ∃ n : Nat, r2 = (n : Int) := ⟨r2.toNat, by omega⟩
    have hn : n < (wordsS z).length := by omega
    walk_at "rd"
    refine ⟨sz_lit (n := 8), fun po hpo => ?_⟩
    have hpo' : hid sa d (upd H2 po (.lst (odds8.map V.str))) po = some (.lst (odds8.map V.str)) := by rw [hid_new S2 hpo, upd_same]
    have s2 : Same (hid sa d H) (hid sa d (upd H2 po (.lst (odds8.map V.str)))) := s1.trans (hid_same (same_new hpo))
    replace hw1 := hid_same (s := sa) (d := d) (same_new (o := .lst (odds8.map V.str)) hpo) _ _ hw1
    replace S2 := S2.new (o := .lst (odds8.map V.str)) hpo
    rw [show ([V.str "A", V.str "01", V.str "1234567890", V.str "", V.str "x_", V.str "-1", V.str "abcdefghijklmnopq", V.str "1a"] : List V) = odds8.map V.str from rfl]
    generalize upd H2 po (.lst (odds8.map V.str)) = H3 at hpo' s2 hw1 S2 ⊢
    walk_at "rd"
    refine ⟨sa, d, 8, rfl, S2, ⟨by decide, by decide⟩, fun r4 H4 h40 h41 S4 e4 => ?_⟩
    rw [← e4] at s2 hw1 hpo'
    obtain ⟨o, ho, eo⟩ := pick_name (ws := odds8) h40 h41
    refine a_ixL (SqL.of (hid_le _ _ hpo')) eo ?_
    have olen : o.length ≤ 17 ∧ ∀ c ∈ tl o, c < 128 ∧ c ≠ 10 := by
      have : (odds8.all fun o => decide (o.length ≤ 17) && (tl o).all fun c => decide (c < 128 ∧ c ≠ 10)) = true := by decide +kernel
      have := List.all_eq_true.mp this o ho
      rw [Bool.and_eq_true] at this
      exact ⟨of_decide_eq_true this.1, fun c hc => of_decide_eq_true (List.all_eq_true.mp this.2 c hc)⟩
    walk_at "rd"
    refine ⟨sa, d, 5, rfl, S4, ⟨by decide, by decide⟩, fun r5 H5 h50 h51 S5 e5 => ?_⟩
    rw [← e5] at s2 hw1 hpo'
    have zl := hz.len
    have sp1 : (" " : Str).length = 1 := rfl
    walk_at "rd"
    refine x_ite (fun g => ?_) (fun g => ?_)
    · walk_at "rd"
      refine a_addS (sz_le (by rw [sp1]; omega)) ?_
      refine q _ _ (spo_end z) ⟨by rw [Str.length_append, sp1]; omega, fun c hc => ?_⟩ S5 s2
      rw [tl_append] at hc
      rcases List.mem_append.mp hc with hc | hc
      · exact hz.asc c hc
      · rw [List.mem_singleton.mp (show c ∈ [32] from hc)]; decide
    walk_at "rd"
    refine x_ite (fun g => ?_) (fun g => ?_)
    · walk_at "rd"
      refine a_addS (sz_le (by rw [sp1]; omega)) ?_
      refine q _ _ (spo_start z) ⟨by rw [Str.length_append, sp1]; omega, fun c hc => ?_⟩ S5 s2
      rw [tl_append] at hc
      rcases List.mem_append.mp hc with hc | hc
      · rw [List.mem_singleton.mp (show c ∈ [32] from hc)]; decide
      · exact hz.asc c hc
    walk_at "rd"
    refine x_ite (fun g => ?_) (fun g => ?_)
    · -- a word exchanged
      have hwl : ∀ w ∈ wordsS z, w.length ≤ 600 := fun w hw => by
        have e := split_spl z " " (by decide +kernel) (kind_ok (by decide +kernel))
        have hm : tl w ∈ spl [32] 0 [] (tl z) := by rw [← words_tl]; exact List.mem_map.mpr ⟨w, hw, rfl⟩
        have := (spl_sub _ (tl z) [] (Nat.le_refl _) _ hm).2
        rw [← len_tl, ← len_tl] at this
        simp only [List.length_nil] at this
        omega
      have hwa : ∀ w ∈ wordsS z, ∀ c ∈ tl w, c < 128 ∧ c ≠ 10 := fun w hw c hc => by
        have hm : tl w ∈ spl [32] 0 [] (tl z) := by rw [← words_tl]; exact List.mem_map.mpr ⟨w, hw, rfl⟩
        have := (spl_sub _ (tl z) [] (Nat.le_refl _) _ hm).1 c hc
        exact hz.asc c (by simpa using this)
      have hwn : (wordsS z).length ≤ 601 := by
        have := (spl_count (S := [32]) _ (tl z) [] (Nat.le_refl _)).1
        rw [← words_tl, List.length_map, ← len_tl] at this
        omega
      walk_at "rd"
      refine a_slL (SqL.of (hid_le _ _ hw1)) fun p1 hp1 => ?_
      rw [cut_to, ← List.map_take]
      have s3 := s2.trans (hid_same (s := sa) (d := d) (same_new (o := .lst (((wordsS z).take n).map V.str)) hp1))
      have S6 := S5.new (o := .lst (((wordsS z).take n).map V.str)) hp1
      have hw2 := hid_le _ _ (hid_same (s := sa) (d := d) (same_new (o := .lst (((wordsS z).take n).map V.str)) hp1) _ _ hw1)
      have h1 : (upd H5 p1 (.lst (((wordsS z).take n).map V.str))) p1 = some (.lst (((wordsS z).take n).map V.str)) := upd_same
      generalize upd H5 p1 (.lst (((wordsS z).take n).map V.str)) = H6 at s3 S6 hw2 h1 ⊢
      walk_at "rd"
      refine ⟨sz_lit (n := 1), fun p2 hp2 => ?_⟩
      have s4 := s3.trans (hid_same (s := sa) (d := d) (same_new (o := .lst [.str o]) hp2))
      replace S6 := S6.new (o := .lst [.str o]) hp2
      replace hw2 := same_new (o := .lst [.str o]) hp2 _ _ hw2
      replace h1 := same_new (o := .lst [.str o]) hp2 _ _ h1
      have h2 : (upd H6 p2 (.lst [.str o])) p2 = some (.lst [.str o]) := upd_same
      generalize upd H6 p2 (.lst [.str o]) = H7 at s4 S6 hw2 h1 h2 ⊢
      refine a_addL h1 h2 (sz_le (by rw [List.length_map, List.length_take]; show _ + 1 ≤ _; omega)) fun p3 hp3 => ?_
      have e3 : ((wordsS z).take n).map V.str ++ [V.str o] = ((wordsS z).take n ++ [o]).map V.str := by rw [List.map_append]; rfl
      rw [e3]
      have s5 := s4.trans (hid_same (s := sa) (d := d) (same_new (o := .lst (((wordsS z).take n ++ [o]).map V.str)) hp3))
      replace S6 := S6.new (o := .lst (((wordsS z).take n ++ [o]).map V.str)) hp3
      replace hw2 := same_new (o := .lst (((wordsS z).take n ++ [o]).map V.str)) hp3 _ _ hw2
      have h3 : (upd H7 p3 (.lst (((wordsS z).take n ++ [o]).map V.str))) p3 = some (.lst (((wordsS z).take n ++ [o]).map V.str)) := upd_same
      generalize upd H7 p3 (.lst (((wordsS z).take n ++ [o]).map V.str)) = H8 at s5 S6 hw2 h3 ⊢
      walk_at "rd"
      refine a_slL (SqL.of hw2) fun p4 hp4 => ?_
      rw [show ((n : Int) + 1) = ((n + 1 : Nat) : Int) from rfl, cut_from, ← List.map_drop]
      have s6 := s5.trans (hid_same (s := sa) (d := d) (same_new (o := .lst (((wordsS z).drop (n + 1)).map V.str)) hp4))
      replace S6 := S6.new (o := .lst (((wordsS z).drop (n + 1)).map V.str)) hp4
      replace h3 := same_new (o := .lst (((wordsS z).drop (n + 1)).map V.str)) hp4 _ _ h3
      have h4 : (upd H8 p4 (.lst (((wordsS z).drop (n + 1)).map V.str))) p4 = some (.lst (((wordsS z).drop (n + 1)).map V.str)) := upd_same
      generalize upd H8 p4 (.lst (((wordsS z).drop (n + 1)).map V.str)) = H9 at s6 S6 h3 h4 ⊢
      have hlen3 : ((wordsS z).take n ++ [o] ++ (wordsS z).drop (n + 1)).length ≤ 601 := by
        simp only [List.length_append, List.length_take, List.length_drop, List.length_cons, List.length_nil]
        omega
      refine a_addL h3 h4 (sz_le (by
        simp only [List.length_append, List.length_take, List.length_drop, List.length_cons, List.length_nil, List.length_map] at hlen3 ⊢
        omega)) fun p5 hp5 => ?_
      rw [← List.map_append]
      have s7 := s6.trans (hid_same (s := sa) (d := d) (same_new (o := .lst (((wordsS z).take n ++ [o] ++ (wordsS z).drop (n + 1)).map V.str)) hp5))
      replace S6 := S6.new (o := .lst (((wordsS z).take n ++ [o] ++ (wordsS z).drop (n + 1)).map V.str)) hp5
      have hmem : ∀ w ∈ (wordsS z).take n ++ [o] ++ (wordsS z).drop (n + 1), w.length ≤ 600 ∧ ∀ c ∈ tl w, c < 128 ∧ c ≠ 10 := fun w hw => by
        rcases List.mem_append.mp hw with hw | hw
        · rcases List.mem_append.mp hw with hw | hw
          · exact ⟨hwl w (List.mem_of_mem_take hw), hwa w (List.mem_of_mem_take hw)⟩
          · rw [List.mem_singleton.mp hw]
            exact ⟨by omega, olen.2⟩
        · exact ⟨hwl w (List.mem_of_mem_drop hw), hwa w (List.mem_of_mem_drop hw)⟩
      refine ⟨" ", p5, _, rfl, rfl, .inl (SqL.of upd_same), join_size (b := 600) (fun w hw => (hmem w hw).1) (by omega), ?_⟩
      refine q _ _ (spo_join ho words_free) ⟨?_, fun c hc => ?_⟩ S6 s7
      · have hj := join_len " " ((wordsS z).take n ++ [o] ++ (wordsS z).drop (n + 1))
        have hsp := sum_parts (ws := wordsS z) (n := n)
        have hss := spl_sum (tl z) []
        rw [← words_tl, List.length_map, List.map_map] at hss
        have emap : ((wordsS z).map (List.length ∘ tl)).sum = ((wordsS z).map (fun x : Str => x.length)).sum := congrArg List.sum (List.map_congr_left fun x _ => (len_tl x).symm)
        rw [emap, ← len_tl] at hss
        rw [List.map_append, List.map_append, List.sum_append, List.sum_append, sp1] at hj
        simp only [List.map_cons, List.map_nil, List.sum_cons, List.sum_nil, List.length_nil] at hj hss
        show (Txt.join " " ((wordsS z).take n ++ [o] ++ (wordsS z).drop (n + 1))).length ≤ 1900
        omega
      · have hc' : c ∈ joinL [32] (((wordsS z).take n ++ [o] ++ (wordsS z).drop (n + 1)).map tl) := by
          rw [← lineS_tl]; exact hc
        rcases joinL_mem hc' with rfl | ⟨p, hp, hcp⟩
        · decide
        · obtain ⟨w, hw, rfl⟩ := List.mem_map.mp hp
          exact (hmem w hw).2 c hcp
    walk_at "rd"
    refine x_ite (fun g => ?_) (fun g => ?_)
    · -- doubled
      walk_at "rd"
      refine a_inS (c := 32) ?_
      walk_at "rd"
      refine x_ite (fun g2 => ?_) (fun g2 => ?_)
      · refine x_repl ?_
        walk_at "rd"
        refine ⟨z, rfl, by rw [show ("  " : Str).length = 2 from rfl]; omega, ?_⟩
        have hrl := TK.replace_len z " " "  "
        rw [show ("  " : Str).length = 2 from rfl] at hrl
        refine q _ _ (spo_repl (of_decide_eq_true g2)) ⟨by omega, fun c hc => ?_⟩ S5 s2
        rw [repl_tl] at hc
        rcases repl_mem _ (Nat.le_refl _) hc with rfl | hc
        · decide
        · exact hz.asc c hc
      · walk_at "rd"
        exact q _ _ spo_empty ⟨by decide +kernel, fun c hc => by cases hc⟩ S5 s2
    walk_at "rd"
    refine a_addS (sz_le (by rw [sp1]; omega)) ?_
    walk_at "rd"
    refine a_addS (sz_le (by rw [Str.length_append, sp1]; omega)) ?_
    refine q _ _ (spo_more z ho) ⟨by rw [Str.length_append, Str.length_append, sp1]; omega, fun c hc => ?_⟩ S5 s2
    rw [tl_append, tl_append] at hc
    rcases List.mem_append.mp hc with hc | hc
    · rcases List.mem_append.mp hc with hc | hc
      · exact hz.asc c hc
      · rw [List.mem_singleton.mp (show c ∈ [32] from hc)]; decide
    · exact olen.2 c hc
end
end K97


set_option maxRecDepth 100000
set_option maxHeartbeats 4000000
namespace K97
open PySem PySem.Spec PyProof.Rows L2 TL NB
local macro_rules | `(tactic| walk_at "rd") => `(tactic| repeat (first
  | (with_reducible refine x_seq ?_) | (with_reducible refine x_asg ?_) | (with_reducible refine x_gName ?_) | (with_reducible refine x_ret ?_) | (with_reducible refine x_drop ?_) | (with_reducible refine x_ifS ?_)
  | (with_reducible refine x_op ?_) | (with_reducible refine x_c ?_) | ((with_reducible refine' x_var ?k1 ?_); (case k1 => with_unfolding_all rfl)) | (with_reducible refine x_cb ?_) | (with_reducible refine x_call0 ?_) | (with_reducible refine x_cons ?_) | (with_reducible refine x_nil ?_)
  | (with_reducible refine x_test ?_) | (with_reducible refine x_B ?_) | (with_reducible refine x_bl ?_) | (with_reducible refine x_and ?_) | (with_reducible refine x_or ?_) | (with_reducible refine x_not ?_)
  | (with_reducible refine x_andV ?_) | (with_reducible refine x_orV ?_) | (with_reducible refine x_notV ?_) | (with_reducible refine x_if ?_) | (with_reducible refine x_isN ?_) | (with_reducible refine x_notN ?_)
  | (with_reducible refine x_tup ?_) | (with_reducible refine x_lst ?_) | (with_reducible refine x_sl ?_) | (with_reducible refine x_noPart ?_) | (with_reducible refine x_part ?_) | (with_reducible refine x_int ?_)
  | (with_reducible refine x_bm ?_) | (with_reducible refine x_m1 ?_) | (with_reducible refine x_tyS ?_) | (with_reducible refine x_gNil ?_) | (with_reducible refine x_gCons ?_) | (with_reducible refine x_gSub ?_) | (with_reducible refine x_next ?_) | (with_reducible refine x_brk ?_)
  | (with_reducible refine x_slStep ?_) | (with_reducible refine x_lc ?_) | (with_reducible refine x_for ?_) | (with_reducible refine x_iL ?_) | (with_reducible refine x_iR1 ?_) | (with_reducible refine x_iR3 ?_) | (with_reducible refine x_iS ?_) | (with_reducible refine x_ref ?_) | (with_reducible refine x_yes ?_)
  | (with_reducible refine a_addI ?_) | (with_reducible refine x_I0 ?_) | (with_reducible refine a_eq rfl ?_) | (with_reducible refine a_ne rfl ?_) | (with_reducible refine a_inS ?_) | (with_reducible refine a_ninS ?_) | (with_reducible refine x_strS ?_) | (with_reducible refine x_intI ?_) | (with_reducible refine x_iB ?_) | (with_reducible refine x_iT ?_)))

section
variable {P : Program} {w : World} {K : PySem.W.Frag} {mg : Str → Option Value} {base : Heap}
/-! ### texts and lines -/
theorem textS_tl (ls : List Str) : tl (textS ls) = (ls.map fun z => tl z ++ [10]).flatten := by
  unfold textS
  rw [cat_tl, List.map_map]
  congr 1
  refine List.map_congr_left fun z _ => ?_
  show tl (z ++ ("\n" : Str)) = _
  rw [tl_append]
  rfl
theorem spl_lines : ∀ {ls : List (List Nat)} {r : List Nat}, (∀ p ∈ ls, 10 ∉ p) → spl [10] 0 [] ((ls.map fun p => p ++ [10]).flatten ++ r) = ls ++ spl [10] 0 [] r
  | [], r, _ => rfl
  | p :: ls, r, h => by
    rw [List.map_cons, List.flatten_cons, List.append_assoc, List.append_assoc]
    show spl [10] 0 [] (p ++ ([10] ++ ((ls.map fun p => p ++ [10]).flatten ++ r))) = _
    rw [spl_part1 (S := []) (h p List.mem_cons_self), spl_lines fun q hq => h q (List.mem_cons_of_mem _ hq)]
    rfl
theorem lines_tl (z : Str) : (linesS z).map tl = spl [10] 0 [] (tl z) := split_spl z "\n" (by decide +kernel) (kind_ok (by decide +kernel))
/-- a text of lines and a rest without a line feed, split -/
theorem lines_rest {ls : List Str} {z x : Str} (e : tl z = tl (textS ls) ++ tl x) (h : ∀ p ∈ ls, 10 ∉ tl p) (hx : 10 ∉ tl x) : linesS z = ls ++ [x] := by
  refine map_tl_inj ?_
  have hm : ∀ p ∈ ls.map tl, 10 ∉ p := fun p hp => by
    obtain ⟨w, hw, rfl⟩ := List.mem_map.mp hp
    exact h w hw
  have e2 : (ls.map fun z => tl z ++ [10]).flatten = ((ls.map tl).map fun p => p ++ [10]).flatten := by
    rw [List.map_map]
    rfl
  rw [lines_tl, e, textS_tl, e2, spl_lines hm, spl_last1 (S := []) hx, List.map_append]
  rfl
theorem lines_text {ls : List Str} (h : ∀ p ∈ ls, 10 ∉ tl p) : linesS (textS ls) = ls ++ [("" : Str)] :=
  lines_rest (x := "") (by rw [show tl ("" : Str) = [] from rfl, List.append_nil]) h (by simp [show tl ("" : Str) = [] from rfl])
/-! ### what is read of a text of lines -/
theorem read_text {ls : List Str} (h : ∀ p ∈ ls, 10 ∉ tl p) : readRows (textS ls) = match vwScan "told" 0 ls with
    | .error k => .error k
    | .ok b => if followL b = none then .ok (ls.map wordsS) else .error (ls.length + 1) := by
  unfold readRows
  rw [lines_text h, List.dropLast_concat]
  cases vwScan "told" 0 ls with
  | error k => rfl
  | ok b =>
    simp
theorem scan_app : ∀ {a : List Str} {b b' : Str} {k : Nat} {r : List Str}, vwScan b k a = .ok b' → vwScan b k (a ++ r) = vwScan b' (k + a.length) r
  | [], b, b', k, r, h => by
    cases (Except.ok.inj h)
    rfl
  | z :: a, b, b', k, r, h => by
    unfold vwScan at h
    rw [List.cons_append]
    conv => lhs; unfold vwScan
    cases e : vwStep b (wordsS z) with
    | none => rw [e] at h; cases h
    | some b2 =>
      rw [e] at h
      dsimp only at h ⊢
      rw [scan_app h, List.length_cons, show k + 1 + a.length = k + (a.length + 1) from by omega]
theorem scan_pre : ∀ {a r : List Str} {b b' : Str} {k : Nat}, vwScan b k (a ++ r) = .ok b' → ∃ b2, vwScan b k a = .ok b2
  | [], r, b, b', k, h => ⟨b, rfl⟩
  | z :: a, r, b, b', k, h => by
    rw [List.cons_append] at h
    unfold vwScan at h ⊢
    cases e : vwStep b (wordsS z) with
    | none => rw [e] at h; cases h
    | some b2 =>
      rw [e] at h
      dsimp only at h ⊢
      exact scan_pre h
theorem scan_stop {z : Str} {r : List Str} {b : Str} {k : Nat} (h : vwStep b (wordsS z) = none) : vwScan b k (z :: r) = .error (k + 1) := by
  unfold vwScan
  rw [h]
end
end K97


set_option maxRecDepth 100000
set_option maxHeartbeats 4000000
namespace K97
open PySem PySem.Spec PyProof.Rows L2 TL NB
local macro_rules | `(tactic| walk_at "rd") => `(tactic| repeat (first
  | (with_reducible refine x_seq ?_) | (with_reducible refine x_asg ?_) | (with_reducible refine x_gName ?_) | (with_reducible refine x_ret ?_) | (with_reducible refine x_drop ?_) | (with_reducible refine x_ifS ?_)
  | (with_reducible refine x_op ?_) | (with_reducible refine x_c ?_) | ((with_reducible refine' x_var ?k1 ?_); (case k1 => with_unfolding_all rfl)) | (with_reducible refine x_cb ?_) | (with_reducible refine x_call0 ?_) | (with_reducible refine x_cons ?_) | (with_reducible refine x_nil ?_)
  | (with_reducible refine x_test ?_) | (with_reducible refine x_B ?_) | (with_reducible refine x_bl ?_) | (with_reducible refine x_and ?_) | (with_reducible refine x_or ?_) | (with_reducible refine x_not ?_)
  | (with_reducible refine x_andV ?_) | (with_reducible refine x_orV ?_) | (with_reducible refine x_notV ?_) | (with_reducible refine x_if ?_) | (with_reducible refine x_isN ?_) | (with_reducible refine x_notN ?_)
  | (with_reducible refine x_tup ?_) | (with_reducible refine x_lst ?_) | (with_reducible refine x_sl ?_) | (with_reducible refine x_noPart ?_) | (with_reducible refine x_part ?_) | (with_reducible refine x_int ?_)
  | (with_reducible refine x_bm ?_) | (with_reducible refine x_m1 ?_) | (with_reducible refine x_tyS ?_) | (with_reducible refine x_gNil ?_) | (with_reducible refine x_gCons ?_) | (with_reducible refine x_gSub ?_) | (with_reducible refine x_next ?_) | (with_reducible refine x_brk ?_)
  | (with_reducible refine x_slStep ?_) | (with_reducible refine x_lc ?_) | (with_reducible refine x_for ?_) | (with_reducible refine x_iL ?_) | (with_reducible refine x_iR1 ?_) | (with_reducible refine x_iR3 ?_) | (with_reducible refine x_iS ?_) | (with_reducible refine x_ref ?_) | (with_reducible refine x_yes ?_)
  | (with_reducible refine a_addI ?_) | (with_reducible refine x_I0 ?_) | (with_reducible refine a_eq rfl ?_) | (with_reducible refine a_ne rfl ?_) | (with_reducible refine a_inS ?_) | (with_reducible refine a_ninS ?_) | (with_reducible refine x_strS ?_) | (with_reducible refine x_intI ?_) | (with_reducible refine x_iB ?_) | (with_reducible refine x_iT ?_)))

section
variable {P : Program} {w : World} {K : PySem.W.Frag} {mg : Str → Option Value} {base : Heap}
/-! ### words of our own lines -/
theorem tok_free {z : Str} (h : Tok z) : 32 ∉ tl z ∧ 10 ∉ tl z := ⟨fun m => by have := h.2 _ m; omega, fun m => by have := h.2 _ m; omega⟩
theorem words_line {ws : List Str} (h : LineOk ws) : wordsS (lineS ws) = ws := split_join (s := 32) (S := []) (by rfl) (by decide +kernel) h.ne fun p hp => (tok_free (h.tok p hp)).1
theorem line_lin {ws : List Str} (h : LineOk ws) : Lin 272 (lineS ws) := by
  refine ⟨?_, fun c hc => ?_⟩
  · have h1 := lineS_len (b := 16) fun z hz => (h.tok z hz).1
    have h2 := h.len
    omega
  · rw [lineS_tl] at hc
    rcases joinL_mem hc with rfl | ⟨p, hp, hcp⟩
    · decide
    · obtain ⟨w, hw, rfl⟩ := List.mem_map.mp hp
      have := (h.tok w hw).2 c hcp
      omega
theorem word_num {n : Nat} (h : Nb n) : wordInt (numS n) = (n : Int) := by
  unfold wordInt
  have e : intText? (numS n) = some (n : Int) := int_num (by
    have := numL_len (n := n) (k := 9) (by decide) (by have h2 : n < 1000000000 := h; simpa using h2)
    omega)
  rw [e] <;> rfl
theorem intP_num {n : Nat} (h : Nb n) : intP (numS n) = numD n := by
  unfold intP numD
  rw [word_num h]
theorem intP_nums {ns : List Nat} (h : ∀ n ∈ ns, Nb n) : (ns.map numS).map intP = ns.map numD := by
  rw [List.map_map]
  exact List.map_congr_left fun n hn => intP_num (h n hn)
theorem numsP_nums {ns : List Nat} (h : ∀ n ∈ ns, Nb n) : numsP (ns.map numS) = numsD ns := by
  unfold numsP numsD
  rw [intP_nums h]
theorem isOne_b {b : Bool} : isOne (b01S b) = .bool b := by
  cases b <;> rfl
/-- a number's own word stands as one -/
theorem numL_head {n : Nat} (h : 0 < n) : ∃ c r, numL n = c :: r ∧ c ≠ 48 := by
  induction n using Nat.strongRecOn with
  | _ n ih =>
    by_cases h10 : n < 10
    · rw [numL_lt h10]
      exact ⟨48 + n, [], rfl, by omega⟩
    · obtain ⟨c, r, e, hc⟩ := ih (n / 10) (by omega) (by omega)
      rw [numL_step (by omega), e]
      exact ⟨c, r ++ [48 + n % 10], rfl, hc⟩
theorem number_num {n : Nat} (h : Nb n) : numberWord (numS n) = true := by
  have hl := numS_len h
  have hd : allIn (numS n) sDigits = true := by
    unfold allIn
    rw [numS_tl, List.all_eq_true]
    intro c hc
    have := numL_digits n c hc
    have hk : ∀ k : Nat, k < 10 → 48 + k ∈ tl sDigits := by decide +kernel
    have h2 := hk (c - 48) (by omega)
    rw [show 48 + (c - 48) = c from by omega] at h2
    exact decide_eq_true h2
  have hne : numS n ≠ "" := fun e => by
    have := congrArg tl e
    rw [numS_tl] at this
    exact numL_ne n this
  unfold numberWord
  rw [decide_eq_false hne, decide_eq_false (by omega), hd]
  by_cases h0 : n = 0
  · subst h0
    rfl
  · obtain ⟨c, r, e, hc⟩ := numL_head (n := n) (by omega)
    rw [numS_tl, e]
    show (true && (_ || !decide (c = 48))) = true
    rw [decide_eq_false hc]
    simp
theorem numbers_num {ns : List Nat} (h : ∀ n ∈ ns, Nb n) : (ns.map numS).all numberWord = true := by
  rw [List.all_eq_true]
  intro z hz
  obtain ⟨n, hn, rfl⟩ := List.mem_map.mp hz
  exact number_num (h n hn)
theorem b01_b {b : Bool} : b01 (b01S b) = true ∧ numberWord (b01S b) = true := by
  cases b <;> exact ⟨by decide +kernel, by decide +kernel⟩
theorem names_all {zs : List Str} (h : ∀ z ∈ zs, Nm z) : zs.all nameWord = true := by
  rw [List.all_eq_true]
  exact h
end
end K97


set_option maxRecDepth 100000
set_option maxHeartbeats 4000000
namespace K97
open PySem PySem.Spec PyProof.Rows L2 TL NB
local macro_rules | `(tactic| walk_at "rd") => `(tactic| repeat (first
  | (with_reducible refine x_seq ?_) | (with_reducible refine x_asg ?_) | (with_reducible refine x_gName ?_) | (with_reducible refine x_ret ?_) | (with_reducible refine x_drop ?_) | (with_reducible refine x_ifS ?_)
  | (with_reducible refine x_op ?_) | (with_reducible refine x_c ?_) | ((with_reducible refine' x_var ?k1 ?_); (case k1 => with_unfolding_all rfl)) | (with_reducible refine x_cb ?_) | (with_reducible refine x_call0 ?_) | (with_reducible refine x_cons ?_) | (with_reducible refine x_nil ?_)
  | (with_reducible refine x_test ?_) | (with_reducible refine x_B ?_) | (with_reducible refine x_bl ?_) | (with_reducible refine x_and ?_) | (with_reducible refine x_or ?_) | (with_reducible refine x_not ?_)
  | (with_reducible refine x_andV ?_) | (with_reducible refine x_orV ?_) | (with_reducible refine x_notV ?_) | (with_reducible refine x_if ?_) | (with_reducible refine x_isN ?_) | (with_reducible refine x_notN ?_)
  | (with_reducible refine x_tup ?_) | (with_reducible refine x_lst ?_) | (with_reducible refine x_sl ?_) | (with_reducible refine x_noPart ?_) | (with_reducible refine x_part ?_) | (with_reducible refine x_int ?_)
  | (with_reducible refine x_bm ?_) | (with_reducible refine x_m1 ?_) | (with_reducible refine x_tyS ?_) | (with_reducible refine x_gNil ?_) | (with_reducible refine x_gCons ?_) | (with_reducible refine x_gSub ?_) | (with_reducible refine x_next ?_) | (with_reducible refine x_brk ?_)
  | (with_reducible refine x_slStep ?_) | (with_reducible refine x_lc ?_) | (with_reducible refine x_for ?_) | (with_reducible refine x_iL ?_) | (with_reducible refine x_iR1 ?_) | (with_reducible refine x_iR3 ?_) | (with_reducible refine x_iS ?_) | (with_reducible refine x_ref ?_) | (with_reducible refine x_yes ?_)
  | (with_reducible refine a_addI ?_) | (with_reducible refine x_I0 ?_) | (with_reducible refine a_eq rfl ?_) | (with_reducible refine a_ne rfl ?_) | (with_reducible refine a_inS ?_) | (with_reducible refine a_ninS ?_) | (with_reducible refine x_strS ?_) | (with_reducible refine x_intI ?_) | (with_reducible refine x_iB ?_) | (with_reducible refine x_iT ?_)))

section
variable {P : Program} {w : World} {K : PySem.W.Frag} {mg : Str → Option Value} {base : Heap}
/-! ### the scan, word by word -/
def wScan : Str → Nat → List (List Str) → Except Nat Str
  | b, _, [] => .ok b
  | b, k, ws :: r => match vwStep b ws with
    | some b' => wScan b' (k + 1) r
    | none => .error (k + 1)
theorem scan_words : ∀ {W : List (List Str)} {b : Str} {k : Nat}, (∀ ws ∈ W, LineOk ws) → vwScan b k (W.map lineS) = wScan b k W
  | [], b, k, _ => rfl
  | ws :: W, b, k, h => by
    rw [List.map_cons]
    unfold vwScan wScan
    rw [words_line (h ws List.mem_cons_self)]
    cases vwStep b ws with
    | none => rfl
    | some b' => exact scan_words fun w hw => h w (List.mem_cons_of_mem _ hw)
theorem wscan_app : ∀ {a : List (List Str)} {b b' : Str} {k : Nat} {r : List (List Str)}, wScan b k a = .ok b' → wScan b k (a ++ r) = wScan b' (k + a.length) r
  | [], b, b', k, r, h => by
    cases (Except.ok.inj h)
    rfl
  | z :: a, b, b', k, r, h => by
    unfold wScan at h
    rw [List.cons_append]
    conv => lhs; unfold wScan
    cases e : vwStep b z with
    | none => rw [e] at h; cases h
    | some b2 =>
      rw [e] at h
      dsimp only at h ⊢
      rw [wscan_app h, List.length_cons, show k + 1 + a.length = k + (a.length + 1) from by omega]
theorem step_ok {b w : Str} {r : List Str} (h1 : mayFollow b w = true) (h2 : lineStands w r = true) : vwStep b (w :: r) = some w := if_pos ⟨h1, h2⟩
theorem may_yes {b w : Str} (hb : followL b = none) (hw : w ∈ l_TOP_WORDS) (hn : w ≠ "new") : mayFollow b w = true := by
  unfold mayFollow
  rw [hb]
  dsimp only
  rw [if_neg hn]
  exact decide_eq_true hw
theorem wscan_one {b w : Str} {r : List Str} {k : Nat} (h : vwStep b (w :: r) = some w) : wScan b k [w :: r] = .ok w := by
  unfold wScan
  rw [h]
  rfl
theorem wscan_cons {b w : Str} {r : List Str} {k : Nat} {R : List (List Str)} (h : vwStep b (w :: r) = some w) : wScan b k ((w :: r) :: R) = wScan w (k + 1) R := by
  conv => lhs; unfold wScan
  rw [h]
theorem all2 {f : Str → Bool} {a b : Str} (h1 : f a = true) (h2 : f b = true) : [a, b].all f = true := by simp [h1, h2]
/-- what is named of a new row's words -/
theorem new_stands {r : NewR} (h : r.Ok) : lineStands "new" r.words.tail = true := by
  rw [ls_new]
  show ([numS r.h.cell, numS r.h.a, numS r.h.b, numS r.h.c, numS r.h.d, numS r.weak, b01S r.last].all numberWord && b01 (b01S r.last)) = true
  simp only [List.all_cons, List.all_nil, number_num h.h.cell, number_num h.h.a, number_num h.h.b, number_num h.h.c, number_num h.h.d, number_num h.weak, b01_b.1, b01_b.2, Bool.and_self]
theorem home_stands {h : Home} (o : h.Ok) : lineStands "cell" h.words.tail = true := by
  unfold lineStands
  rw [if_neg (by decide +kernel), if_neg (by decide +kernel), if_neg (by decide +kernel), if_neg (by decide +kernel), if_neg (by decide +kernel), if_pos rfl]
  show (decide (5 = 5) && [numS h.cell, numS h.a, numS h.b, numS h.c, numS h.d].all numberWord) = true
  simp only [List.all_cons, List.all_nil, number_num o.cell, number_num o.a, number_num o.b, number_num o.c, number_num o.d, Bool.and_self, decide_true]
theorem news_scan : ∀ {hs : List NewR} {b : Str} {k : Nat}, (∀ h ∈ hs, h.Ok) → (b = "came" ∨ b = "new") → ∃ b' : Str, (b' = "came" ∨ b' = "new") ∧ wScan b k (hs.map NewR.words) = .ok b'
  | [], b, k, _, hb => ⟨b, hb, rfl⟩
  | r :: hs, b, k, h, hb => by
    have h1 : mayFollow b "new" = true := by rcases hb with rfl | rfl <;> decide +kernel
    obtain ⟨b', hb', e⟩ := news_scan (hs := hs) (b := "new") (k := k + 1) (fun x hx => h x (List.mem_cons_of_mem _ hx)) (.inr rfl)
    refine ⟨b', hb', ?_⟩
    rw [List.map_cons]
    exact (wscan_cons (step_ok h1 (new_stands (h r List.mem_cons_self)))).trans e
theorem homes_scan : ∀ {hs : List Home} {b : Str} {k : Nat}, (∀ h ∈ hs, h.Ok) → (b = "seen" ∨ b = "cell") → ∃ b' : Str, (b' = "seen" ∨ b' = "cell") ∧ wScan b k (hs.map Home.words) = .ok b'
  | [], b, k, _, hb => ⟨b, hb, rfl⟩
  | r :: hs, b, k, h, hb => by
    have h1 : mayFollow b "cell" = true := by rcases hb with rfl | rfl <;> decide +kernel
    obtain ⟨b', hb', e⟩ := homes_scan (hs := hs) (b := "cell") (k := k + 1) (fun x hx => h x (List.mem_cons_of_mem _ hx)) (.inr rfl)
    refine ⟨b', hb', ?_⟩
    rw [List.map_cons]
    exact (wscan_cons (step_ok h1 (home_stands (h r List.mem_cons_self)))).trans e
theorem seen_form {s : Seen} (o : s.Ok) : lineStands "seen" (s.room :: s.cells.map numS) = true := by
  unfold lineStands
  rw [if_neg (by decide +kernel), if_neg (by decide +kernel), if_neg (by decide +kernel), if_neg (by decide +kernel), if_pos (by decide +kernel)]
  show (nameWord s.room && (s.cells.map numS).all numberWord) = true
  rw [o.room, numbers_num o.cells.2]
  rfl
theorem seen_scan {s : Seen} {b : Str} {k : Nat} (o : s.Ok) (hb : b = "pause" ∨ b = "seen" ∨ b = "cell") : ∃ b' : Str, (b' = "seen" ∨ b' = "cell") ∧ wScan b k s.words = .ok b' := by
  have h1 : mayFollow b "seen" = true := by rcases hb with rfl | rfl | rfl <;> decide +kernel
  obtain ⟨b', hb', e⟩ := homes_scan (hs := s.homes) (b := "seen") (k := k + 1) o.homes.2 (.inl rfl)
  exact ⟨b', hb', (wscan_cons (step_ok h1 (seen_form o))).trans e⟩
theorem shown_scan : ∀ {ss : List Seen} {b : Str} {k : Nat}, (∀ s ∈ ss, s.Ok) → ss ≠ [] → (b = "pause" ∨ b = "seen" ∨ b = "cell") → ∃ b' : Str, (b' = "seen" ∨ b' = "cell") ∧ wScan b k (ss.flatMap Seen.words) = .ok b'
  | [], _, _, _, h, _ => absurd rfl h
  | [s], b, k, h, _, hb => by
    rw [List.flatMap_cons, List.flatMap_nil, List.append_nil]
    exact seen_scan (h s List.mem_cons_self) hb
  | s :: s2 :: ss, b, k, h, _, hb => by
    obtain ⟨b1, hb1, e1⟩ := seen_scan (s := s) (b := b) (k := k) (h s List.mem_cons_self) hb
    obtain ⟨b2, hb2, e2⟩ := shown_scan (ss := s2 :: ss) (b := b1) (k := k + s.words.length) (fun x hx => h x (List.mem_cons_of_mem _ hx)) (by simp) (.inr hb1)
    refine ⟨b2, hb2, ?_⟩
    rw [List.flatMap_cons, wscan_app e1]
    exact e2
theorem ls_sealed {r : List Str} : lineStands "sealed" r = r.all nameWord := by
  unfold lineStands
  rw [if_neg (by decide +kernel), if_neg (by decide +kernel), if_neg (by decide +kernel), if_neg (by decide +kernel), if_neg (by decide +kernel), if_neg (by decide +kernel), if_neg (by decide +kernel), if_neg (by decide +kernel), if_neg (by decide +kernel), if_pos rfl]
theorem ls_moved {r : List Str} : lineStands "moved" r = movesForm r := by
  unfold lineStands
  rw [if_neg (by decide +kernel), if_neg (by decide +kernel), if_neg (by decide +kernel), if_neg (by decide +kernel), if_neg (by decide +kernel), if_neg (by decide +kernel), if_neg (by decide +kernel), if_neg (by decide +kernel), if_pos rfl]
theorem ls_gone {w : Str} {r : List Str} (hw : w = "gone" ∨ w = "called") : lineStands w r = r.all numberWord := by
  unfold lineStands
  rcases hw with rfl | rfl
  all_goals rw [if_neg (by decide +kernel), if_neg (by decide +kernel), if_neg (by decide +kernel), if_neg (by decide +kernel), if_neg (by decide +kernel), if_neg (by decide +kernel), if_neg (by decide +kernel), if_pos (by decide +kernel)]
theorem moves_ok : ∀ {ms : List (Nat × Str)}, (∀ m ∈ ms, Nb m.1 ∧ Nm m.2) → movesForm (ms.flatMap movW) = true ∧ pairsP (ms.flatMap movW) = ms.map movD
  | [], _ => ⟨by decide +kernel, rfl⟩
  | m :: ms, h => by
    obtain ⟨h1, h2⟩ := moves_ok (ms := ms) fun x hx => h x (List.mem_cons_of_mem _ hx)
    have hm := h m List.mem_cons_self
    unfold movesForm at h1 ⊢
    simp only [Bool.and_eq_true, decide_eq_true_eq] at h1
    rw [List.flatMap_cons]
    show (decide ((numS m.1 :: m.2 :: ms.flatMap movW).length % 2 = 0) && ((numS m.1 :: evens (ms.flatMap movW)).all numberWord && (m.2 :: odds (ms.flatMap movW)).all nameWord)) = true ∧ (.tuple [intP (numS m.1), .str m.2] :: pairsP (ms.flatMap movW)) = _
    refine ⟨?_, ?_⟩
    · have hnm : nameWord m.2 = true := hm.2
      rw [List.all_cons, List.all_cons, number_num hm.1, hnm, h1.2.1, h1.2.2]
      simp only [List.length_cons, Bool.true_and, Bool.and_true, decide_eq_true_eq]
      omega
    · rw [h2, intP_num hm.1]
      rfl
theorem trip_ok : ∀ {ts : List (Str × Str)}, (∀ m ∈ ts, Nm m.1 ∧ Nm m.2) → trip (ts.flatMap telW) = true ∧ tripsP (ts.flatMap telW) = ts.map telD
  | [], _ => ⟨rfl, rfl⟩
  | m :: ts, h => by
    obtain ⟨h1, h2⟩ := trip_ok (ts := ts) fun x hx => h x (List.mem_cons_of_mem _ hx)
    have hm := h m List.mem_cons_self
    have n1 : nameWord m.1 = true := hm.1
    have n2 : nameWord m.2 = true := hm.2
    rw [List.flatMap_cons]
    show (nameWord m.1 && (decide (("->" : Str) = "->") && (nameWord m.2 && trip (ts.flatMap telW)))) = true ∧ (PyData.tuple [.str m.1, .str m.2] :: tripsP (ts.flatMap telW)) = _
    refine ⟨by rw [n1, n2, h1]; rfl, by rw [h2]; rfl⟩
theorem told_ok {told : Option (List (Str × Str))} (h : ∀ ts, told = some ts → ts.length ≤ 5 ∧ ∀ m ∈ ts, Nm m.1 ∧ Nm m.2) : ∃ r, tolW told = ("told" : Str) :: r ∧ toldForm r = true ∧ toldP r = tolD told := by
  cases told with
  | none => exact ⟨["same"], rfl, by decide +kernel, rfl⟩
  | some ts =>
    obtain ⟨h1, h2⟩ := trip_ok (h ts rfl).2
    refine ⟨ts.flatMap telW, rfl, by unfold toldForm; rw [h1]; simp, ?_⟩
    unfold toldP
    rw [if_neg ?_, h2]
    · rfl
    · intro e
      have := trip_len h1
      rw [e] at this
      exact absurd this (by decide)
/-- the lines of a row may stand where a row of the top may -/
theorem row_scan {r : RowT} (h : r.Ok) {b : Str} {k : Nat} (hb : followL b = none) : ∃ b' : Str, followL b' = none ∧ wScan b k r.words = .ok b' := by
  cases r with
  | made n a c m f =>
    refine ⟨"made", by decide +kernel, wscan_one (step_ok (may_yes hb (by decide +kernel) (by decide +kernel)) ?_)⟩
    rw [ls_made]
    show (([numS n, numS m].all numberWord && [a, c].all nameWord) && b01 (b01S f)) = true
    rw [all2 (number_num h.1) (number_num h.2.2.2), all2 h.2.1 h.2.2.1, b01_b.1]
    rfl
  | went n a =>
    refine ⟨"went", by decide +kernel, wscan_one (step_ok (may_yes hb (by decide +kernel) (by decide +kernel)) ?_)⟩
    rw [ls_went]
    show (numberWord (numS n) && nameWord a) = true
    have h2 : nameWord a = true := h.2
    rw [number_num h.1, h2]
    rfl
  | heard n =>
    refine ⟨"heard", by decide +kernel, wscan_one (step_ok (may_yes hb (by decide +kernel) (by decide +kernel)) ?_)⟩
    rw [ls_heard]
    exact number_num h
  | gave a ns =>
    have h1 : nameWord a = true := h.1
    refine ⟨"gave", by decide +kernel, wscan_one (step_ok (may_yes hb (by decide +kernel) (by decide +kernel)) ?_)⟩
    rw [ls_gave]
    show (nameWord a && (ns.map numS).all numberWord) = true
    rw [h1, numbers_num h.2.2]
    rfl
  | came a ns hs =>
    have h1 : nameWord a = true := h.1
    obtain ⟨b', hb', e⟩ := news_scan (hs := hs) (b := "came") (k := k + 1) h.2.2.2 (.inl rfl)
    refine ⟨b', by rcases hb' with rfl | rfl <;> decide +kernel, ?_⟩
    refine (wscan_cons (step_ok (may_yes hb (by decide +kernel) (by decide +kernel)) ?_)).trans e
    rw [ls_came]
    show (nameWord a && (ns.map numS).all numberWord) = true
    rw [h1, numbers_num h.2.1.2]
    rfl
  | pause rooms shown gone called moved sealed told =>
    have ok : PauseOk rooms shown gone called moved sealed told := h
    obtain ⟨b1, hb1, e1⟩ := shown_scan (ss := shown) (b := "pause") (k := k + 1) ok.shown.2 (List.length_pos_iff.mp ok.s0) (.inl rfl)
    obtain ⟨tr, et, ht, _⟩ := told_ok ok.told
    refine ⟨"told", by decide +kernel, ?_⟩
    unfold RowT.words
    refine (wscan_cons (step_ok (may_yes hb (by decide +kernel) (by decide +kernel)) ?_)).trans ?_
    · rw [ls_pause, names_all ok.rooms.2, decide_eq_true ok.r0]
      rfl
    rw [wscan_app e1, et]
    have g1 : mayFollow b1 "gone" = true := by rcases hb1 with rfl | rfl <;> decide +kernel
    refine (wscan_cons (step_ok g1 (by rw [ls_gone (.inl rfl)]; exact numbers_num ok.gone.2))).trans ?_
    refine (wscan_cons (step_ok (by decide +kernel) (by rw [ls_gone (.inr rfl)]; exact numbers_num ok.called.2))).trans ?_
    refine (wscan_cons (step_ok (by decide +kernel) (by rw [ls_moved]; exact (moves_ok ok.moved.2).1))).trans ?_
    refine (wscan_cons (step_ok (by decide +kernel) (by rw [ls_sealed]; exact names_all ok.sealed.2))).trans ?_
    exact wscan_one (step_ok (by decide +kernel) (by rw [ls_told]; exact ht))
theorem rows_scan : ∀ {rows : List RowT} {b : Str} {k : Nat}, (∀ r ∈ rows, r.Ok) → followL b = none → ∃ b' : Str, followL b' = none ∧ wScan b k (rows.flatMap RowT.words) = .ok b'
  | [], b, k, _, hb => ⟨b, hb, rfl⟩
  | r :: rows, b, k, h, hb => by
    obtain ⟨b1, hb1, e1⟩ := row_scan (h r List.mem_cons_self) (k := k) hb
    obtain ⟨b2, hb2, e2⟩ := rows_scan (rows := rows) (b := b1) (k := k + r.words.length) (fun x hx => h x (List.mem_cons_of_mem _ hx)) hb1
    exact ⟨b2, hb2, by rw [List.flatMap_cons, wscan_app e1]; exact e2⟩
end
end K97


set_option maxRecDepth 100000
set_option maxHeartbeats 4000000
namespace K97
open PySem PySem.Spec PyProof.Rows L2 TL NB
local macro_rules | `(tactic| walk_at "rd") => `(tactic| repeat (first
  | (with_reducible refine x_seq ?_) | (with_reducible refine x_asg ?_) | (with_reducible refine x_gName ?_) | (with_reducible refine x_ret ?_) | (with_reducible refine x_drop ?_) | (with_reducible refine x_ifS ?_)
  | (with_reducible refine x_op ?_) | (with_reducible refine x_c ?_) | ((with_reducible refine' x_var ?k1 ?_); (case k1 => with_unfolding_all rfl)) | (with_reducible refine x_cb ?_) | (with_reducible refine x_call0 ?_) | (with_reducible refine x_cons ?_) | (with_reducible refine x_nil ?_)
  | (with_reducible refine x_test ?_) | (with_reducible refine x_B ?_) | (with_reducible refine x_bl ?_) | (with_reducible refine x_and ?_) | (with_reducible refine x_or ?_) | (with_reducible refine x_not ?_)
  | (with_reducible refine x_andV ?_) | (with_reducible refine x_orV ?_) | (with_reducible refine x_notV ?_) | (with_reducible refine x_if ?_) | (with_reducible refine x_isN ?_) | (with_reducible refine x_notN ?_)
  | (with_reducible refine x_tup ?_) | (with_reducible refine x_lst ?_) | (with_reducible refine x_sl ?_) | (with_reducible refine x_noPart ?_) | (with_reducible refine x_part ?_) | (with_reducible refine x_int ?_)
  | (with_reducible refine x_bm ?_) | (with_reducible refine x_m1 ?_) | (with_reducible refine x_tyS ?_) | (with_reducible refine x_gNil ?_) | (with_reducible refine x_gCons ?_) | (with_reducible refine x_gSub ?_) | (with_reducible refine x_next ?_) | (with_reducible refine x_brk ?_)
  | (with_reducible refine x_slStep ?_) | (with_reducible refine x_lc ?_) | (with_reducible refine x_for ?_) | (with_reducible refine x_iL ?_) | (with_reducible refine x_iR1 ?_) | (with_reducible refine x_iR3 ?_) | (with_reducible refine x_iS ?_) | (with_reducible refine x_ref ?_) | (with_reducible refine x_yes ?_)
  | (with_reducible refine a_addI ?_) | (with_reducible refine x_I0 ?_) | (with_reducible refine a_eq rfl ?_) | (with_reducible refine a_ne rfl ?_) | (with_reducible refine a_inS ?_) | (with_reducible refine a_ninS ?_) | (with_reducible refine x_strS ?_) | (with_reducible refine x_intI ?_) | (with_reducible refine x_iB ?_) | (with_reducible refine x_iT ?_)))

section
variable {P : Program} {w : World} {K : PySem.W.Frag} {mg : Str → Option Value} {base : Heap}
/-! ### the machine over own lines -/
theorem home_cell {h : Home} (o : h.Ok) : (.tuple [intP (numS h.cell), fldP [numS h.a, numS h.b, numS h.c, numS h.d]] : PyData) = h.dat := by
  show PyData.tuple [intP (numS h.cell), PyData.tuple [intP (numS h.a), intP (numS h.b), intP (numS h.c), intP (numS h.d)]] = _
  rw [intP_num o.cell, intP_num o.a, intP_num o.b, intP_num o.c, intP_num o.d]
  rfl
theorem new_dat {r : NewR} (o : r.Ok) : newP r.words.tail = r.dat := by
  show PyData.tuple [intP (numS r.h.cell), PyData.tuple [intP (numS r.h.a), intP (numS r.h.b), intP (numS r.h.c), intP (numS r.h.d)], intP (numS r.weak), isOne (b01S r.last)] = _
  rw [intP_num o.h.cell, intP_num o.h.a, intP_num o.h.b, intP_num o.h.c, intP_num o.h.d, intP_num o.weak, isOne_b]
  rfl
theorem news_run {dn : List PyData} {a : Str} {ns : PyData} : ∀ {hs : List NewR} {h0 : List PyData}, (∀ h ∈ hs, h.Ok) → (hs.map NewR.words).foldl vStep ⟨dn, .came a ns h0⟩ = ⟨dn, .came a ns (h0 ++ hs.map NewR.dat)⟩
  | [], h0, _ => by simp
  | r :: hs, h0, h => by
    rw [List.map_cons, List.foldl_cons]
    have e : vStep ⟨dn, .came a ns h0⟩ r.words = ⟨dn, .came a ns (h0 ++ [r.dat])⟩ := by
      have := vs_new (s := ⟨dn, .came a ns h0⟩) (r := r.words.tail) (a := a) (ns := ns) (hs := h0) rfl
      rw [new_dat (h r List.mem_cons_self)] at this
      exact this
    rw [e, news_run fun x hx => h x (List.mem_cons_of_mem _ hx)]
    simp
def Seen.p (s : Seen) : SeenP := ⟨s.room, numsD s.cells, s.homes.map Home.dat⟩
theorem seen_pdat (s : Seen) : s.p.dat = s.dat := rfl
theorem cell_eq {z : Pz} {pre : List SeenP} {l : SeenP} {a : Str} {r : List Str} : Pz.cell { z with shown := pre ++ [l] } (a :: r) = { z with shown := pre ++ [{ l with homes := l.homes ++ [PyData.tuple [intP a, fldP r]] }] } := by
  unfold Pz.cell
  simp
theorem cells_run {dn : List PyData} {z : Pz} {pre : List SeenP} {l : SeenP} : ∀ {hs : List Home} {h0 : List PyData}, (∀ h ∈ hs, h.Ok) → (hs.map Home.words).foldl vStep ⟨dn, .pz { z with shown := pre ++ [{ l with homes := h0 }] }⟩ = ⟨dn, .pz { z with shown := pre ++ [{ l with homes := h0 ++ hs.map Home.dat }] }⟩
  | [], h0, _ => by simp
  | r :: hs, h0, h => by
    rw [List.map_cons, List.foldl_cons]
    have e : vStep ⟨dn, .pz { z with shown := pre ++ [{ l with homes := h0 }] }⟩ r.words = ⟨dn, .pz { z with shown := pre ++ [{ l with homes := h0 ++ [r.dat] }] }⟩ := by
      have h1 := vs_part (s := ⟨dn, .pz { z with shown := pre ++ [{ l with homes := h0 }] }⟩) (w := "cell") (r := r.words.tail) (z := { z with shown := pre ++ [{ l with homes := h0 }] }) rfl (by simp)
      rw [step_cell] at h1
      have h2 : Pz.cell { z with shown := pre ++ [{ l with homes := h0 }] } r.words.tail = { z with shown := pre ++ [{ l with homes := h0 ++ [r.dat] }] } := by
        rw [← home_cell (h r List.mem_cons_self)]
        exact cell_eq
      rw [h2] at h1
      exact h1
    rw [e, cells_run fun x hx => h x (List.mem_cons_of_mem _ hx)]
    simp
theorem seen_run {dn : List PyData} {z : Pz} {s : Seen} (o : s.Ok) : s.words.foldl vStep ⟨dn, .pz z⟩ = ⟨dn, .pz { z with shown := z.shown ++ [s.p] }⟩ := by
  unfold Seen.words
  rw [List.foldl_cons]
  have h1 := vs_part (s := ⟨dn, .pz z⟩) (w := "seen") (r := s.room :: s.cells.map numS) (z := z) rfl (by simp)
  rw [step_seen] at h1
  have h2 : z.seen (s.room :: s.cells.map numS) = { z with shown := z.shown ++ [⟨s.room, numsD s.cells, []⟩] } := by
    show ({ z with shown := z.shown ++ [⟨s.room, numsP (s.cells.map numS), []⟩] } : Pz) = _
    rw [numsP_nums o.cells.2]
  rw [h1, h2]
  have := cells_run (dn := dn) (z := z) (pre := z.shown) (l := ⟨s.room, numsD s.cells, []⟩) (hs := s.homes) (h0 := []) o.homes.2
  rw [List.nil_append] at this
  exact this
theorem shown_run {dn : List PyData} : ∀ {ss : List Seen} {z : Pz}, (∀ s ∈ ss, s.Ok) → (ss.flatMap Seen.words).foldl vStep ⟨dn, .pz z⟩ = ⟨dn, .pz { z with shown := z.shown ++ ss.map Seen.p }⟩
  | [], z, _ => by simp
  | s :: ss, z, h => by
    rw [List.flatMap_cons, List.foldl_append, seen_run (h s List.mem_cons_self), shown_run fun x hx => h x (List.mem_cons_of_mem _ hx)]
    simp
theorem part_run {dn : List PyData} {z : Pz} {w : Str} {r : List Str} (hw : w ∈ ([("gone" : Str), "called", "moved", "sealed"] : List Str)) : vStep ⟨dn, .pz z⟩ (w :: r) = ⟨dn, .pz (z.part w r)⟩ := by
  have hn : ∀ w ∈ ([("gone" : Str), "called", "moved", "sealed"] : List Str), w ∈ ([("seen" : Str), "cell", "gone", "called", "moved", "sealed"] : List Str) ∧ w ≠ "seen" ∧ w ≠ "cell" := by decide +kernel
  obtain ⟨h1, h2, h3⟩ := hn w hw
  rw [vs_part (z := z) rfl h1, step_part h2 h3]
theorem row_run {r : RowT} (h : r.Ok) (s : Vs) : (r.words.foldl vStep s).flush = s.flush ++ [r.dat] := by
  cases r with
  | made n a c m f =>
    show (vStep s (("made" : Str) :: [numS n, a, c, numS m, b01S f])).flush = _
    rw [vs_made]
    show s.flush ++ [.tuple [.str "made", intP (numS n), .str a, .str c, intP (numS m), isOne (b01S f)]] = _
    rw [intP_num h.1, intP_num h.2.2.2, isOne_b]
    rfl
  | went n a =>
    show (vStep s (("went" : Str) :: [numS n, a])).flush = _
    rw [vs_went]
    show s.flush ++ [.tuple [.str "went", intP (numS n), .str a]] = _
    rw [intP_num h.1]
    rfl
  | heard n =>
    show (vStep s (("heard" : Str) :: [numS n])).flush = _
    rw [vs_heard]
    show s.flush ++ [.tuple [.str "heard", intP (numS n)]] = _
    rw [intP_num h]
    rfl
  | gave a ns =>
    show (vStep s (("gave" : Str) :: a :: ns.map numS)).flush = _
    rw [vs_gave]
    show s.flush ++ [.tuple [.str "gave", .str a, numsP (ns.map numS)]] = _
    rw [numsP_nums h.2.2]
    rfl
  | came a ns hs =>
    show ((hs.map NewR.words).foldl vStep (vStep s (("came" : Str) :: a :: ns.map numS))).flush = _
    rw [vs_came]
    show ((hs.map NewR.words).foldl vStep ⟨s.flush, .came a (numsP (ns.map numS)) []⟩).flush = _
    rw [news_run h.2.2.2, numsP_nums h.2.1.2]
    rfl
  | pause rooms shown gone called moved sealed told =>
    have ok : PauseOk rooms shown gone called moved sealed told := h
    obtain ⟨tr, et, _, ht⟩ := told_ok ok.told
    unfold RowT.words
    rw [List.foldl_cons, vs_pause, List.foldl_append, shown_run ok.shown.2, et]
    simp only [List.foldl_cons, List.foldl_nil]
    rw [part_run (by simp), part_run (by simp), part_run (by simp), part_run (by simp), part_gone, part_called, part_moved, part_sealed, vs_told rfl]
    show s.flush ++ [Pz.dat _ tr] = _
    unfold Pz.dat
    rw [ht]
    simp only [List.nil_append, List.map_map]
    have eg := intP_nums ok.gone.2
    have ec := intP_nums ok.called.2
    rw [List.map_map] at eg ec
    rw [(moves_ok ok.moved.2).2, eg, ec]
    rfl
theorem rows_run : ∀ {rows : List RowT} {s : Vs}, (∀ r ∈ rows, r.Ok) → ((rows.flatMap RowT.words).foldl vStep s).flush = s.flush ++ rows.map RowT.dat
  | [], s, _ => by simp
  | r :: rows, s, h => by
    rw [List.flatMap_cons, List.foldl_append, rows_run fun x hx => h x (List.mem_cons_of_mem _ hx), row_run (h r List.mem_cons_self)]
    simp
end
end K97


set_option maxRecDepth 100000
set_option maxHeartbeats 4000000
namespace K97
open PySem PySem.Spec PyProof.Rows L2 TL NB
local macro_rules | `(tactic| walk_at "rd") => `(tactic| repeat (first
  | (with_reducible refine x_seq ?_) | (with_reducible refine x_asg ?_) | (with_reducible refine x_gName ?_) | (with_reducible refine x_ret ?_) | (with_reducible refine x_drop ?_) | (with_reducible refine x_ifS ?_)
  | (with_reducible refine x_op ?_) | (with_reducible refine x_c ?_) | ((with_reducible refine' x_var ?k1 ?_); (case k1 => with_unfolding_all rfl)) | (with_reducible refine x_cb ?_) | (with_reducible refine x_call0 ?_) | (with_reducible refine x_cons ?_) | (with_reducible refine x_nil ?_)
  | (with_reducible refine x_test ?_) | (with_reducible refine x_B ?_) | (with_reducible refine x_bl ?_) | (with_reducible refine x_and ?_) | (with_reducible refine x_or ?_) | (with_reducible refine x_not ?_)
  | (with_reducible refine x_andV ?_) | (with_reducible refine x_orV ?_) | (with_reducible refine x_notV ?_) | (with_reducible refine x_if ?_) | (with_reducible refine x_isN ?_) | (with_reducible refine x_notN ?_)
  | (with_reducible refine x_tup ?_) | (with_reducible refine x_lst ?_) | (with_reducible refine x_sl ?_) | (with_reducible refine x_noPart ?_) | (with_reducible refine x_part ?_) | (with_reducible refine x_int ?_)
  | (with_reducible refine x_bm ?_) | (with_reducible refine x_m1 ?_) | (with_reducible refine x_tyS ?_) | (with_reducible refine x_gNil ?_) | (with_reducible refine x_gCons ?_) | (with_reducible refine x_gSub ?_) | (with_reducible refine x_next ?_) | (with_reducible refine x_brk ?_)
  | (with_reducible refine x_slStep ?_) | (with_reducible refine x_lc ?_) | (with_reducible refine x_for ?_) | (with_reducible refine x_iL ?_) | (with_reducible refine x_iR1 ?_) | (with_reducible refine x_iR3 ?_) | (with_reducible refine x_iS ?_) | (with_reducible refine x_ref ?_) | (with_reducible refine x_yes ?_)
  | (with_reducible refine a_addI ?_) | (with_reducible refine x_I0 ?_) | (with_reducible refine a_eq rfl ?_) | (with_reducible refine a_ne rfl ?_) | (with_reducible refine a_inS ?_) | (with_reducible refine a_ninS ?_) | (with_reducible refine x_strS ?_) | (with_reducible refine x_intI ?_) | (with_reducible refine x_iB ?_) | (with_reducible refine x_iT ?_)))

section
variable {P : Program} {w : World} {K : PySem.W.Frag} {mg : Str → Option Value} {base : Heap}
/-! ### no form has an odd word -/
def rowWords : List Str := ["made", "went", "heard", "pause", "seen", "gave", "came", "cell", "new", "gone", "called", "moved", "sealed", "told"]
def Good (x : Str) : Prop := nameWord x = true ∨ numberWord x = true ∨ x = "->"
theorem good_all {f : Str → Bool} {r : List Str} (hf : ∀ x, f x = true → Good x) (h : r.all f = true) : ∀ x ∈ r, Good x := fun x hx => hf x (List.all_eq_true.mp h x hx)
theorem good_num : ∀ x, numberWord x = true → Good x := fun _ h => .inr (.inl h)
theorem good_nm : ∀ x, nameWord x = true → Good x := fun _ h => .inl h
theorem good_b01 {x : Str} (h : b01 x = true) : Good x := by
  unfold b01 at h
  have := of_decide_eq_true h
  simp only [List.mem_cons, List.not_mem_nil, or_false] at this
  rcases this with rfl | rfl
  · exact .inr (.inl (by decide +kernel))
  · exact .inr (.inl (by decide +kernel))
theorem good_trip : ∀ {r : List Str}, trip r = true → ∀ x ∈ r, Good x
  | [], _, x, hx => by cases hx
  | [_], h, _, _ => by cases h
  | [_, _], h, _, _ => by cases h
  | a :: b :: c :: r, h, x, hx => by
    have h1 : (nameWord a && (decide (b = ("->" : Str)) && (nameWord c && trip r))) = true := h
    simp only [Bool.and_eq_true, decide_eq_true_eq] at h1
    rcases List.mem_cons.mp hx with rfl | hx
    · exact .inl h1.1
    rcases List.mem_cons.mp hx with rfl | hx
    · exact .inr (.inr h1.2.1)
    rcases List.mem_cons.mp hx with rfl | hx
    · exact .inl h1.2.2.1
    · exact good_trip h1.2.2.2 x hx
theorem good_moves : ∀ {r : List Str}, (evens r).all numberWord = true → (odds r).all nameWord = true → ∀ x ∈ r, Good x
  | [], _, _, x, hx => by cases hx
  | [a], h, _, x, hx => by
    rw [List.mem_singleton.mp hx]
    exact .inr (.inl (List.all_eq_true.mp h a (by simp [evens])))
  | a :: b :: r, h1, h2, x, hx => by
    have g1 : (a :: evens r).all numberWord = true := h1
    have g2 : (b :: odds r).all nameWord = true := h2
    rw [List.all_cons, Bool.and_eq_true] at g1 g2
    rcases List.mem_cons.mp hx with rfl | hx
    · exact .inr (.inl g1.1)
    rcases List.mem_cons.mp hx with rfl | hx
    · exact .inl g2.1
    · exact good_moves g1.2 g2.2 x hx
theorem stands_good {w : Str} {r : List Str} (h : lineStands w r = true) : w ∈ rowWords ∧ ∀ x ∈ r, Good x := by
  unfold lineStands at h
  split at h
  · rename_i e
    subst e
    refine ⟨by decide +kernel, ?_⟩
    unfold formMade at h
    split at h
    · rename_i a b c d e
      simp only [Bool.and_eq_true, List.all_cons, List.all_nil, Bool.and_true] at h
      intro x hx
      simp only [List.mem_cons, List.not_mem_nil, or_false] at hx
      rcases hx with rfl | rfl | rfl | rfl | rfl
      · exact .inr (.inl h.1.1.1)
      · exact .inl h.1.2.1
      · exact .inl h.1.2.2
      · exact .inr (.inl h.1.1.2)
      · exact good_b01 h.2
    · cases h
  split at h
  · rename_i e
    subst e
    refine ⟨by decide +kernel, ?_⟩
    unfold formWent at h
    split at h
    · rename_i a b
      rw [Bool.and_eq_true] at h
      intro x hx
      simp only [List.mem_cons, List.not_mem_nil, or_false] at hx
      rcases hx with rfl | rfl
      · exact .inr (.inl h.1)
      · exact .inl h.2
    · cases h
  split at h
  · rename_i e
    subst e
    refine ⟨by decide +kernel, ?_⟩
    unfold formHeard at h
    split at h
    · intro x hx
      rw [List.mem_singleton.mp hx]
      exact .inr (.inl h)
    · cases h
  split at h
  · rename_i e
    subst e
    rw [Bool.and_eq_true] at h
    exact ⟨by decide +kernel, good_all good_nm h.2⟩
  split at h
  · rename_i e
    refine ⟨?_, ?_⟩
    · have : ∀ w ∈ ([("seen" : Str), "gave", "came"] : List Str), w ∈ rowWords := by decide +kernel
      exact this w e
    · unfold formSeen at h
      split at h
      · rename_i a r'
        rw [Bool.and_eq_true] at h
        intro x hx
        rcases List.mem_cons.mp hx with rfl | hx
        · exact .inl h.1
        · exact good_all good_num h.2 x hx
      · cases h
  split at h
  · rename_i e
    subst e
    rw [Bool.and_eq_true] at h
    exact ⟨by decide +kernel, good_all good_num h.2⟩
  split at h
  · rename_i e
    subst e
    refine ⟨by decide +kernel, ?_⟩
    unfold formNew at h
    split at h
    · rw [Bool.and_eq_true] at h
      exact good_all good_num h.1
    · cases h
  split at h
  · rename_i e
    refine ⟨?_, good_all good_num h⟩
    rcases e with rfl | rfl <;> decide +kernel
  split at h
  · rename_i e
    subst e
    unfold movesForm at h
    simp only [Bool.and_eq_true] at h
    exact ⟨by decide +kernel, good_moves h.2.1 h.2.2⟩
  split at h
  · rename_i e
    subst e
    exact ⟨by decide +kernel, good_all good_nm h⟩
  · rw [Bool.and_eq_true] at h
    have e := of_decide_eq_true h.1
    subst e
    refine ⟨by decide +kernel, ?_⟩
    have h2 := h.2
    unfold toldForm at h2
    rw [Bool.or_eq_true] at h2
    rcases h2 with h2 | h2
    · rw [of_decide_eq_true h2]
      intro x hx
      rw [List.mem_singleton.mp hx]
      exact .inl (by decide +kernel)
    · exact good_trip h2
theorem odd_bad {o : Str} (ho : o ∈ odds8) : o ∉ rowWords ∧ ¬ Good o := by
  have h1 : ∀ o ∈ odds8, o ∉ rowWords ∧ nameWord o = false ∧ numberWord o = false ∧ o ≠ "->" := by decide +kernel
  obtain ⟨a, b, c, d⟩ := h1 o ho
  refine ⟨a, fun g => ?_⟩
  rcases g with g | g | g
  · rw [b] at g; cases g
  · rw [c] at g; cases g
  · exact d g
theorem spo_none {z b : Str} (h : Spo z) : vwStep b (wordsS z) = none := by
  obtain ⟨o, hw, ho⟩ := h
  obtain ⟨h1, h2⟩ := odd_bad ho
  cases e : wordsS z with
  | nil => rfl
  | cons w r =>
    refine if_neg fun hs => ?_
    obtain ⟨g1, g2⟩ := stands_good hs.2
    rw [e] at hw
    rcases List.mem_cons.mp hw with rfl | hw
    · exact h1 g1
    · exact h2 (g2 o hw)
/-! ### the facts of a view -/
def vW (rows : List RowT) : List (List Str) := rows.flatMap RowT.words
def vL (rows : List RowT) : List Str := (vW rows).map lineS
theorem lin_free {n : Nat} {z : Str} (h : Lin n z) : 10 ∉ tl z := fun m => (h.asc 10 m).2 rfl
theorem vw_ok {rows : List RowT} (h : ∀ r ∈ rows, r.Ok) : ∀ ws ∈ vW rows, LineOk ws := fun ws hws => by
  obtain ⟨r, hr, hws⟩ := List.mem_flatMap.mp hws
  exact words_tok (h r hr) ws hws
theorem vl_lin {rows : List RowT} (h : ∀ r ∈ rows, r.Ok) : ∀ z ∈ vL rows, Lin 272 z := fun z hz => by
  obtain ⟨ws, hws, rfl⟩ := List.mem_map.mp hz
  exact line_lin (vw_ok h ws hws)
theorem vl_scan {rows : List RowT} (h : ∀ r ∈ rows, r.Ok) : ∃ b : Str, followL b = none ∧ vwScan "told" 0 (vL rows) = .ok b := by
  obtain ⟨b, hb, e⟩ := rows_scan (rows := rows) (b := "told") (k := 0) h (by decide +kernel)
  exact ⟨b, hb, (scan_words (vw_ok h)).trans e⟩
theorem view_f1 {rows : List RowT} (h : ∀ r ∈ rows, r.Ok) : readView (textS (vL rows)) = .ok (rows.map RowT.dat) := by
  obtain ⟨b, hb, e⟩ := vl_scan h
  unfold readView
  rw [read_text fun p hp => lin_free (vl_lin h p hp), e]
  dsimp only
  rw [if_pos hb]
  have ew : (vL rows).map wordsS = vW rows := by
    unfold vL
    rw [List.map_map]
    conv => rhs; rw [← List.map_id (vW rows)]
    exact List.map_congr_left fun ws hws => words_line (vw_ok h ws hws)
  rw [ew]
  dsimp only
  unfold vRun vW
  rw [rows_run h]
  rfl
theorem view_bad {A : List Str} {z b : Str} {B : List Str} (hA : vwScan "told" 0 A = .ok b) (hz : vwStep b (wordsS z) = none) (hf : ∀ p ∈ A ++ z :: B, 10 ∉ tl p) : readView (textS (A ++ z :: B)) = .error (A.length + 1) := by
  unfold readView
  rw [read_text hf, scan_app hA, scan_stop hz, Nat.zero_add]
theorem view_f2 {rows : List RowT} (h : ∀ r ∈ rows, r.Ok) {i : Nat} (hi : i < (vL rows).length) {z : Str} (hz : Spo z) (hl : 10 ∉ tl z) : readView (textS ((vL rows).take i ++ z :: (vL rows).drop (i + 1))) = .error (i + 1) := by
  obtain ⟨b, hb, e⟩ := vl_scan h
  rw [← List.take_append_drop i (vL rows)] at e
  obtain ⟨b2, e2⟩ := scan_pre e
  have := view_bad (B := (vL rows).drop (i + 1)) e2 (spo_none (b := b2) hz) (fun p hp => by
    rcases List.mem_append.mp hp with hp | hp
    · exact lin_free (vl_lin h p (List.mem_of_mem_take hp))
    · rcases List.mem_cons.mp hp with rfl | hp
      · exact hl
      · exact lin_free (vl_lin h p (List.mem_of_mem_drop hp)))
  rw [this, List.length_take, Nat.min_eq_left (Nat.le_of_lt hi)]
end
end K97


set_option maxRecDepth 100000
set_option maxHeartbeats 4000000
namespace K97
open PySem PySem.Spec PyProof.Rows L2 TL NB
local macro_rules | `(tactic| walk_at "rd") => `(tactic| repeat (first
  | (with_reducible refine x_seq ?_) | (with_reducible refine x_asg ?_) | (with_reducible refine x_gName ?_) | (with_reducible refine x_ret ?_) | (with_reducible refine x_drop ?_) | (with_reducible refine x_ifS ?_)
  | (with_reducible refine x_op ?_) | (with_reducible refine x_c ?_) | ((with_reducible refine' x_var ?k1 ?_); (case k1 => with_unfolding_all rfl)) | (with_reducible refine x_cb ?_) | (with_reducible refine x_call0 ?_) | (with_reducible refine x_cons ?_) | (with_reducible refine x_nil ?_)
  | (with_reducible refine x_test ?_) | (with_reducible refine x_B ?_) | (with_reducible refine x_bl ?_) | (with_reducible refine x_and ?_) | (with_reducible refine x_or ?_) | (with_reducible refine x_not ?_)
  | (with_reducible refine x_andV ?_) | (with_reducible refine x_orV ?_) | (with_reducible refine x_notV ?_) | (with_reducible refine x_if ?_) | (with_reducible refine x_isN ?_) | (with_reducible refine x_notN ?_)
  | (with_reducible refine x_tup ?_) | (with_reducible refine x_lst ?_) | (with_reducible refine x_sl ?_) | (with_reducible refine x_noPart ?_) | (with_reducible refine x_part ?_) | (with_reducible refine x_int ?_)
  | (with_reducible refine x_bm ?_) | (with_reducible refine x_m1 ?_) | (with_reducible refine x_tyS ?_) | (with_reducible refine x_gNil ?_) | (with_reducible refine x_gCons ?_) | (with_reducible refine x_gSub ?_) | (with_reducible refine x_next ?_) | (with_reducible refine x_brk ?_)
  | (with_reducible refine x_slStep ?_) | (with_reducible refine x_lc ?_) | (with_reducible refine x_for ?_) | (with_reducible refine x_iL ?_) | (with_reducible refine x_iR1 ?_) | (with_reducible refine x_iR3 ?_) | (with_reducible refine x_iS ?_) | (with_reducible refine x_ref ?_) | (with_reducible refine x_yes ?_)
  | (with_reducible refine a_addI ?_) | (with_reducible refine x_I0 ?_) | (with_reducible refine a_eq rfl ?_) | (with_reducible refine a_ne rfl ?_) | (with_reducible refine a_inS ?_) | (with_reducible refine a_ninS ?_) | (with_reducible refine x_strS ?_) | (with_reducible refine x_intI ?_) | (with_reducible refine x_iB ?_) | (with_reducible refine x_iT ?_)))

section
variable {P : Program} {w : World} {K : PySem.W.Frag} {mg : Str → Option Value} {base : Heap}
/-! ### cut, put elsewhere, more behind -/
theorem cutm1_tl {z : Str} : tl (cutS z none (some (-1))) = (tl z).dropLast := by
  unfold cutS
  rw [HT.sIx_none]
  have e : HT.sIx z.length z.length (some (-1)) = z.length - 1 := by
    show (if (-1 : Int) < 0 then ((-1 : Int) + (z.length : Int)).toNat else min (-1 : Int).toNat z.length) = _
    rw [if_pos (by decide)]
    omega
  rw [e]
  show ((tl z).drop 0).take (z.length - 1 - 0) = _
  rw [List.drop_zero, Nat.sub_zero, len_tl, List.dropLast_eq_take]
theorem text_snoc (A : List Str) (x : Str) : tl (textS (A ++ [x])) = tl (textS A) ++ tl x ++ [10] := by
  rw [textS_tl, textS_tl, List.map_append, List.flatten_append]
  simp
theorem step_std {b b' z : Str} (h : vwStep b (wordsS z) = some b') : ∃ w r, wordsS z = w :: r ∧ lineStands w r = true ∧ mayFollow b w = true ∧ b' = w := by
  cases e : wordsS z with
  | nil => rw [e] at h; cases h
  | cons w r =>
    rw [e] at h
    have h2 : (if mayFollow b w = true ∧ lineStands w r = true then some w else none) = some b' := h
    by_cases g : mayFollow b w = true ∧ lineStands w r = true
    · rw [if_pos g] at h2
      exact ⟨w, r, rfl, g.2, g.1, (Option.some.inj h2).symm⟩
    · rw [if_neg g] at h2
      cases h2
/-- a line that stands by itself -/
def Std (z : Str) : Prop := ∃ w r, wordsS z = w :: r ∧ lineStands w r = true
theorem scan_std : ∀ {A : List Str} {b b' : Str} {k : Nat}, vwScan b k A = .ok b' → ∀ z ∈ A, Std z
  | [], _, _, _, _, z, hz => by cases hz
  | y :: A, b, b', k, h, z, hz => by
    unfold vwScan at h
    cases e : vwStep b (wordsS y) with
    | none => rw [e] at h; cases h
    | some b2 =>
      rw [e] at h
      obtain ⟨w, r, e1, e2, _⟩ := step_std e
      rcases List.mem_cons.mp hz with rfl | hz
      · exact ⟨w, r, e1, e2⟩
      · exact scan_std h z hz
theorem view_f3 {rows : List RowT} (h : ∀ r ∈ rows, r.Ok) (h0 : vL rows ≠ []) : readView (cutS (textS (vL rows)) none (some (-1))) = .error (vL rows).length := by
  obtain ⟨b, hb, e⟩ := vl_scan h
  obtain ⟨A, x, eL⟩ : ∃ A x, vL rows = A ++ [x] := ⟨_, _, (List.dropLast_concat_getLast h0).symm⟩
  have hf : ∀ p ∈ vL rows, 10 ∉ tl p := fun p hp => lin_free (vl_lin h p hp)
  have hstd := scan_std e
  rw [eL] at e hf hstd
  obtain ⟨b2, e2⟩ := scan_pre e
  have hx : x ≠ "" := fun q => by
    obtain ⟨w, r, e1, e3⟩ := hstd x (by simp)
    have hs : vwStep "told" (wordsS x) = none := spo_none (by rw [q]; exact spo_empty)
    obtain ⟨o, hw, ho⟩ : Spo x := by rw [q]; exact spo_empty
    obtain ⟨g1, g2⟩ := stands_good e3
    obtain ⟨h1, h2⟩ := odd_bad ho
    rw [e1] at hw
    rcases List.mem_cons.mp hw with rfl | hw
    · exact h1 g1
    · exact h2 (g2 o hw)
  have el : linesS (cutS (textS (vL rows)) none (some (-1))) = A ++ [x] := lines_rest (by
    rw [cutm1_tl, eL, text_snoc, List.dropLast_concat]) (fun p hp => hf p (List.mem_append_left _ hp)) (hf x (by simp))
  unfold readView readRows
  rw [el, List.dropLast_concat, e2]
  dsimp only
  have hg : (A ++ [x]).getLast? = some x := by simp
  rw [hg, if_neg (fun q => hx (Option.some.inj q.1)), eL]
/-! ### the order alone -/
theorem end_none {b : Str} (hb : b ∈ rowWords) : b ∈ endWords ↔ followL b = none := by
  have h : ∀ b ∈ rowWords, decide (b ∈ endWords) = (followL b).isNone := by decide +kernel
  have := h b hb
  constructor
  · intro m
    rw [decide_eq_true m] at this
    exact Option.isNone_iff_eq_none.mp this.symm
  · intro m
    rw [m] at this
    exact of_decide_eq_true this
theorem ord_scan {n : Nat} : ∀ {O : List Str} {b : Str} {k : Nat}, (∀ z ∈ O, Std z) → b ∈ rowWords → match vwScan b k O with
    | .error j => ordGo n b k O = j ∧ 0 < j
    | .ok b' => ordGo n b k O = if followL b' = none then 0 else n + 1
  | [], b, k, _, hb => by
    show ordGo n b k [] = if followL b = none then 0 else n + 1
    unfold ordGo
    by_cases g : b ∈ endWords
    · rw [if_pos g, if_pos ((end_none hb).mp g)]
    · rw [if_neg g, if_neg fun q => g ((end_none hb).mpr q)]
  | z :: O, b, k, h, hb => by
    obtain ⟨w, r, e1, e2⟩ := h z List.mem_cons_self
    have hw := (stands_good e2).1
    unfold vwScan ordGo
    rw [e1]
    show match (match (if mayFollow b w = true ∧ lineStands w r = true then some w else none) with | some b' => vwScan b' (k + 1) O | none => .error (k + 1)) with
      | .error j => (if mayFollow b w = true then ordGo n w (k + 1) O else k + 1) = j ∧ 0 < j
      | .ok b' => (if mayFollow b w = true then ordGo n w (k + 1) O else k + 1) = if followL b' = none then 0 else n + 1
    by_cases g : mayFollow b w = true
    · rw [if_pos ⟨g, e2⟩, if_pos g]
      exact ord_scan (fun y hy => h y (List.mem_cons_of_mem _ hy)) hw
    · rw [if_neg fun q => g q.1, if_neg g]
      exact ⟨rfl, by omega⟩
theorem view_f5 {O : List Str} (h : ∀ z ∈ O, Std z) (hf : ∀ p ∈ O, 10 ∉ tl p) : (0 < ordFault O → readView (textS O) = .error (ordFault O)) ∧ (ordFault O = 0 → ∃ ds, readView (textS O) = .ok ds) := by
  have hs := ord_scan (n := O.length) (k := 0) h (show ("told" : Str) ∈ rowWords by decide +kernel)
  unfold readView
  rw [read_text hf]
  unfold ordFault
  cases e : vwScan "told" 0 O with
  | error j =>
    rw [e] at hs
    dsimp only at hs ⊢
    rw [hs.1]
    exact ⟨fun _ => rfl, fun q => absurd q (by omega)⟩
  | ok b =>
    rw [e] at hs
    dsimp only at hs ⊢
    rw [hs]
    by_cases g : followL b = none
    · rw [if_pos g, if_pos g]
      exact ⟨fun q => absurd q (by decide), fun _ => ⟨_, rfl⟩⟩
    · rw [if_neg g, if_neg g]
      exact ⟨fun _ => rfl, fun q => absurd q (by omega)⟩
def badLines : List Str := ["made 1 a b 0 2", "made 1 a b 0", "went a 1", "heard 1 2", "pause", "gave", "came 1 a", "cell 1 0 0 0 0", "told same", "hall a", "went 1 end"]
theorem bad_step {z b : Str} (hz : z ∈ badLines) (hb : followL b = none) : vwStep b (wordsS z) = none := by
  have h1 : ∀ z ∈ badLines, (match wordsS z with | w :: r => !lineStands w r || (!decide (w ∈ l_TOP_WORDS) && !decide (w = "new")) | [] => true) = true := by decide +kernel
  have h2 := h1 z hz
  cases e : wordsS z with
  | nil => rfl
  | cons w r =>
    rw [e] at h2
    refine if_neg fun hs => ?_
    have h3 : (!lineStands w r || (!decide (w ∈ l_TOP_WORDS) && !decide (w = "new"))) = true := h2
    rw [hs.2] at h3
    simp only [Bool.not_true, Bool.false_or, Bool.and_eq_true, Bool.not_eq_true', decide_eq_false_iff_not] at h3
    exact h3.1 (may_none hb h3.2 hs.1)
theorem bad_free {z : Str} (hz : z ∈ badLines) : Lin 30 z := by
  have h : ∀ z ∈ badLines, (decide (z.length ≤ 30) && (tl z).all fun c => decide (c < 128 ∧ c ≠ 10)) = true := by decide +kernel
  have := h z hz
  rw [Bool.and_eq_true] at this
  exact ⟨of_decide_eq_true this.1, fun c hc => of_decide_eq_true (List.all_eq_true.mp this.2 c hc)⟩
theorem view_f6 {rows : List RowT} (h : ∀ r ∈ rows, r.Ok) {z : Str} (hz : z ∈ badLines) : readView (textS (vL rows ++ [z])) = .error ((vL rows).length + 1) := by
  obtain ⟨b, hb, e⟩ := vl_scan h
  exact view_bad e (bad_step hz hb) fun p hp => by
    rcases List.mem_append.mp hp with hp | hp
    · exact lin_free (vl_lin h p hp)
    · rw [List.mem_singleton.mp hp]
      exact lin_free (bad_free hz)
theorem view_f7 : readView "" = .ok [] := by
  have : readView (textS []) = .ok (([] : List RowT).map RowT.dat) := view_f1 (rows := []) (fun _ h => by cases h)
  have e : textS [] = "" := by decide +kernel
  rw [e] at this
  exact this
theorem new_std : Std "new 1 0 0 0 0 0 1" ∧ Lin 30 "new 1 0 0 0 0 0 1" := by
  refine ⟨⟨"new", ["1", "0", "0", "0", "0", "0", "1"], by decide +kernel, by decide +kernel⟩, by decide +kernel, ?_⟩
  have : ((tl "new 1 0 0 0 0 0 1").all fun c => decide (c < 128 ∧ c ≠ 10)) = true := by decide +kernel
  exact fun c hc => of_decide_eq_true (List.all_eq_true.mp this c hc)
end
end K97


set_option maxRecDepth 100000
set_option maxHeartbeats 4000000
namespace K97
open PySem PySem.Spec PyProof.Rows L2 TL NB
local macro_rules | `(tactic| walk_at "rd") => `(tactic| repeat (first
  | (with_reducible refine x_seq ?_) | (with_reducible refine x_asg ?_) | (with_reducible refine x_gName ?_) | (with_reducible refine x_ret ?_) | (with_reducible refine x_drop ?_) | (with_reducible refine x_ifS ?_)
  | (with_reducible refine x_op ?_) | (with_reducible refine x_c ?_) | ((with_reducible refine' x_var ?k1 ?_); (case k1 => with_unfolding_all rfl)) | (with_reducible refine x_cb ?_) | (with_reducible refine x_call0 ?_) | (with_reducible refine x_cons ?_) | (with_reducible refine x_nil ?_)
  | (with_reducible refine x_test ?_) | (with_reducible refine x_B ?_) | (with_reducible refine x_bl ?_) | (with_reducible refine x_and ?_) | (with_reducible refine x_or ?_) | (with_reducible refine x_not ?_)
  | (with_reducible refine x_andV ?_) | (with_reducible refine x_orV ?_) | (with_reducible refine x_notV ?_) | (with_reducible refine x_if ?_) | (with_reducible refine x_isN ?_) | (with_reducible refine x_notN ?_)
  | (with_reducible refine x_tup ?_) | (with_reducible refine x_lst ?_) | (with_reducible refine x_sl ?_) | (with_reducible refine x_noPart ?_) | (with_reducible refine x_part ?_) | (with_reducible refine x_int ?_)
  | (with_reducible refine x_bm ?_) | (with_reducible refine x_m1 ?_) | (with_reducible refine x_tyS ?_) | (with_reducible refine x_gNil ?_) | (with_reducible refine x_gCons ?_) | (with_reducible refine x_gSub ?_) | (with_reducible refine x_next ?_) | (with_reducible refine x_brk ?_)
  | (with_reducible refine x_slStep ?_) | (with_reducible refine x_lc ?_) | (with_reducible refine x_for ?_) | (with_reducible refine x_iL ?_) | (with_reducible refine x_iR1 ?_) | (with_reducible refine x_iR3 ?_) | (with_reducible refine x_iS ?_) | (with_reducible refine x_ref ?_) | (with_reducible refine x_yes ?_)
  | (with_reducible refine a_addI ?_) | (with_reducible refine x_I0 ?_) | (with_reducible refine a_eq rfl ?_) | (with_reducible refine a_ne rfl ?_) | (with_reducible refine a_inS ?_) | (with_reducible refine a_ninS ?_) | (with_reducible refine x_strS ?_) | (with_reducible refine x_intI ?_) | (with_reducible refine x_iB ?_) | (with_reducible refine x_iT ?_)))

section
variable {P : Program} {w : World} {K : PySem.W.Frag} {mg : Str → Option Value} {base : Heap}
/-! ### the facts of a paper -/
def papOf (p : Paper) : PapI := p.map fun cs => cs.map fun m => ((m.1 : Int), m.2)
theorem pap_dat (p : Paper) : papID (papOf p) = paperD p := by
  unfold papID papOf paperD
  rw [List.map_map]
  refine congrArg PyData.list (List.map_congr_left fun cs _ => ?_)
  show PyData.list ((cs.map fun m => ((m.1 : Int), m.2)).map moviD) = coupD cs
  rw [List.map_map]
  rfl
def pL (p : Paper) : List Str := (paperW p).map lineS
theorem pl_lin {p : Paper} (h : PaperOk p) : ∀ z ∈ pL p, Lin 272 z := fun z hz => by
  obtain ⟨ws, hws, rfl⟩ := List.mem_map.mp hz
  exact line_lin (h.tok ws hws)
theorem read_paper {ls : List Str} (h : ∀ p ∈ ls, 10 ∉ tl p) : readPaper (textS ls) = papScan [] 0 ls := by
  unfold readPaper
  rw [lines_text h, List.dropLast_concat]
  cases papScan [] 0 ls with
  | error k => rfl
  | ok f => simp
theorem pscan_app : ∀ {a : List Str} {f f' : PapI} {k : Nat} {r : List Str}, papScan f k a = .ok f' → papScan f k (a ++ r) = papScan f' (k + a.length) r
  | [], f, f', k, r, h => by
    cases (Except.ok.inj h)
    rfl
  | z :: a, f, f', k, r, h => by
    unfold papScan at h
    rw [List.cons_append]
    conv => lhs; unfold papScan
    cases e : papStep f (wordsS z) with
    | none => rw [e] at h; cases h
    | some f2 =>
      rw [e] at h
      dsimp only at h ⊢
      rw [pscan_app h, List.length_cons, show k + 1 + a.length = k + (a.length + 1) from by omega]
theorem pscan_pre : ∀ {a r : List Str} {f f' : PapI} {k : Nat}, papScan f k (a ++ r) = .ok f' → ∃ f2, papScan f k a = .ok f2
  | [], r, f, f', k, h => ⟨f, rfl⟩
  | z :: a, r, f, f', k, h => by
    rw [List.cons_append] at h
    unfold papScan at h ⊢
    cases e : papStep f (wordsS z) with
    | none => rw [e] at h; cases h
    | some f2 =>
      rw [e] at h
      dsimp only at h ⊢
      exact pscan_pre h
theorem pscan_stop {z : Str} {r : List Str} {f : PapI} {k : Nat} (h : papStep f (wordsS z) = none) : papScan f k (z :: r) = .error (k + 1) := by
  unfold papScan
  rw [h]
theorem pscan_cons {z : Str} {r : List Str} {f f' : PapI} {k : Nat} (h : papStep f (wordsS z) = some f') : papScan f k (z :: r) = papScan f' (k + 1) r := by
  conv => lhs; unfold papScan
  rw [h]
theorem pstep_good {f f' : PapI} {ws : List Str} (h : papStep f ws = some f') : ws ≠ [] ∧ ∀ x ∈ ws, x = "pause" ∨ Good x := by
  unfold papStep at h
  split at h
  · rename_i e
    rw [e]
    exact ⟨by simp, fun x hx => .inl (List.mem_singleton.mp hx)⟩
  · split at h
    · rename_i a b
      split at h
      · rename_i g
        refine ⟨by simp, fun x hx => ?_⟩
        simp only [List.mem_cons, List.not_mem_nil, or_false] at hx
        rcases hx with rfl | rfl
        · exact .inr (.inr (.inl g.1))
        · exact .inr (.inl g.2)
      · cases h
    · cases h
theorem pspo_none {z : Str} {f : PapI} (h : Spo z) : papStep f (wordsS z) = none := by
  obtain ⟨o, hw, ho⟩ := h
  cases e : papStep f (wordsS z) with
  | none => rfl
  | some f' =>
    have hg := (pstep_good e).2 o hw
    rcases hg with rfl | hg
    · exact absurd ho (by decide +kernel)
    · exact absurd hg (odd_bad ho).2
theorem pmov_step {f : PapI} {cur : List (Int × Str)} {m : Nat × Str} (hm : Nb m.1 ∧ Nm m.2) : papStep (f ++ [cur]) (movW m) = some (f ++ [cur ++ [((m.1 : Int), m.2)]]) := by
  unfold papStep movW
  rw [if_neg (by intro e; have := congrArg List.length e; simp at this)]
  have h2 : nameWord m.2 = true := hm.2
  simp [number_num hm.1, h2, word_num hm.1]
theorem pmovs_scan : ∀ {ms : List (Nat × Str)} {f : PapI} {cur : List (Int × Str)} {k : Nat}, (∀ m ∈ ms, Nb m.1 ∧ Nm m.2) → papScan (f ++ [cur]) k ((ms.map movW).map lineS) = .ok (f ++ [cur ++ ms.map fun m => ((m.1 : Int), m.2)])
  | [], f, cur, k, _ => by simp [papScan]
  | m :: ms, f, cur, k, h => by
    have hm := h m List.mem_cons_self
    have hw : wordsS (lineS (movW m)) = movW m := words_line (line_cons (tok_num hm.1) (by simp) fun y hy => by rw [List.mem_singleton.mp hy]; exact tok_nm hm.2)
    rw [List.map_cons, List.map_cons, pscan_cons (f' := f ++ [cur ++ [((m.1 : Int), m.2)]]) (by rw [hw]; exact pmov_step hm), pmovs_scan fun x hx => h x (List.mem_cons_of_mem _ hx)]
    simp
theorem paps_scan : ∀ {p : Paper} {f : PapI} {k : Nat}, (∀ cs ∈ p, ∀ m ∈ cs, Nb m.1 ∧ Nm m.2) → papScan f k (pL p) = .ok (f ++ papOf p)
  | [], f, k, _ => by simp [pL, paperW, papOf, papScan]
  | cs :: p, f, k, h => by
    have e : pL (cs :: p) = lineS [("pause" : Str)] :: ((cs.map movW).map lineS ++ pL p) := by
      unfold pL paperW coupW
      rw [List.flatMap_cons, List.map_append]
      rfl
    have hw : wordsS (lineS [("pause" : Str)]) = [("pause" : Str)] := by decide +kernel
    rw [e, pscan_cons (f' := f ++ [[]]) (by rw [hw]; exact if_pos rfl), pscan_app (pmovs_scan (h cs List.mem_cons_self)), paps_scan fun x hx => h x (List.mem_cons_of_mem _ hx)]
    simp [papOf]
theorem pap_scan {p : Paper} (h : PaperOk p) : papScan [] 0 (pL p) = .ok (papOf p) := by
  rw [paps_scan fun cs hcs => (h.cs cs hcs).2, List.nil_append]
theorem pap_f1 {p : Paper} (h : PaperOk p) : readPaper (textS (pL p)) = .ok (papOf p) := by
  rw [read_paper fun z hz => lin_free (pl_lin h z hz), pap_scan h]
theorem pap_f2 {p : Paper} (h : PaperOk p) {i : Nat} (hi : i < (pL p).length) {z : Str} (hz : Spo z) (hl : 10 ∉ tl z) : readPaper (textS ((pL p).take i ++ z :: (pL p).drop (i + 1))) = .error (i + 1) := by
  have e := pap_scan h
  rw [← List.take_append_drop i (pL p)] at e
  obtain ⟨f2, e2⟩ := pscan_pre e
  rw [read_paper fun y hy => ?_, pscan_app e2, pscan_stop (pspo_none hz), List.length_take, Nat.min_eq_left (Nat.le_of_lt hi), Nat.zero_add]
  rcases List.mem_append.mp hy with hy | hy
  · exact lin_free (pl_lin h y (List.mem_of_mem_take hy))
  · rcases List.mem_cons.mp hy with rfl | hy
    · exact hl
    · exact lin_free (pl_lin h y (List.mem_of_mem_drop hy))
theorem pap_f3 {p : Paper} (h : PaperOk p) (h0 : pL p ≠ []) : readPaper (cutS (textS (pL p)) none (some (-1))) = .error (pL p).length := by
  have e := pap_scan h
  obtain ⟨A, x, eL⟩ : ∃ A x, pL p = A ++ [x] := ⟨_, _, (List.dropLast_concat_getLast h0).symm⟩
  have hf : ∀ y ∈ pL p, 10 ∉ tl y := fun y hy => lin_free (pl_lin h y hy)
  rw [eL] at e hf
  obtain ⟨f2, e2⟩ := pscan_pre e
  have hx : x ≠ "" := fun q => by
    rw [pscan_app e2, pscan_stop (pspo_none (by rw [q]; exact spo_empty))] at e
    cases e
  have el : linesS (cutS (textS (pL p)) none (some (-1))) = A ++ [x] := lines_rest (by rw [cutm1_tl, eL, text_snoc, List.dropLast_concat]) (fun y hy => hf y (List.mem_append_left _ hy)) (hf x (by simp))
  unfold readPaper
  rw [el, List.dropLast_concat, e2]
  dsimp only
  have hg : (A ++ [x]).getLast? = some x := by simp
  rw [hg, if_neg (fun q => hx (Option.some.inj q)), eL]
/-- without its first line, where the second is none of pause -/
theorem pap_f4 {ls : List Str} {z : Str} {r : List Str} (hf : ∀ y ∈ z :: r, 10 ∉ tl y) (hz : wordsS z ≠ ([("pause" : Str)] : List Str)) : readPaper (textS (z :: r)) = .error 1 := by
  rw [read_paper hf, pscan_stop, Nat.zero_add]
  unfold papStep
  rw [if_neg hz]
  rfl
theorem pap_f5 : readPaper "" = .ok [] ∧ readPaper "5 a\n" = .error 1 := by
  refine ⟨by rfl, ?_⟩
  have e : ("5 a\n" : Str) = textS ["5 a"] := by decide +kernel
  rw [e]
  exact pap_f4 (ls := []) (by decide +kernel) (by decide +kernel)
end
end K97


set_option maxRecDepth 100000
set_option maxHeartbeats 4000000
namespace K97
open PySem PySem.Spec PyProof.Rows L2 TL NB
local macro_rules | `(tactic| walk_at "rd") => `(tactic| repeat (first
  | (with_reducible refine x_seq ?_) | (with_reducible refine x_asg ?_) | (with_reducible refine x_gName ?_) | (with_reducible refine x_ret ?_) | (with_reducible refine x_drop ?_) | (with_reducible refine x_ifS ?_)
  | (with_reducible refine x_op ?_) | (with_reducible refine x_c ?_) | ((with_reducible refine' x_var ?k1 ?_); (case k1 => with_unfolding_all rfl)) | (with_reducible refine x_cb ?_) | (with_reducible refine x_call0 ?_) | (with_reducible refine x_cons ?_) | (with_reducible refine x_nil ?_)
  | (with_reducible refine x_test ?_) | (with_reducible refine x_B ?_) | (with_reducible refine x_bl ?_) | (with_reducible refine x_and ?_) | (with_reducible refine x_or ?_) | (with_reducible refine x_not ?_)
  | (with_reducible refine x_andV ?_) | (with_reducible refine x_orV ?_) | (with_reducible refine x_notV ?_) | (with_reducible refine x_if ?_) | (with_reducible refine x_isN ?_) | (with_reducible refine x_notN ?_)
  | (with_reducible refine x_tup ?_) | (with_reducible refine x_lst ?_) | (with_reducible refine x_sl ?_) | (with_reducible refine x_noPart ?_) | (with_reducible refine x_part ?_) | (with_reducible refine x_int ?_)
  | (with_reducible refine x_bm ?_) | (with_reducible refine x_m1 ?_) | (with_reducible refine x_tyS ?_) | (with_reducible refine x_gNil ?_) | (with_reducible refine x_gCons ?_) | (with_reducible refine x_gSub ?_) | (with_reducible refine x_next ?_) | (with_reducible refine x_brk ?_)
  | (with_reducible refine x_slStep ?_) | (with_reducible refine x_lc ?_) | (with_reducible refine x_for ?_) | (with_reducible refine x_iL ?_) | (with_reducible refine x_iR1 ?_) | (with_reducible refine x_iR3 ?_) | (with_reducible refine x_iS ?_) | (with_reducible refine x_ref ?_) | (with_reducible refine x_yes ?_)
  | (with_reducible refine a_addI ?_) | (with_reducible refine x_I0 ?_) | (with_reducible refine a_eq rfl ?_) | (with_reducible refine a_ne rfl ?_) | (with_reducible refine a_inS ?_) | (with_reducible refine a_ninS ?_) | (with_reducible refine x_strS ?_) | (with_reducible refine x_intI ?_) | (with_reducible refine x_iB ?_) | (with_reducible refine x_iT ?_)))

section
variable {P : Program} {w : World} {K : PySem.W.Frag} {mg : Str → Option Value} {base : Heap}
/-! ### sizes -/
theorem text_len {ls : List Str} {n m : Nat} (h : ∀ z ∈ ls, Lin n z) (hm : ls.length ≤ m) : (textS ls).length ≤ m * (n + 1) ∧ ∀ c ∈ tl (textS ls), c < 128 := by
  refine ⟨?_, fun c hc => ?_⟩
  · unfold textS
    have h1 := join_len "" (ls.map fun z => z ++ ("\n" : Str))
    have h2 : ((ls.map fun z => z ++ ("\n" : Str)).map (fun x : Str => x.length)).sum ≤ (ls.map fun z => z ++ ("\n" : Str)).length * (n + 1) := sum_le fun y hy => by
      obtain ⟨z, hz, rfl⟩ := List.mem_map.mp hy
      have := (h z hz).len
      rw [Str.length_append, show ("\n" : Str).length = 1 from rfl]
      omega
    rw [List.length_map, show ("" : Str).length = 0 from rfl] at h1
    rw [List.length_map] at h2
    have h3 : ls.length * (n + 1) ≤ m * (n + 1) := Nat.mul_le_mul_right _ hm
    omega
  · rw [textS_tl] at hc
    obtain ⟨y, hy, hc⟩ := List.mem_flatten.mp hc
    obtain ⟨z, hz, rfl⟩ := List.mem_map.mp hy
    rcases List.mem_append.mp hc with hc | hc
    · exact ((h z hz).asc c hc).1
    · rw [List.mem_singleton.mp hc]; decide
theorem text_tok {ls : List Str} (h : ∀ z ∈ ls, Lin 280 z) (hm : ls.length ≤ 310) : Tok90 (textS ls) := by
  obtain ⟨h1, h2⟩ := text_len h hm
  exact ⟨by omega, h2⟩
theorem Lin.mono {n m : Nat} {z : Str} (h : Lin n z) (hm : n ≤ m) : Lin m z := ⟨Nat.le_trans h.len hm, h.asc⟩
/-- one line may be long -/
theorem text_tok1 {A B : List Str} {z : Str} (hA : ∀ y ∈ A, Lin 280 y) (hB : ∀ y ∈ B, Lin 280 y) (hz : Lin 1900 z) (hm : A.length + B.length ≤ 300) : Tok90 (textS (A ++ z :: B)) := by
  have hA' := text_len hA (Nat.le_refl _)
  have hB' := text_len hB (Nat.le_refl _)
  have e : tl (textS (A ++ z :: B)) = tl (textS A) ++ (tl z ++ [10]) ++ tl (textS B) := by
    rw [textS_tl, textS_tl, textS_tl, List.map_append, List.flatten_append, List.map_cons, List.flatten_cons]
    simp only [List.append_assoc]
  refine ⟨?_, fun c hc => ?_⟩
  · rw [len_tl, e]
    simp only [List.length_append, List.length_cons, List.length_nil]
    rw [← len_tl, ← len_tl, ← len_tl]
    have := hz.len
    omega
  · rw [e] at hc
    rcases List.mem_append.mp hc with hc | hc
    · rcases List.mem_append.mp hc with hc | hc
      · exact hA'.2 c hc
      · rcases List.mem_append.mp hc with hc | hc
        · exact (hz.asc c hc).1
        · rw [List.mem_singleton.mp hc]; decide
    · exact hB'.2 c hc
theorem cut_tok {z : Str} (h : Tok90 z) : Tok90 (cutS z none (some (-1))) := by
  refine ⟨Nat.le_trans (cutS_length _ _ _) h.len, fun c hc => ?_⟩
  rw [cutm1_tl] at hc
  exact h.asc c (List.dropLast_subset _ hc)
/-! ### what is read, as data -/
theorem res_ok {z : Str} {ds : List PyData} (h : readView z = .ok ds) : resD true z = .list ds := by
  unfold resD readAny
  simp only [if_true, h]
theorem res_err {z : Str} {k : Nat} (h : readView z = .error k) : resD true z = badD "view" k := by
  unfold resD readAny
  simp only [if_true, h]
  rfl
theorem pres_ok {z : Str} {f : PapI} (h : readPaper z = .ok f) : resD false z = papID f := by
  unfold resD readAny
  simp only [Bool.false_eq_true, if_false, h]
theorem pres_err {z : Str} {k : Nat} (h : readPaper z = .error k) : resD false z = badD "paper" k := by
  unfold resD readAny
  simp only [Bool.false_eq_true, if_false, h]
  rfl
theorem bad_shaped {u : Str} {k : Nat} (hu : Wd u) : SeqAt.shaped (badD u k) = true := by
  have h1 := hu.ok
  have h2 : PyData.strOk "row" = true := by decide +kernel
  unfold SeqAt.shaped badD
  rw [Bool.and_eq_true]
  refine ⟨?_, ?_⟩
  · simp only [PyData.canLay0, PyData.canLayAll0, h1, h2, Bool.and_self]
  · simp only [PyData.depth, PyData.depthAll]
    rfl
theorem bad_eqv {u : Str} {k : Nat} : PyData.eqv (badD u k) (badD u k) = true := by
  unfold badD
  simp only [PyData.eqv, PyData.eqvAll, decide_true, Bool.and_self, beq_self_eq_true]
end
end K97


set_option maxRecDepth 100000
set_option maxHeartbeats 4000000
namespace K97
open PySem PySem.Spec PyProof.Rows L2 TL NB
local macro_rules | `(tactic| walk_at "rd") => `(tactic| repeat (first
  | (with_reducible refine x_seq ?_) | (with_reducible refine x_asg ?_) | (with_reducible refine x_gName ?_) | (with_reducible refine x_ret ?_) | (with_reducible refine x_drop ?_) | (with_reducible refine x_ifS ?_)
  | (with_reducible refine x_op ?_) | (with_reducible refine x_c ?_) | ((with_reducible refine' x_var ?k1 ?_); (case k1 => with_unfolding_all rfl)) | (with_reducible refine x_cb ?_) | (with_reducible refine x_call0 ?_) | (with_reducible refine x_cons ?_) | (with_reducible refine x_nil ?_)
  | (with_reducible refine x_test ?_) | (with_reducible refine x_B ?_) | (with_reducible refine x_bl ?_) | (with_reducible refine x_and ?_) | (with_reducible refine x_or ?_) | (with_reducible refine x_not ?_)
  | (with_reducible refine x_andV ?_) | (with_reducible refine x_orV ?_) | (with_reducible refine x_notV ?_) | (with_reducible refine x_if ?_) | (with_reducible refine x_isN ?_) | (with_reducible refine x_notN ?_)
  | (with_reducible refine x_tup ?_) | (with_reducible refine x_lst ?_) | (with_reducible refine x_sl ?_) | (with_reducible refine x_noPart ?_) | (with_reducible refine x_part ?_) | (with_reducible refine x_int ?_)
  | (with_reducible refine x_bm ?_) | (with_reducible refine x_m1 ?_) | (with_reducible refine x_tyS ?_) | (with_reducible refine x_gNil ?_) | (with_reducible refine x_gCons ?_) | (with_reducible refine x_gSub ?_) | (with_reducible refine x_next ?_) | (with_reducible refine x_brk ?_)
  | (with_reducible refine x_slStep ?_) | (with_reducible refine x_lc ?_) | (with_reducible refine x_for ?_) | (with_reducible refine x_iL ?_) | (with_reducible refine x_iR1 ?_) | (with_reducible refine x_iR3 ?_) | (with_reducible refine x_iS ?_) | (with_reducible refine x_ref ?_) | (with_reducible refine x_yes ?_)
  | (with_reducible refine a_addI ?_) | (with_reducible refine x_I0 ?_) | (with_reducible refine a_eq rfl ?_) | (with_reducible refine a_ne rfl ?_) | (with_reducible refine a_inS ?_) | (with_reducible refine a_ninS ?_) | (with_reducible refine x_strS ?_) | (with_reducible refine x_intI ?_) | (with_reducible refine x_iB ?_) | (with_reducible refine x_iT ?_)))

section
variable {P : Program} {w : World} {K : PySem.W.Frag} {mg : Str → Option Value} {base : Heap}
/-! ### the law's own looks at a view or a paper -/
/-- what holds of a view's or a paper's lines -/
structure Fx (b : Bool) (L : List Str) (d : PyData) : Prop where
  pos : 0 < L.length
  len : L.length ≤ 245
  lin : ∀ z ∈ L, Lin 272 z
  de : De 12 d
  f1 : resD b (textS L) = d
  f2 : ∀ i < L.length, ∀ z, Spo z → Lin 1900 z → resD b (textS (L.take i ++ z :: L.drop (i + 1))) = badD (unitS b) (i + 1)
  f3 : resD b (cutS (textS L) none (some (-1))) = badD (unitS b) L.length
  std : b = true → ∀ z ∈ L, Std z
  f6 : b = true → ∀ z ∈ badLines, resD true (textS (L ++ [z])) = badD "view" (L.length + 1)
  p4 : b = false → ∀ z y r, L = z :: y :: r → y ≠ "pause" → resD false (textS (y :: r)) = badD "paper" 1
def sp_law_holds (K : PySem.W.Frag) : Sp := fun vs H Q _ => ∃ (s d l : Addr) (v : V) (b : Bool) (L : List Str) (dt : PyData), vs = [.ref s, .ref l, v, .bl b] ∧ Sta s d H ∧ hid s d H l = some (.lst (L.map V.str)) ∧ Dp K (hid s d H) v dt ∧ Fx b L dt ∧
  ((b = true ∧ ∃ rows : List RowT, dt = .list (rows.map RowT.dat) ∧ rows.length ≤ 6 ∧ (∀ r ∈ rows, r.Ok) ∧ L = vL rows) ∨ (b = false ∧ ∃ p : Paper, dt = paperD p ∧ PaperOk p ∧ L = pL p)) ∧
  ∀ H', Sta s d H' → Same (hid s d H) (hid s d H') → Q (.bl true) H'
theorem sc_law_holds : FnScope ["s", "lines", "thing", "view", "text", "told", "word", "at", "wrong", "other", "fault", "got", "line"] ["s", "lines", "thing", "view"] (defScope s_law_holds) := ⟨rfl, rfl, rfl, by decide +kernel, rfl, by decide +kernel, by decide +kernel⟩
theorem ok_law_holds (T : Tx w K mg) : OkF P w K mg base CX0 13 "_law_holds" ["s", "lines", "thing", "view"] (sp_law_holds K) := by
  have G_law_text := ok_law_text (P := P) (base := base) T
  have G_view_text := ok_view_text (P := P) (base := base) T
  have G_paper_text := ok_paper_text (P := P) (base := base) T
  have G_law_same := ok_law_same (P := P) (base := base) T 12
  have G_law_read := ok_law_read (P := P) (base := base) T
  have G_law_pick := ok_law_pick (P := P) (base := base) T
  have G_law_spoilt := ok_law_spoilt (P := P) (base := base) T
  have G_law_order_fault := ok_law_order_fault (P := P) (base := base) T
  refine Tx.def0 T 37 rfl T.g_law_holds sc_law_holds (fun _ _ _ _ _ _ us hl => match us, hl with | [_, _, _, _], _ => rfl) (fun vs H Q E h => ?_) (fun f cdv A outer s H vs Q E hr h => ?_)
  · obtain ⟨sa, d, l, v, b, L, dt, rfl, S, hl, hv, fx, hb, q⟩ := h; rfl
  · obtain ⟨sa, d, l, v, b, L, dt, rfl, S, hl, hv, fx, hb, q⟩ := h
    refine ⟨_, (pss_cons (ps_set (i := 4) sc_law_holds.nd rfl (by first | exact Or.inl rfl | exact Or.inr rfl) (pe_callO G_law_text (hr.mono (by decide)) (by rfl) pass0 (pa_cons (pv 1) pa_nil)))
      (pss_cons (ps_set (i := 5) sc_law_holds.nd rfl (by first | exact Or.inl rfl | exact Or.inr rfl) (pe_ifExp (pt_val (pv 3)) (pe_callO G_view_text (hr.mono (by decide)) (by rfl) pass0 (pa_cons (pv 2) pa_nil)) (pe_callO G_paper_text (hr.mono (by decide)) (by rfl) pass0 (pa_cons (pv 2) pa_nil))))
      (pss_cons (ps_if (PW.pt (pw_or (pt_not (pt_val (pe_callO G_law_same (hr.mono (by decide)) (by rfl) pass0 (pa_cons (pv 5) (pa_cons (pv 4) pa_nil))))) (pw_or1 (pt_not (pt_val (pe_callO G_law_same (hr.mono (by decide)) (by rfl) pass0 (pa_cons (pe_callO G_law_read (hr.mono (by decide)) (by rfl) pass0 (pa_cons (pv 4) (pa_cons (pv 3) pa_nil))) (pa_cons (pv 2) pa_nil))))))))
        (pss_one (ps_ret pe_bl))
        pss_nil)
      (pss_cons (ps_set (i := 6) sc_law_holds.nd rfl (by first | exact Or.inl rfl | exact Or.inr rfl) (pe_ifExp (pt_val (pv 3)) pe_str pe_str))
      (pss_cons (ps_set (i := 7) sc_law_holds.nd rfl (by first | exact Or.inl rfl | exact Or.inr rfl) (pe_callO G_law_pick (hr.mono (by decide)) (by rfl) pass0 (pa_cons (pv 0) (pa_cons (pe_callB (call_lenG) (by rfl) T.f_len (by decide +kernel) (pa_cons (pv 1) pa_nil)) pa_nil))))
      (pss_cons (ps_set (i := 8) sc_law_holds.nd rfl (by first | exact Or.inl rfl | exact Or.inr rfl) (pe_callO G_law_text (hr.mono (by decide)) (by rfl) pass0 (pa_cons (pe_op op_addG (pe_op op_addG (pe_slice sl_G (pv 1) po_none (po_some (pv 7))) (pe_lst (pa_cons (pe_callO G_law_spoilt (hr.mono (by decide)) (by rfl) pass0 (pa_cons (pv 0) (pa_cons (pe_ix ix_seq (pv 1) (pv 7) (fun _ _ => rfl)) pa_nil))) pa_nil))) (pe_slice sl_G (pv 1) (po_some (pe_op op_addG (pv 7) pe_int)) po_none)) pa_nil)))
      (pss_cons (ps_if (pt_cmpR (op_neG hr.units) (pe_callO G_law_read (hr.mono (by decide)) (by rfl) pass0 (pa_cons (pv 8) (pa_cons (pv 3) pa_nil))) (pe_tup (pa_cons (pv 6) (pa_cons (pe_op op_addG (pv 7) pe_int) (pa_cons pe_int (pa_cons pe_str pa_nil))))) (nomark _))
        (pss_one (ps_ret pe_bl))
        pss_nil)
      (pss_cons (ps_if (pt_cmpR (op_neG hr.units) (pe_callO G_law_read (hr.mono (by decide)) (by rfl) pass0 (pa_cons (pe_slice sl_G (pv 4) po_none (po_some (pe_un un_neg pe_int))) (pa_cons (pv 3) pa_nil))) (pe_tup (pa_cons (pv 6) (pa_cons (pe_callB (call_lenG) (by rfl) T.f_len (by decide +kernel) (pa_cons (pv 1) pa_nil)) (pa_cons pe_int (pa_cons pe_str pa_nil))))) (nomark _))
        (pss_one (ps_ret pe_bl))
        pss_nil)
      (pss_cons (ps_if (pt_not (pt_val (pv 3)))
        (pss_cons (ps_if (PW.pt (pw_and (pt_cmpR (op_eqG hr.units) (pe_ix ix_seq (pv 1) pe_int (fun _ _ => rfl)) pe_str (nomark _)) (pw_and (pt_cmpR op_gt (pe_callB (call_lenG) (by rfl) T.f_len (by decide +kernel) (pa_cons (pv 1) pa_nil)) pe_int (nomark _)) (pw_and (pt_cmpR (op_neG hr.units) (pe_ix ix_seq (pv 1) pe_int (fun _ _ => rfl)) pe_str (nomark _)) (pw_and1 (pt_cmpR (op_neG hr.units) (pe_callO G_law_read (hr.mono (by decide)) (by rfl) pass0 (pa_cons (pe_callO G_law_text (hr.mono (by decide)) (by rfl) pass0 (pa_cons (pe_slice sl_G (pv 1) (po_some pe_int) po_none) pa_nil)) (pa_cons (pv 3) pa_nil))) (pe_tup (pa_cons (pv 6) (pa_cons pe_int (pa_cons pe_int (pa_cons pe_str pa_nil))))) (nomark _)))))))
          (pss_one (ps_ret pe_bl))
          pss_nil)
        (pss_one (ps_ret (pe_and (pe_callO G_law_same (hr.mono (by decide)) (by rfl) pass0 (pa_cons (pe_callO G_law_read (hr.mono (by decide)) (by rfl) pass0 (pa_cons pe_str (pa_cons (pv 3) pa_nil))) (pa_cons (pe_lst pa_nil) pa_nil))) (pe_one (pe_cmpR (op_eqG hr.units) (pe_callO G_law_read (hr.mono (by decide)) (by rfl) pass0 (pa_cons pe_str (pa_cons (pv 3) pa_nil))) (pe_tup (pa_cons (pv 6) (pa_cons pe_int (pa_cons pe_int (pa_cons pe_str pa_nil))))) (nomark _)))))))
        pss_nil)
      (pss_cons (ps_for PassesOwn.never rfl (pi_list (pe_lst (pa_cons (pe_op op_addG (pe_slice sl_G (pv 1) po_none (po_some (pv 7))) (pe_slice sl_G (pv 1) (po_some (pe_op op_addG (pv 7) pe_int)) po_none)) (pa_cons (pe_op op_addG (pe_slice sl_G (pv 1) po_none (po_some (pe_op op_addG (pv 7) pe_int))) (pe_slice sl_G (pv 1) (po_some (pv 7)) po_none)) (pa_cons (pe_slice sl_G (pv 1) po_none (po_some (pv 7))) (pa_cons (pe_op op_addG (pe_op op_addG (pe_slice sl_G (pv 1) po_none (po_some (pv 7))) (pe_lst (pa_cons pe_str pa_nil))) (pe_slice sl_G (pv 1) (po_some (pv 7)) po_none)) pa_nil)))))) (pg_name (i := 9) sc_law_holds.nd rfl (by first | exact Or.inl rfl | exact Or.inr rfl))
        (pss_cons (ps_set (i := 10) sc_law_holds.nd rfl (by first | exact Or.inl rfl | exact Or.inr rfl) (pe_callO G_law_order_fault (hr.mono (by decide)) (by rfl) pass0 (pa_cons (pv 9) pa_nil)))
        (pss_cons (ps_set (i := 11) sc_law_holds.nd rfl (by first | exact Or.inl rfl | exact Or.inr rfl) (pe_callO G_law_read (hr.mono (by decide)) (by rfl) pass0 (pa_cons (pe_callO G_law_text (hr.mono (by decide)) (by rfl) pass0 (pa_cons (pv 9) pa_nil)) (pa_cons (pv 3) pa_nil))))
        (pss_cons (ps_if (PW.pt (pw_and (pt_cmpR op_gt (pv 10) pe_int (nomark _)) (pw_and1 (pt_cmpR (op_neG hr.units) (pv 11) (pe_tup (pa_cons (pv 6) (pa_cons (pv 10) (pa_cons pe_int (pa_cons pe_str pa_nil))))) (nomark _)))))
          (pss_one (ps_ret pe_bl))
          pss_nil)
        (pss_one (ps_if (PW.pt (pw_and (pt_cmpR (op_eqG hr.units) (pv 10) pe_int (nomark _)) (pw_and1 (pt_not (pt_val (pe_callB (call_isi) (by rfl) T.f_isinstance (by decide +kernel) (pa_cons (pv 11) (pa_cons (pe_bltn (v := .ty "list") (by rfl) T.f_list (by decide +kernel) rfl) pa_nil))))))))
          (pss_one (ps_ret pe_bl))
          pss_nil))))))
      (pss_cons (ps_for PassesOwn.never rfl (pi_list (pe_lst (pa_cons pe_str (pa_cons pe_str (pa_cons pe_str (pa_cons pe_str (pa_cons pe_str (pa_cons pe_str (pa_cons pe_str (pa_cons pe_str (pa_cons pe_str (pa_cons pe_str (pa_cons pe_str pa_nil))))))))))))) (pg_name (i := 12) sc_law_holds.nd rfl (by first | exact Or.inl rfl | exact Or.inr rfl))
        (pss_one (ps_if (pt_cmpR (op_neG hr.units) (pe_callO G_law_read (hr.mono (by decide)) (by rfl) pass0 (pa_cons (pe_callO G_law_text (hr.mono (by decide)) (by rfl) pass0 (pa_cons (pe_op op_addG (pv 1) (pe_lst (pa_cons (pv 12) pa_nil))) pa_nil)) (pa_cons (pv 3) pa_nil))) (pe_tup (pa_cons (pv 6) (pa_cons (pe_op op_addG (pe_callB (call_lenG) (by rfl) T.f_len (by decide +kernel) (pa_cons (pv 1) pa_nil)) pe_int) (pa_cons pe_int (pa_cons pe_str pa_nil))))) (nomark _))
          (pss_one (ps_ret pe_bl))
          pss_nil)))
      (pss_one (ps_ret (pe_callO G_law_same (hr.mono (by decide)) (by rfl) pass0 (pa_cons (pe_callO G_law_read (hr.mono (by decide)) (by rfl) pass0 (pa_cons pe_str (pa_cons (pv 3) pa_nil))) (pa_cons (pe_lst pa_nil) pa_nil)))))))))))))))), ?_⟩
    have hLl := fx.len
    rcases hb with ⟨rfl, rows, rfl, hr6, okr, rfl⟩ | ⟨rfl, p, rfl, okp, rfl⟩
    · -- view
      obtain ⟨a, xs, rfl, hxs, dxs⟩ := dp_lst hv
      walk_at "rd"
      refine ⟨l, (vL rows), rfl, SqL.of (hid_le _ _ hl), by omega, fun z hz => by have := (fx.lin z hz).len; omega, fun H1 s1 => ?_⟩
      have S1 := S.ext s1
      have m1 := hid_same (s := sa) (d := d) s1
      walk_at "rd"
      refine iteT ?_
      walk_at "rd"
      refine ⟨a, rows, rfl, dp_mono (hid_le.trans s1) hv, by omega, okr, fun H2 s2 => ?_⟩
      rw [cat_text]
      have S2 := S1.ext s2
      have m2 := m1.trans (hid_same (s := sa) (d := d) s2)
      have eL : textS ((rows.flatMap RowT.words).map lineS) = textS (vL rows) := rfl
      rw [eL]
      walk_at "rd"
      refine ⟨.str (textS (vL rows)), .str (textS (vL rows)), .str (textS (vL rows)), rfl, .str _, .str _, .str _ _, fun H3 s3 => ?_⟩
      have S3 := S2.ext s3
      have m3 := m2.trans (hid_same (s := sa) (d := d) s3)
      walk_at "rd"
      refine iteF ?_
      walk_at "rd"
      have tokT : Tok90 (textS (vL rows)) := text_tok (fun z hz => (fx.lin z hz).mono (by decide)) (by omega)
      refine ⟨textS (vL rows), true, rfl, tokT, fun v4 N4 H4 O4 d4 => ?_⟩
      rw [fx.f1] at d4
      have S4 := S3.ext O4.g
      have m4 := m3.trans (hid_same (s := sa) (d := d) O4.g)
      walk_at "rd"
      refine ⟨v4, .ref a, _, rfl, dp_mono O4.n d4, dp_mono (m4.trans hid_le) hv, fx.de, fun H5 s5 => ?_⟩
      have S5 := S4.ext s5
      have m5 := m4.trans (hid_same (s := sa) (d := d) s5)
      walk_at "rd"
      refine iteF ?_
      walk_at "rd"
      refine iteT ?_
      walk_at "rd"
      refine a_lenL (SqL.of (hid_le _ _ (m5 _ _ hl))) ?_
      walk_at "rd"
      rw [List.length_map]
      have hLp := fx.pos
      refine ⟨sa, d, (vL rows).length, rfl, S5, ⟨by omega, by omega⟩, fun r6 H6 h60 h61 S6 e6 => ?_⟩
      rw [← e6] at m5
      obtain ⟨n, rfl⟩ : ∃ n : Nat, r6 = (n : Int) := ⟨r6.toNat, by omega⟩
      have hn : n < (vL rows).length := by omega
      walk_at "rd"
      have hlin := fx.lin
      have hz0 : (vL rows)[n]? = some (vL rows)[n] := List.getElem?_eq_getElem hn
      have hzl := hlin _ (List.getElem_mem hn)
      refine a_slL (SqL.of (hid_le _ _ (m5 _ _ hl))) fun p1 hp1 => ?_
      rw [cut_to, ← List.map_take]
      have q1 : hid sa d (upd H6 p1 (.lst (((vL rows).take n).map V.str))) p1 = some (.lst (((vL rows).take n).map V.str)) := by rw [hid_new S6 hp1, upd_same]
      have m7 := m5.trans (hid_same (s := sa) (d := d) (same_new (o := .lst (((vL rows).take n).map V.str)) hp1))
      have S7 := S6.new (o := .lst (((vL rows).take n).map V.str)) hp1
      generalize upd H6 p1 (.lst (((vL rows).take n).map V.str)) = H7 at q1 m7 S7 ⊢
      walk_at "rd"
      refine a_ixL (SqL.of (hid_le _ _ (m7 _ _ hl))) (ixS hz0) ?_
      walk_at "rd"
      refine ⟨sa, d, _, rfl, S7, hzl.mono (by decide), fun z8 H8 sp8 lin8 S8 m8' => ?_⟩
      have m8 := m7.trans m8'
      replace q1 := m8' _ _ q1
      walk_at "rd"
      refine ⟨sz_lit (n := 1), fun p2 hp2 => ?_⟩
      have q2 : hid sa d (upd H8 p2 (.lst [.str z8])) p2 = some (.lst [.str z8]) := by rw [hid_new S8 hp2, upd_same]
      have m9 := m8.trans (hid_same (s := sa) (d := d) (same_new (o := .lst [.str z8]) hp2))
      replace q1 := hid_same (s := sa) (d := d) (same_new (o := .lst [.str z8]) hp2) _ _ q1
      have S9 := S8.new (o := .lst [.str z8]) hp2
      generalize upd H8 p2 (.lst [.str z8]) = H9 at q1 q2 m9 S9 ⊢
      refine a_addL (hid_le _ _ q1) (hid_le _ _ q2) (sz_le (by rw [List.length_map, List.length_take]; show _ + 1 ≤ _; omega)) fun p3 hp3 => ?_
      rw [show ((vL rows).take n).map V.str ++ [V.str z8] = ((vL rows).take n ++ [z8]).map V.str from by rw [List.map_append]; rfl]
      have q3 : hid sa d (upd H9 p3 (.lst (((vL rows).take n ++ [z8]).map V.str))) p3 = some (.lst (((vL rows).take n ++ [z8]).map V.str)) := by rw [hid_new S9 hp3, upd_same]
      have m10 := m9.trans (hid_same (s := sa) (d := d) (same_new (o := .lst (((vL rows).take n ++ [z8]).map V.str)) hp3))
      have S10 := S9.new (o := .lst (((vL rows).take n ++ [z8]).map V.str)) hp3
      generalize upd H9 p3 (.lst (((vL rows).take n ++ [z8]).map V.str)) = H10 at q3 m10 S10 ⊢
      walk_at "rd"
      refine a_slL (SqL.of (hid_le _ _ (m10 _ _ hl))) fun p4 hp4 => ?_
      rw [show ((n : Int) + 1) = ((n + 1 : Nat) : Int) from rfl, cut_from, ← List.map_drop]
      have q4 : hid sa d (upd H10 p4 (.lst (((vL rows).drop (n + 1)).map V.str))) p4 = some (.lst (((vL rows).drop (n + 1)).map V.str)) := by rw [hid_new S10 hp4, upd_same]
      have m11 := m10.trans (hid_same (s := sa) (d := d) (same_new (o := .lst (((vL rows).drop (n + 1)).map V.str)) hp4))
      replace q3 := hid_same (s := sa) (d := d) (same_new (o := .lst (((vL rows).drop (n + 1)).map V.str)) hp4) _ _ q3
      have S11 := S10.new (o := .lst (((vL rows).drop (n + 1)).map V.str)) hp4
      generalize upd H10 p4 (.lst (((vL rows).drop (n + 1)).map V.str)) = H11 at q3 q4 m11 S11 ⊢
      refine a_addL (hid_le _ _ q3) (hid_le _ _ q4) (sz_le (by simp only [List.length_map, List.length_append, List.length_take, List.length_drop, List.length_cons, List.length_nil]; omega)) fun p5 hp5 => ?_
      rw [← List.map_append, List.append_assoc, show [z8] ++ (vL rows).drop (n + 1) = z8 :: (vL rows).drop (n + 1) from rfl]
      have m12 := m11.trans (hid_same (s := sa) (d := d) (same_new (o := .lst (((vL rows).take n ++ z8 :: (vL rows).drop (n + 1)).map V.str)) hp5))
      have S12 := S11.new (o := .lst (((vL rows).take n ++ z8 :: (vL rows).drop (n + 1)).map V.str)) hp5
      have q5 : (upd H11 p5 (.lst (((vL rows).take n ++ z8 :: (vL rows).drop (n + 1)).map V.str))) p5 = some (.lst (((vL rows).take n ++ z8 :: (vL rows).drop (n + 1)).map V.str)) := upd_same
      generalize upd H11 p5 (.lst (((vL rows).take n ++ z8 :: (vL rows).drop (n + 1)).map V.str)) = H12 at q5 m12 S12 ⊢
      walk_at "rd"
      refine ⟨p5, _, rfl, SqL.of q5, ?_, fun y hy => ?_, fun H13 s13 => ?_⟩
      · simp only [List.length_append, List.length_take, List.length_drop, List.length_cons]
        omega
      · rcases List.mem_append.mp hy with hy | hy
        · have := (hlin y (List.mem_of_mem_take hy)).len; omega
        · rcases List.mem_cons.mp hy with rfl | hy
          · have := lin8.len; omega
          · have := (hlin y (List.mem_of_mem_drop hy)).len; omega
      have S13 := S12.ext s13
      have m13 := m12.trans (hid_same (s := sa) (d := d) s13)
      have tokW : Tok90 (textS ((vL rows).take n ++ z8 :: (vL rows).drop (n + 1))) := text_tok1 (fun y hy => (hlin y (List.mem_of_mem_take hy)).mono (by decide)) (fun y hy => (hlin y (List.mem_of_mem_drop hy)).mono (by decide)) lin8 (by rw [List.length_take, List.length_drop]; omega)
      have fw := fx.f2 n hn z8 sp8 lin8
      walk_at "rd"
      refine ⟨_, true, rfl, tokW, fun v14 N14 H14 O14 d14 => ?_⟩
      rw [fw] at d14
      have S14 := S13.ext O14.g
      have m14 := m13.trans (hid_same (s := sa) (d := d) O14.g)
      replace d14 := dp_mono O14.n d14
      clear O14
      walk_at "rd"
      refine ⟨sz_lit (n := 4), fun p15 hp15 => ?_⟩
      have e15 : Dp K (upd H14 p15 (.tup [.str "view", .int ((n : Int) + 1), .int 1, .str "row"])) (.ref p15) (badD "view" (n + 1)) := .tup (SqT.of upd_same) (.cons (.str _) (.cons (.int _) (.cons (.int _) (.cons (.str _) .nil))))
      have wdU : Wd "view" := wd_lit (by decide +kernel)
      refine a_neD (dp_mono (same_new hp15) d14) e15 (bad_shaped wdU) (bad_shaped wdU) ?_
      rw [show PyData.eqv (badD (unitS true) (n + 1)) (badD "view" (n + 1)) = true from bad_eqv]
      have S15 := S14.new (o := .tup [.str "view", .int ((n : Int) + 1), .int 1, .str "row"]) hp15
      have m15 := m14.trans (hid_same (s := sa) (d := d) (same_new (o := .tup [.str "view", .int ((n : Int) + 1), .int 1, .str "row"]) hp15))
      clear e15 d14
      generalize upd H14 p15 (.tup [.str "view", .int ((n : Int) + 1), .int 1, .str "row"]) = H15 at m15 S15 ⊢
      walk_at "rd"
      refine iteF ?_
      walk_at "rd"
      refine x_un ?_
      walk_at "rd"
      refine ⟨_, rfl, ?_⟩
      walk_at "rd"
      refine a_slS (sz_le (by have := tokT.len; omega)) ?_
      walk_at "rd"
      refine ⟨_, true, rfl, cut_tok tokT, fun v16 N16 H16 O16 d16 => ?_⟩
      rw [show (-1 : Int) = -1 from rfl] at d16
      rw [fx.f3] at d16
      have S16 := S15.ext O16.g
      have m16 := m15.trans (hid_same (s := sa) (d := d) O16.g)
      replace d16 := dp_mono O16.n d16
      clear O16
      walk_at "rd"
      refine a_lenL (SqL.of (hid_le _ _ (m16 _ _ hl))) ?_
      walk_at "rd"
      rw [List.length_map]
      refine ⟨sz_lit (n := 4), fun p17 hp17 => ?_⟩
      have e17 : Dp K (upd H16 p17 (.tup [.str "view", .int ((vL rows).length : Int), .int 1, .str "row"])) (.ref p17) (badD "view" (vL rows).length) := .tup (SqT.of upd_same) (.cons (.str _) (.cons (.int _) (.cons (.int _) (.cons (.str _) .nil))))
      refine a_neD (dp_mono (same_new hp17) d16) e17 (bad_shaped wdU) (bad_shaped wdU) ?_
      rw [show PyData.eqv (badD (unitS true) (vL rows).length) (badD "view" (vL rows).length) = true from bad_eqv]
      have S17 := S16.new (o := .tup [.str "view", .int ((vL rows).length : Int), .int 1, .str "row"]) hp17
      have m17 := m16.trans (hid_same (s := sa) (d := d) (same_new (o := .tup [.str "view", .int ((vL rows).length : Int), .int 1, .str "row"]) hp17))
      clear e17 d16
      generalize upd H16 p17 (.tup [.str "view", .int ((vL rows).length : Int), .int 1, .str "row"]) = H17 at m17 S17 ⊢
      walk_at "rd"
      refine iteF ?_
      walk_at "rd"
      refine iteF ?_
      walk_at "rd"
      refine a_slL (SqL.of (hid_le _ _ (m17 _ _ hl))) fun p18 hp18 => ?_
      rw [cut_to, ← List.map_take]
      have f1 : hid sa d (upd H17 p18 (.lst (((vL rows).take n).map V.str))) p18 = some (.lst (((vL rows).take n).map V.str)) := by rw [hid_new S17 hp18, upd_same]
      have m18 := m17.trans (hid_same (s := sa) (d := d) (same_new (o := .lst (((vL rows).take n).map V.str)) hp18))
      have S18 := S17.new (o := .lst (((vL rows).take n).map V.str)) hp18
      generalize upd H17 p18 (.lst (((vL rows).take n).map V.str)) = H18 at f1 m18 S18 ⊢
      walk_at "rd"
      rw [show ((n : Int) + 1) = ((n + 1 : Nat) : Int) from rfl]
      refine a_slL (SqL.of (hid_le _ _ (m18 _ _ hl))) fun p19 hp19 => ?_
      rw [cut_from, ← List.map_drop]
      have f2 : hid sa d (upd H18 p19 (.lst (((vL rows).drop (n + 1)).map V.str))) p19 = some (.lst (((vL rows).drop (n + 1)).map V.str)) := by rw [hid_new S18 hp19, upd_same]
      have m19 := m18.trans (hid_same (s := sa) (d := d) (same_new (o := .lst (((vL rows).drop (n + 1)).map V.str)) hp19))
      replace f1 := hid_same (s := sa) (d := d) (same_new (o := .lst (((vL rows).drop (n + 1)).map V.str)) hp19) _ _ f1
      have S19 := S18.new (o := .lst (((vL rows).drop (n + 1)).map V.str)) hp19
      generalize upd H18 p19 (.lst (((vL rows).drop (n + 1)).map V.str)) = H19 at f2 f1 m19 S19 ⊢
      refine a_addL (hid_le _ _ f1) (hid_le _ _ f2) (sz_le (by simp only [List.length_map, List.length_append, List.length_take, List.length_drop, List.length_cons, List.length_nil]; omega)) fun p20 hp20 => ?_
      rw [← List.map_append]
      have o1 : hid sa d (upd H19 p20 (.lst (((vL rows).take n ++ (vL rows).drop (n + 1)).map V.str))) p20 = some (.lst (((vL rows).take n ++ (vL rows).drop (n + 1)).map V.str)) := by rw [hid_new S19 hp20, upd_same]
      have m20 := m19.trans (hid_same (s := sa) (d := d) (same_new (o := .lst (((vL rows).take n ++ (vL rows).drop (n + 1)).map V.str)) hp20))
      replace f1 := hid_same (s := sa) (d := d) (same_new (o := .lst (((vL rows).take n ++ (vL rows).drop (n + 1)).map V.str)) hp20) _ _ f1
      replace f2 := hid_same (s := sa) (d := d) (same_new (o := .lst (((vL rows).take n ++ (vL rows).drop (n + 1)).map V.str)) hp20) _ _ f2
      have S20 := S19.new (o := .lst (((vL rows).take n ++ (vL rows).drop (n + 1)).map V.str)) hp20
      generalize upd H19 p20 (.lst (((vL rows).take n ++ (vL rows).drop (n + 1)).map V.str)) = H20 at o1 f1 f2 m20 S20 ⊢
      walk_at "rd"
      rw [show ((n : Int) + 1) = ((n + 1 : Nat) : Int) from rfl]
      refine a_slL (SqL.of (hid_le _ _ (m20 _ _ hl))) fun p21 hp21 => ?_
      rw [cut_to, ← List.map_take]
      have f3 : hid sa d (upd H20 p21 (.lst (((vL rows).take (n + 1)).map V.str))) p21 = some (.lst (((vL rows).take (n + 1)).map V.str)) := by rw [hid_new S20 hp21, upd_same]
      have m21 := m20.trans (hid_same (s := sa) (d := d) (same_new (o := .lst (((vL rows).take (n + 1)).map V.str)) hp21))
      replace f1 := hid_same (s := sa) (d := d) (same_new (o := .lst (((vL rows).take (n + 1)).map V.str)) hp21) _ _ f1
      replace f2 := hid_same (s := sa) (d := d) (same_new (o := .lst (((vL rows).take (n + 1)).map V.str)) hp21) _ _ f2
      replace o1 := hid_same (s := sa) (d := d) (same_new (o := .lst (((vL rows).take (n + 1)).map V.str)) hp21) _ _ o1
      have S21 := S20.new (o := .lst (((vL rows).take (n + 1)).map V.str)) hp21
      generalize upd H20 p21 (.lst (((vL rows).take (n + 1)).map V.str)) = H21 at f3 f1 f2 o1 m21 S21 ⊢
      walk_at "rd"
      refine a_slL (SqL.of (hid_le _ _ (m21 _ _ hl))) fun p22 hp22 => ?_
      rw [cut_from, ← List.map_drop]
      have f4 : hid sa d (upd H21 p22 (.lst (((vL rows).drop n).map V.str))) p22 = some (.lst (((vL rows).drop n).map V.str)) := by rw [hid_new S21 hp22, upd_same]
      have m22 := m21.trans (hid_same (s := sa) (d := d) (same_new (o := .lst (((vL rows).drop n).map V.str)) hp22))
      replace f1 := hid_same (s := sa) (d := d) (same_new (o := .lst (((vL rows).drop n).map V.str)) hp22) _ _ f1
      replace f2 := hid_same (s := sa) (d := d) (same_new (o := .lst (((vL rows).drop n).map V.str)) hp22) _ _ f2
      replace o1 := hid_same (s := sa) (d := d) (same_new (o := .lst (((vL rows).drop n).map V.str)) hp22) _ _ o1
      replace f3 := hid_same (s := sa) (d := d) (same_new (o := .lst (((vL rows).drop n).map V.str)) hp22) _ _ f3
      have S22 := S21.new (o := .lst (((vL rows).drop n).map V.str)) hp22
      generalize upd H21 p22 (.lst (((vL rows).drop n).map V.str)) = H22 at f4 f1 f2 o1 f3 m22 S22 ⊢
      refine a_addL (hid_le _ _ f3) (hid_le _ _ f4) (sz_le (by simp only [List.length_map, List.length_append, List.length_take, List.length_drop, List.length_cons, List.length_nil]; omega)) fun p23 hp23 => ?_
      rw [← List.map_append]
      have o2 : hid sa d (upd H22 p23 (.lst (((vL rows).take (n + 1) ++ (vL rows).drop n).map V.str))) p23 = some (.lst (((vL rows).take (n + 1) ++ (vL rows).drop n).map V.str)) := by rw [hid_new S22 hp23, upd_same]
      have m23 := m22.trans (hid_same (s := sa) (d := d) (same_new (o := .lst (((vL rows).take (n + 1) ++ (vL rows).drop n).map V.str)) hp23))
      replace f1 := hid_same (s := sa) (d := d) (same_new (o := .lst (((vL rows).take (n + 1) ++ (vL rows).drop n).map V.str)) hp23) _ _ f1
      replace f2 := hid_same (s := sa) (d := d) (same_new (o := .lst (((vL rows).take (n + 1) ++ (vL rows).drop n).map V.str)) hp23) _ _ f2
      replace o1 := hid_same (s := sa) (d := d) (same_new (o := .lst (((vL rows).take (n + 1) ++ (vL rows).drop n).map V.str)) hp23) _ _ o1
      replace f3 := hid_same (s := sa) (d := d) (same_new (o := .lst (((vL rows).take (n + 1) ++ (vL rows).drop n).map V.str)) hp23) _ _ f3
      replace f4 := hid_same (s := sa) (d := d) (same_new (o := .lst (((vL rows).take (n + 1) ++ (vL rows).drop n).map V.str)) hp23) _ _ f4
      have S23 := S22.new (o := .lst (((vL rows).take (n + 1) ++ (vL rows).drop n).map V.str)) hp23
      generalize upd H22 p23 (.lst (((vL rows).take (n + 1) ++ (vL rows).drop n).map V.str)) = H23 at o2 f1 f2 o1 f3 f4 m23 S23 ⊢
      walk_at "rd"
      refine a_slL (SqL.of (hid_le _ _ (m23 _ _ hl))) fun p24 hp24 => ?_
      rw [cut_to, ← List.map_take]
      have o3 : hid sa d (upd H23 p24 (.lst (((vL rows).take n).map V.str))) p24 = some (.lst (((vL rows).take n).map V.str)) := by rw [hid_new S23 hp24, upd_same]
      have m24 := m23.trans (hid_same (s := sa) (d := d) (same_new (o := .lst (((vL rows).take n).map V.str)) hp24))
      replace f1 := hid_same (s := sa) (d := d) (same_new (o := .lst (((vL rows).take n).map V.str)) hp24) _ _ f1
      replace f2 := hid_same (s := sa) (d := d) (same_new (o := .lst (((vL rows).take n).map V.str)) hp24) _ _ f2
      replace o1 := hid_same (s := sa) (d := d) (same_new (o := .lst (((vL rows).take n).map V.str)) hp24) _ _ o1
      replace f3 := hid_same (s := sa) (d := d) (same_new (o := .lst (((vL rows).take n).map V.str)) hp24) _ _ f3
      replace f4 := hid_same (s := sa) (d := d) (same_new (o := .lst (((vL rows).take n).map V.str)) hp24) _ _ f4
      replace o2 := hid_same (s := sa) (d := d) (same_new (o := .lst (((vL rows).take n).map V.str)) hp24) _ _ o2
      have S24 := S23.new (o := .lst (((vL rows).take n).map V.str)) hp24
      generalize upd H23 p24 (.lst (((vL rows).take n).map V.str)) = H24 at o3 f1 f2 o1 f3 f4 o2 m24 S24 ⊢
      walk_at "rd"
      refine a_slL (SqL.of (hid_le _ _ (m24 _ _ hl))) fun p25 hp25 => ?_
      rw [cut_to, ← List.map_take]
      have f5 : hid sa d (upd H24 p25 (.lst (((vL rows).take n).map V.str))) p25 = some (.lst (((vL rows).take n).map V.str)) := by rw [hid_new S24 hp25, upd_same]
      have m25 := m24.trans (hid_same (s := sa) (d := d) (same_new (o := .lst (((vL rows).take n).map V.str)) hp25))
      replace f1 := hid_same (s := sa) (d := d) (same_new (o := .lst (((vL rows).take n).map V.str)) hp25) _ _ f1
      replace f2 := hid_same (s := sa) (d := d) (same_new (o := .lst (((vL rows).take n).map V.str)) hp25) _ _ f2
      replace o1 := hid_same (s := sa) (d := d) (same_new (o := .lst (((vL rows).take n).map V.str)) hp25) _ _ o1
      replace f3 := hid_same (s := sa) (d := d) (same_new (o := .lst (((vL rows).take n).map V.str)) hp25) _ _ f3
      replace f4 := hid_same (s := sa) (d := d) (same_new (o := .lst (((vL rows).take n).map V.str)) hp25) _ _ f4
      replace o2 := hid_same (s := sa) (d := d) (same_new (o := .lst (((vL rows).take n).map V.str)) hp25) _ _ o2
      replace o3 := hid_same (s := sa) (d := d) (same_new (o := .lst (((vL rows).take n).map V.str)) hp25) _ _ o3
      have S25 := S24.new (o := .lst (((vL rows).take n).map V.str)) hp25
      generalize upd H24 p25 (.lst (((vL rows).take n).map V.str)) = H25 at f5 f1 f2 o1 f3 f4 o2 o3 m25 S25 ⊢
      walk_at "rd"
      refine ⟨sz_lit (n := 1), fun p26 hp26 => ?_⟩
      have f6 : hid sa d (upd H25 p26 (.lst ([V.str "new 1 0 0 0 0 0 1"]))) p26 = some (.lst ([V.str "new 1 0 0 0 0 0 1"])) := by rw [hid_new S25 hp26, upd_same]
      have m26 := m25.trans (hid_same (s := sa) (d := d) (same_new (o := .lst ([V.str "new 1 0 0 0 0 0 1"])) hp26))
      replace f1 := hid_same (s := sa) (d := d) (same_new (o := .lst ([V.str "new 1 0 0 0 0 0 1"])) hp26) _ _ f1
      replace f2 := hid_same (s := sa) (d := d) (same_new (o := .lst ([V.str "new 1 0 0 0 0 0 1"])) hp26) _ _ f2
      replace o1 := hid_same (s := sa) (d := d) (same_new (o := .lst ([V.str "new 1 0 0 0 0 0 1"])) hp26) _ _ o1
      replace f3 := hid_same (s := sa) (d := d) (same_new (o := .lst ([V.str "new 1 0 0 0 0 0 1"])) hp26) _ _ f3
      replace f4 := hid_same (s := sa) (d := d) (same_new (o := .lst ([V.str "new 1 0 0 0 0 0 1"])) hp26) _ _ f4
      replace o2 := hid_same (s := sa) (d := d) (same_new (o := .lst ([V.str "new 1 0 0 0 0 0 1"])) hp26) _ _ o2
      replace o3 := hid_same (s := sa) (d := d) (same_new (o := .lst ([V.str "new 1 0 0 0 0 0 1"])) hp26) _ _ o3
      replace f5 := hid_same (s := sa) (d := d) (same_new (o := .lst ([V.str "new 1 0 0 0 0 0 1"])) hp26) _ _ f5
      have S26 := S25.new (o := .lst ([V.str "new 1 0 0 0 0 0 1"])) hp26
      generalize upd H25 p26 (.lst ([V.str "new 1 0 0 0 0 0 1"])) = H26 at f6 f1 f2 o1 f3 f4 o2 o3 f5 m26 S26 ⊢
      refine a_addL (hid_le _ _ f5) (hid_le _ _ f6) (sz_le (by simp only [List.length_map, List.length_append, List.length_take, List.length_drop, List.length_cons, List.length_nil]; omega)) fun p27 hp27 => ?_
      rw [show ((vL rows).take n).map V.str ++ [V.str "new 1 0 0 0 0 0 1"] = ((vL rows).take n ++ [("new 1 0 0 0 0 0 1" : Str)]).map V.str from by rw [List.map_append]; rfl]
      have f7 : hid sa d (upd H26 p27 (.lst (((vL rows).take n ++ [("new 1 0 0 0 0 0 1" : Str)]).map V.str))) p27 = some (.lst (((vL rows).take n ++ [("new 1 0 0 0 0 0 1" : Str)]).map V.str)) := by rw [hid_new S26 hp27, upd_same]
      have m27 := m26.trans (hid_same (s := sa) (d := d) (same_new (o := .lst (((vL rows).take n ++ [("new 1 0 0 0 0 0 1" : Str)]).map V.str)) hp27))
      replace f1 := hid_same (s := sa) (d := d) (same_new (o := .lst (((vL rows).take n ++ [("new 1 0 0 0 0 0 1" : Str)]).map V.str)) hp27) _ _ f1
      replace f2 := hid_same (s := sa) (d := d) (same_new (o := .lst (((vL rows).take n ++ [("new 1 0 0 0 0 0 1" : Str)]).map V.str)) hp27) _ _ f2
      replace o1 := hid_same (s := sa) (d := d) (same_new (o := .lst (((vL rows).take n ++ [("new 1 0 0 0 0 0 1" : Str)]).map V.str)) hp27) _ _ o1
      replace f3 := hid_same (s := sa) (d := d) (same_new (o := .lst (((vL rows).take n ++ [("new 1 0 0 0 0 0 1" : Str)]).map V.str)) hp27) _ _ f3
      replace f4 := hid_same (s := sa) (d := d) (same_new (o := .lst (((vL rows).take n ++ [("new 1 0 0 0 0 0 1" : Str)]).map V.str)) hp27) _ _ f4
      replace o2 := hid_same (s := sa) (d := d) (same_new (o := .lst (((vL rows).take n ++ [("new 1 0 0 0 0 0 1" : Str)]).map V.str)) hp27) _ _ o2
      replace o3 := hid_same (s := sa) (d := d) (same_new (o := .lst (((vL rows).take n ++ [("new 1 0 0 0 0 0 1" : Str)]).map V.str)) hp27) _ _ o3
      replace f5 := hid_same (s := sa) (d := d) (same_new (o := .lst (((vL rows).take n ++ [("new 1 0 0 0 0 0 1" : Str)]).map V.str)) hp27) _ _ f5
      replace f6 := hid_same (s := sa) (d := d) (same_new (o := .lst (((vL rows).take n ++ [("new 1 0 0 0 0 0 1" : Str)]).map V.str)) hp27) _ _ f6
      have S27 := S26.new (o := .lst (((vL rows).take n ++ [("new 1 0 0 0 0 0 1" : Str)]).map V.str)) hp27
      generalize upd H26 p27 (.lst (((vL rows).take n ++ [("new 1 0 0 0 0 0 1" : Str)]).map V.str)) = H27 at f7 f1 f2 o1 f3 f4 o2 o3 f5 f6 m27 S27 ⊢
      walk_at "rd"
      refine a_slL (SqL.of (hid_le _ _ (m27 _ _ hl))) fun p28 hp28 => ?_
      rw [cut_from, ← List.map_drop]
      have f8 : hid sa d (upd H27 p28 (.lst (((vL rows).drop n).map V.str))) p28 = some (.lst (((vL rows).drop n).map V.str)) := by rw [hid_new S27 hp28, upd_same]
      have m28 := m27.trans (hid_same (s := sa) (d := d) (same_new (o := .lst (((vL rows).drop n).map V.str)) hp28))
      replace f1 := hid_same (s := sa) (d := d) (same_new (o := .lst (((vL rows).drop n).map V.str)) hp28) _ _ f1
      replace f2 := hid_same (s := sa) (d := d) (same_new (o := .lst (((vL rows).drop n).map V.str)) hp28) _ _ f2
      replace o1 := hid_same (s := sa) (d := d) (same_new (o := .lst (((vL rows).drop n).map V.str)) hp28) _ _ o1
      replace f3 := hid_same (s := sa) (d := d) (same_new (o := .lst (((vL rows).drop n).map V.str)) hp28) _ _ f3
      replace f4 := hid_same (s := sa) (d := d) (same_new (o := .lst (((vL rows).drop n).map V.str)) hp28) _ _ f4
      replace o2 := hid_same (s := sa) (d := d) (same_new (o := .lst (((vL rows).drop n).map V.str)) hp28) _ _ o2
      replace o3 := hid_same (s := sa) (d := d) (same_new (o := .lst (((vL rows).drop n).map V.str)) hp28) _ _ o3
      replace f5 := hid_same (s := sa) (d := d) (same_new (o := .lst (((vL rows).drop n).map V.str)) hp28) _ _ f5
      replace f6 := hid_same (s := sa) (d := d) (same_new (o := .lst (((vL rows).drop n).map V.str)) hp28) _ _ f6
      replace f7 := hid_same (s := sa) (d := d) (same_new (o := .lst (((vL rows).drop n).map V.str)) hp28) _ _ f7
      have S28 := S27.new (o := .lst (((vL rows).drop n).map V.str)) hp28
      generalize upd H27 p28 (.lst (((vL rows).drop n).map V.str)) = H28 at f8 f1 f2 o1 f3 f4 o2 o3 f5 f6 f7 m28 S28 ⊢
      refine a_addL (hid_le _ _ f7) (hid_le _ _ f8) (sz_le (by simp only [List.length_map, List.length_append, List.length_take, List.length_drop, List.length_cons, List.length_nil]; omega)) fun p29 hp29 => ?_
      rw [← List.map_append]
      have o4 : hid sa d (upd H28 p29 (.lst (((vL rows).take n ++ [("new 1 0 0 0 0 0 1" : Str)] ++ (vL rows).drop n).map V.str))) p29 = some (.lst (((vL rows).take n ++ [("new 1 0 0 0 0 0 1" : Str)] ++ (vL rows).drop n).map V.str)) := by rw [hid_new S28 hp29, upd_same]
      have m29 := m28.trans (hid_same (s := sa) (d := d) (same_new (o := .lst (((vL rows).take n ++ [("new 1 0 0 0 0 0 1" : Str)] ++ (vL rows).drop n).map V.str)) hp29))
      replace f1 := hid_same (s := sa) (d := d) (same_new (o := .lst (((vL rows).take n ++ [("new 1 0 0 0 0 0 1" : Str)] ++ (vL rows).drop n).map V.str)) hp29) _ _ f1
      replace f2 := hid_same (s := sa) (d := d) (same_new (o := .lst (((vL rows).take n ++ [("new 1 0 0 0 0 0 1" : Str)] ++ (vL rows).drop n).map V.str)) hp29) _ _ f2
      replace o1 := hid_same (s := sa) (d := d) (same_new (o := .lst (((vL rows).take n ++ [("new 1 0 0 0 0 0 1" : Str)] ++ (vL rows).drop n).map V.str)) hp29) _ _ o1
      replace f3 := hid_same (s := sa) (d := d) (same_new (o := .lst (((vL rows).take n ++ [("new 1 0 0 0 0 0 1" : Str)] ++ (vL rows).drop n).map V.str)) hp29) _ _ f3
      replace f4 := hid_same (s := sa) (d := d) (same_new (o := .lst (((vL rows).take n ++ [("new 1 0 0 0 0 0 1" : Str)] ++ (vL rows).drop n).map V.str)) hp29) _ _ f4
      replace o2 := hid_same (s := sa) (d := d) (same_new (o := .lst (((vL rows).take n ++ [("new 1 0 0 0 0 0 1" : Str)] ++ (vL rows).drop n).map V.str)) hp29) _ _ o2
      replace o3 := hid_same (s := sa) (d := d) (same_new (o := .lst (((vL rows).take n ++ [("new 1 0 0 0 0 0 1" : Str)] ++ (vL rows).drop n).map V.str)) hp29) _ _ o3
      replace f5 := hid_same (s := sa) (d := d) (same_new (o := .lst (((vL rows).take n ++ [("new 1 0 0 0 0 0 1" : Str)] ++ (vL rows).drop n).map V.str)) hp29) _ _ f5
      replace f6 := hid_same (s := sa) (d := d) (same_new (o := .lst (((vL rows).take n ++ [("new 1 0 0 0 0 0 1" : Str)] ++ (vL rows).drop n).map V.str)) hp29) _ _ f6
      replace f7 := hid_same (s := sa) (d := d) (same_new (o := .lst (((vL rows).take n ++ [("new 1 0 0 0 0 0 1" : Str)] ++ (vL rows).drop n).map V.str)) hp29) _ _ f7
      replace f8 := hid_same (s := sa) (d := d) (same_new (o := .lst (((vL rows).take n ++ [("new 1 0 0 0 0 0 1" : Str)] ++ (vL rows).drop n).map V.str)) hp29) _ _ f8
      have S29 := S28.new (o := .lst (((vL rows).take n ++ [("new 1 0 0 0 0 0 1" : Str)] ++ (vL rows).drop n).map V.str)) hp29
      generalize upd H28 p29 (.lst (((vL rows).take n ++ [("new 1 0 0 0 0 0 1" : Str)] ++ (vL rows).drop n).map V.str)) = H29 at o4 f1 f2 o1 f3 f4 o2 o3 f5 f6 f7 f8 m29 S29 ⊢
      walk_at "rd"
      refine ⟨sz_lit (n := 4), fun p30 hp30 => ?_⟩
      have o5 : hid sa d (upd H29 p30 (.lst [.ref p20, .ref p23, .ref p24, .ref p29])) p30 = some (.lst [.ref p20, .ref p23, .ref p24, .ref p29]) := by rw [hid_new S29 hp30, upd_same]
      have sn30 := hid_same (s := sa) (d := d) (same_new (o := .lst [.ref p20, .ref p23, .ref p24, .ref p29]) hp30)
      have m30 := m29.trans sn30
      have S30 := S29.new (o := .lst [.ref p20, .ref p23, .ref p24, .ref p29]) hp30
      replace o1 := sn30 _ _ o1
      replace o2 := sn30 _ _ o2
      replace o3 := sn30 _ _ o3
      replace o4 := sn30 _ _ o4
      generalize upd H29 p30 (.lst [.ref p20, .ref p23, .ref p24, .ref p29]) = H30 at o1 o2 o3 o4 o5 m30 S30 ⊢
      have hstd := fx.std rfl
      have hOk : ∀ x ∈ [V.ref p20, V.ref p23, V.ref p24, V.ref p29], ∃ (pk : Addr) (O : List Str), x = .ref pk ∧ hid sa d H30 pk = some (.lst (O.map V.str)) ∧ (∀ z ∈ O, Std z ∧ Lin 280 z) ∧ O.length ≤ 300 ∧ True := fun x hx => by
        have hL : ∀ z ∈ vL rows, Std z ∧ Lin 280 z := fun z hz => ⟨hstd z hz, (hlin z hz).mono (by decide)⟩
        simp only [List.mem_cons, List.not_mem_nil, or_false] at hx
        rcases hx with rfl | rfl | rfl | rfl
        · refine ⟨_, _, rfl, o1, fun z hz => ?_, by simp only [List.length_append, List.length_take, List.length_drop]; omega, trivial⟩
          rcases List.mem_append.mp hz with hz | hz
          · exact hL z (List.mem_of_mem_take hz)
          · exact hL z (List.mem_of_mem_drop hz)
        · refine ⟨_, _, rfl, o2, fun z hz => ?_, by simp only [List.length_append, List.length_take, List.length_drop]; omega, trivial⟩
          rcases List.mem_append.mp hz with hz | hz
          · exact hL z (List.mem_of_mem_take hz)
          · exact hL z (List.mem_of_mem_drop hz)
        · exact ⟨_, _, rfl, o3, fun z hz => hL z (List.mem_of_mem_take hz), by rw [List.length_take]; omega, trivial⟩
        · refine ⟨_, _, rfl, o4, fun z hz => ?_, by simp only [List.length_append, List.length_take, List.length_drop, List.length_cons, List.length_nil]; omega, trivial⟩
          rcases List.mem_append.mp hz with hz | hz
          · rcases List.mem_append.mp hz with hz | hz
            · exact hL z (List.mem_of_mem_take hz)
            · rw [List.mem_singleton.mp hz]
              exact ⟨new_std.1, new_std.2.mono (by decide)⟩
          · exact hL z (List.mem_of_mem_drop hz)
      walk_at "rd"
      refine forL (SqL.of (hid_le _ _ o5)) (fun i σ H' => (∃ x9 x10 x11, σ = [some (.ref sa), some (.ref l), some (.ref a), some (.bl true), some (.str (textS (vL rows))), some (.str (textS (vL rows))), some (.str "view"), some (.int (n : Int)), some (.str (textS ((vL rows).take n ++ z8 :: (vL rows).drop (n + 1)))), x9, x10, x11, none]) ∧ Sta sa d H' ∧ Same (hid sa d H30) (hid sa d H')) ⟨⟨_, _, _, rfl⟩, S30, Same.refl _⟩ (fun i σ H' _ ⟨_, _, hm⟩ => SqL.of (hid_le _ _ (hm _ _ o5))) ?_ ?_
      · rintro i x σ H31 hx ⟨⟨x9, x10, x11, rfl⟩, S31, m31⟩
        obtain ⟨pk, O, rfl, hO, hOs, hOl, _⟩ := hOk x (List.mem_of_getElem? hx)
        walk_at "rd"
        have hOf : ∀ y ∈ O, 10 ∉ tl y := fun y hy => lin_free (hOs y hy).2
        obtain ⟨vf1, vf2⟩ := view_f5 (fun y hy => (hOs y hy).1) hOf
        have tokO : Tok90 (textS O) := text_tok (fun y hy => (hOs y hy).2) (by omega)
        have hO31 := hid_le _ _ (m31 _ _ hO)
        refine ⟨pk, O, rfl, SqL.of hO31, by omega, fun y hy => ⟨by have := (hOs y hy).2.len; omega, fun c hc => ((hOs y hy).2.asc c hc).1⟩, fun H32 s32 => ?_⟩
        have S32 := S31.ext s32
        have m32 := m31.trans (hid_same (s := sa) (d := d) s32)
        walk_at "rd"
        refine ⟨pk, O, rfl, SqL.of (s32 _ _ hO31), by omega, fun y hy => by have := (hOs y hy).2.len; omega, fun H33 s33 => ?_⟩
        have S33 := S32.ext s33
        have m33 := m32.trans (hid_same (s := sa) (d := d) s33)
        walk_at "rd"
        refine ⟨_, true, rfl, tokO, fun v34 N34 H34 O34 d34 => ?_⟩
        have S34 := S33.ext O34.g
        have m34 := m33.trans (hid_same (s := sa) (d := d) O34.g)
        replace d34 := dp_mono O34.n d34
        clear O34
        walk_at "rd"
        rw [show decide ((0 : Int) < (ordFault O : Int)) = decide (0 < ordFault O) from dec_len (k := 0)]
        refine x_ite (fun gf => ?_) (fun gf => ?_)
        · have gf := of_decide_eq_true gf
          rw [res_err (vf1 gf)] at d34
          walk_at "rd"
          refine ⟨sz_lit (n := 4), fun p35 hp35 => ?_⟩
          have e35 : Dp K (upd H34 p35 (.tup [.str "view", .int (ordFault O : Int), .int 1, .str "row"])) (.ref p35) (badD "view" (ordFault O)) := .tup (SqT.of upd_same) (.cons (.str _) (.cons (.int _) (.cons (.int _) (.cons (.str _) .nil))))
          refine a_neD (dp_mono (same_new hp35) d34) e35 (bad_shaped wdU) (bad_shaped wdU) ?_
          rw [bad_eqv]
          have S35 := S34.new (o := .tup [.str "view", .int (ordFault O : Int), .int 1, .str "row"]) hp35
          have m35 := m34.trans (hid_same (s := sa) (d := d) (same_new (o := .tup [.str "view", .int (ordFault O : Int), .int 1, .str "row"]) hp35))
          generalize upd H34 p35 (.tup [.str "view", .int (ordFault O : Int), .int 1, .str "row"]) = H35 at m35 S35 ⊢
          walk_at "rd"
          refine iteF ?_
          walk_at "rd"
          refine x_ite (fun g => absurd (of_decide_eq_true g) (fun e => by have := V.int.inj e; omega)) (fun g => ?_)
          refine iteF ?_
          walk_at "rd"
          exact ⟨⟨_, _, _, rfl⟩, S35, m35⟩
        · have gf0 : ordFault O = 0 := by have := of_decide_eq_false gf; omega
          obtain ⟨ds, hds⟩ := vf2 gf0
          rw [res_ok hds] at d34
          obtain ⟨a34, xs34, rfl, hx34, _⟩ := dp_lst d34
          refine iteF ?_
          walk_at "rd"
          refine x_ite (fun g => ?_) (fun g => absurd (by rw [gf0]; rfl) (of_decide_eq_false g))
          walk_at "rd"
          refine a_isi (ty_lst hx34) (r := true) (by decide +kernel) ?_
          walk_at "rd"
          refine iteF ?_
          walk_at "rd"
          exact ⟨⟨_, _, _, rfl⟩, S34, m34⟩
      · rintro σ H31 ⟨⟨x9, x10, x11, rfl⟩, S31, m31⟩
        walk_at "rd"
        refine ⟨sz_lit (n := 11), fun p32 hp32 => ?_⟩
        rw [show ([V.str "made 1 a b 0 2", V.str "made 1 a b 0", V.str "went a 1", V.str "heard 1 2", V.str "pause", V.str "gave", V.str "came 1 a", V.str "cell 1 0 0 0 0", V.str "told same", V.str "hall a", V.str "went 1 end"] : List V) = badLines.map V.str from rfl]
        have b1 : hid sa d (upd H31 p32 (.lst (badLines.map V.str))) p32 = some (.lst (badLines.map V.str)) := by rw [hid_new S31 hp32, upd_same]
        have m32 := (m30.trans m31).trans (hid_same (s := sa) (d := d) (same_new (o := .lst (badLines.map V.str)) hp32))
        have S32 := S31.new (o := .lst (badLines.map V.str)) hp32
        generalize upd H31 p32 (.lst (badLines.map V.str)) = H32 at b1 m32 S32 ⊢
        walk_at "rd"
        refine forL (SqL.of (hid_le _ _ b1)) (fun i σ H' => (∃ x9 x10 x11 x12, σ = [some (.ref sa), some (.ref l), some (.ref a), some (.bl true), some (.str (textS (vL rows))), some (.str (textS (vL rows))), some (.str "view"), some (.int (n : Int)), some (.str (textS ((vL rows).take n ++ z8 :: (vL rows).drop (n + 1)))), x9, x10, x11, x12]) ∧ Sta sa d H' ∧ Same (hid sa d H32) (hid sa d H')) ⟨⟨_, _, _, _, rfl⟩, S32, Same.refl _⟩ (fun i σ H' _ ⟨_, _, hm⟩ => SqL.of (hid_le _ _ (hm _ _ b1))) ?_ ?_
        · rintro i x σ H33 hx ⟨⟨x9, x10, x11, x12, rfl⟩, S33, m33⟩
          obtain ⟨bz, hbz, rfl⟩ := List.mem_map.mp (List.mem_of_getElem? hx)
          have blin := bad_free hbz
          have hl33 := hid_le _ _ ((m32.trans m33) _ _ hl)
          walk_at "rd"
          refine ⟨sz_lit (n := 1), fun p34 hp34 => ?_⟩
          refine a_addL (same_new hp34 _ _ hl33) upd_same (sz_le (by rw [List.length_map]; show _ + 1 ≤ _; omega)) fun p35 hp35 => ?_
          rw [show (vL rows).map V.str ++ [V.str bz] = (vL rows ++ [bz]).map V.str from by rw [List.map_append]; rfl]
          have s35 := (same_new (o := .lst [.str bz]) hp34).trans (same_new (o := .lst ((vL rows ++ [bz]).map V.str)) hp35)
          have S35 := S33.ext s35
          have m35 := m33.trans (hid_same (s := sa) (d := d) s35)
          have q35 : (upd (upd H33 p34 (.lst [.str bz])) p35 (.lst ((vL rows ++ [bz]).map V.str))) p35 = some (.lst ((vL rows ++ [bz]).map V.str)) := upd_same
          generalize upd (upd H33 p34 (.lst [.str bz])) p35 (.lst ((vL rows ++ [bz]).map V.str)) = H35 at q35 m35 S35 ⊢
          have hbl : ∀ y ∈ vL rows ++ [bz], Lin 280 y := fun y hy => by
            rcases List.mem_append.mp hy with hy | hy
            · exact (hlin y hy).mono (by decide)
            · rw [List.mem_singleton.mp hy]; exact blin.mono (by decide)
          walk_at "rd"
          refine ⟨p35, _, rfl, SqL.of q35, by rw [List.length_append]; show _ + 1 ≤ _; omega, fun y hy => by have := (hbl y hy).len; omega, fun H36 s36 => ?_⟩
          have S36 := S35.ext s36
          have m36 := m35.trans (hid_same (s := sa) (d := d) s36)
          walk_at "rd"
          refine ⟨_, true, rfl, text_tok hbl (by rw [List.length_append]; show _ + 1 ≤ _; omega), fun v37 N37 H37 O37 d37 => ?_⟩
          rw [fx.f6 rfl bz hbz] at d37
          have S37 := S36.ext O37.g
          have m37 := m36.trans (hid_same (s := sa) (d := d) O37.g)
          replace d37 := dp_mono O37.n d37
          clear O37
          walk_at "rd"
          refine a_lenL (SqL.of (hid_le _ _ ((m32.trans m37) _ _ hl))) ?_
          walk_at "rd"
          rw [List.length_map]
          refine ⟨sz_lit (n := 4), fun p38 hp38 => ?_⟩
          have e38 : Dp K (upd H37 p38 (.tup [.str "view", .int (((vL rows).length : Int) + 1), .int 1, .str "row"])) (.ref p38) (badD "view" ((vL rows).length + 1)) := .tup (SqT.of upd_same) (.cons (.str _) (.cons (.int _) (.cons (.int _) (.cons (.str _) .nil))))
          refine a_neD (dp_mono (same_new hp38) d37) e38 (bad_shaped wdU) (bad_shaped wdU) ?_
          rw [bad_eqv]
          have S38 := S37.new (o := .tup [.str "view", .int (((vL rows).length : Int) + 1), .int 1, .str "row"]) hp38
          have m38 := m37.trans (hid_same (s := sa) (d := d) (same_new (o := .tup [.str "view", .int (((vL rows).length : Int) + 1), .int 1, .str "row"]) hp38))
          generalize upd H37 p38 (.tup [.str "view", .int (((vL rows).length : Int) + 1), .int 1, .str "row"]) = H38 at m38 S38 ⊢
          walk_at "rd"
          refine iteF ?_
          walk_at "rd"
          exact ⟨⟨_, _, _, _, rfl⟩, S38, m38⟩
        · rintro σ H33 ⟨⟨x9, x10, x11, x12, rfl⟩, S33, m33⟩
          walk_at "rd"
          refine ⟨"", true, rfl, ⟨by decide +kernel, fun c hc => by cases hc⟩, fun v34 N34 H34 O34 d34 => ?_⟩
          rw [res_ok view_f7] at d34
          have S34 := S33.ext O34.g
          have m34 := m33.trans (hid_same (s := sa) (d := d) O34.g)
          replace d34 := dp_mono O34.n d34
          walk_at "rd"
          refine ⟨sz_lit (n := 0), fun p35 hp35 => ?_⟩
          refine ⟨v34, .ref p35, .list [], rfl, dp_mono (same_new hp35) d34, .lst (SqL.of upd_same) .nil, .lst _ _ (by decide) (fun _ h => (List.not_mem_nil h).elim), fun H36 s36 => ?_⟩
          have s37 := (same_new (o := .lst []) hp35).trans s36
          exact q _ (S34.ext s37) ((m32.trans m34).trans (hid_same (s := sa) (d := d) s37))
    · -- paper
      obtain ⟨a, xs, rfl, hxs, dxs⟩ := dp_lst hv
      walk_at "rd"
      refine ⟨l, (pL p), rfl, SqL.of (hid_le _ _ hl), by omega, fun z hz => by have := (fx.lin z hz).len; omega, fun H1 s1 => ?_⟩
      have S1 := S.ext s1
      have m1 := hid_same (s := sa) (d := d) s1
      walk_at "rd"
      refine iteF ?_
      walk_at "rd"
      refine ⟨a, p, rfl, dp_mono (hid_le.trans s1) hv, okp, fun H2 s2 => ?_⟩
      rw [cat_text]
      have S2 := S1.ext s2
      have m2 := m1.trans (hid_same (s := sa) (d := d) s2)
      have eL : textS ((paperW p).map lineS) = textS (pL p) := rfl
      rw [eL]
      walk_at "rd"
      refine ⟨.str (textS (pL p)), .str (textS (pL p)), .str (textS (pL p)), rfl, .str _, .str _, .str _ _, fun H3 s3 => ?_⟩
      have S3 := S2.ext s3
      have m3 := m2.trans (hid_same (s := sa) (d := d) s3)
      walk_at "rd"
      refine iteF ?_
      walk_at "rd"
      have tokT : Tok90 (textS (pL p)) := text_tok (fun z hz => (fx.lin z hz).mono (by decide)) (by omega)
      refine ⟨textS (pL p), false, rfl, tokT, fun v4 N4 H4 O4 d4 => ?_⟩
      rw [fx.f1] at d4
      have S4 := S3.ext O4.g
      have m4 := m3.trans (hid_same (s := sa) (d := d) O4.g)
      walk_at "rd"
      refine ⟨v4, .ref a, _, rfl, dp_mono O4.n d4, dp_mono (m4.trans hid_le) hv, fx.de, fun H5 s5 => ?_⟩
      have S5 := S4.ext s5
      have m5 := m4.trans (hid_same (s := sa) (d := d) s5)
      walk_at "rd"
      refine iteF ?_
      walk_at "rd"
      refine iteF ?_
      walk_at "rd"
      refine a_lenL (SqL.of (hid_le _ _ (m5 _ _ hl))) ?_
      walk_at "rd"
      rw [List.length_map]
      have hLp := fx.pos
      refine ⟨sa, d, (pL p).length, rfl, S5, ⟨by omega, by omega⟩, fun r6 H6 h60 h61 S6 e6 => ?_⟩
      rw [← e6] at m5
      obtain ⟨n, rfl⟩ : ∃ n : Nat, r6 = (n : Int) := ⟨r6.toNat, by omega⟩
      have hn : n < (pL p).length := by omega
      walk_at "rd"
      have hlin := fx.lin
      have hz0 : (pL p)[n]? = some (pL p)[n] := List.getElem?_eq_getElem hn
      have hzl := hlin _ (List.getElem_mem hn)
      refine a_slL (SqL.of (hid_le _ _ (m5 _ _ hl))) fun p1 hp1 => ?_
      rw [cut_to, ← List.map_take]
      have q1 : hid sa d (upd H6 p1 (.lst (((pL p).take n).map V.str))) p1 = some (.lst (((pL p).take n).map V.str)) := by rw [hid_new S6 hp1, upd_same]
      have m7 := m5.trans (hid_same (s := sa) (d := d) (same_new (o := .lst (((pL p).take n).map V.str)) hp1))
      have S7 := S6.new (o := .lst (((pL p).take n).map V.str)) hp1
      generalize upd H6 p1 (.lst (((pL p).take n).map V.str)) = H7 at q1 m7 S7 ⊢
      walk_at "rd"
      refine a_ixL (SqL.of (hid_le _ _ (m7 _ _ hl))) (ixS hz0) ?_
      walk_at "rd"
      refine ⟨sa, d, _, rfl, S7, hzl.mono (by decide), fun z8 H8 sp8 lin8 S8 m8' => ?_⟩
      have m8 := m7.trans m8'
      replace q1 := m8' _ _ q1
      walk_at "rd"
      refine ⟨sz_lit (n := 1), fun p2 hp2 => ?_⟩
      have q2 : hid sa d (upd H8 p2 (.lst [.str z8])) p2 = some (.lst [.str z8]) := by rw [hid_new S8 hp2, upd_same]
      have m9 := m8.trans (hid_same (s := sa) (d := d) (same_new (o := .lst [.str z8]) hp2))
      replace q1 := hid_same (s := sa) (d := d) (same_new (o := .lst [.str z8]) hp2) _ _ q1
      have S9 := S8.new (o := .lst [.str z8]) hp2
      generalize upd H8 p2 (.lst [.str z8]) = H9 at q1 q2 m9 S9 ⊢
      refine a_addL (hid_le _ _ q1) (hid_le _ _ q2) (sz_le (by rw [List.length_map, List.length_take]; show _ + 1 ≤ _; omega)) fun p3 hp3 => ?_
      rw [show ((pL p).take n).map V.str ++ [V.str z8] = ((pL p).take n ++ [z8]).map V.str from by rw [List.map_append]; rfl]
      have q3 : hid sa d (upd H9 p3 (.lst (((pL p).take n ++ [z8]).map V.str))) p3 = some (.lst (((pL p).take n ++ [z8]).map V.str)) := by rw [hid_new S9 hp3, upd_same]
      have m10 := m9.trans (hid_same (s := sa) (d := d) (same_new (o := .lst (((pL p).take n ++ [z8]).map V.str)) hp3))
      have S10 := S9.new (o := .lst (((pL p).take n ++ [z8]).map V.str)) hp3
      generalize upd H9 p3 (.lst (((pL p).take n ++ [z8]).map V.str)) = H10 at q3 m10 S10 ⊢
      walk_at "rd"
      refine a_slL (SqL.of (hid_le _ _ (m10 _ _ hl))) fun p4 hp4 => ?_
      rw [show ((n : Int) + 1) = ((n + 1 : Nat) : Int) from rfl, cut_from, ← List.map_drop]
      have q4 : hid sa d (upd H10 p4 (.lst (((pL p).drop (n + 1)).map V.str))) p4 = some (.lst (((pL p).drop (n + 1)).map V.str)) := by rw [hid_new S10 hp4, upd_same]
      have m11 := m10.trans (hid_same (s := sa) (d := d) (same_new (o := .lst (((pL p).drop (n + 1)).map V.str)) hp4))
      replace q3 := hid_same (s := sa) (d := d) (same_new (o := .lst (((pL p).drop (n + 1)).map V.str)) hp4) _ _ q3
      have S11 := S10.new (o := .lst (((pL p).drop (n + 1)).map V.str)) hp4
      generalize upd H10 p4 (.lst (((pL p).drop (n + 1)).map V.str)) = H11 at q3 q4 m11 S11 ⊢
      refine a_addL (hid_le _ _ q3) (hid_le _ _ q4) (sz_le (by simp only [List.length_map, List.length_append, List.length_take, List.length_drop, List.length_cons, List.length_nil]; omega)) fun p5 hp5 => ?_
      rw [← List.map_append, List.append_assoc, show [z8] ++ (pL p).drop (n + 1) = z8 :: (pL p).drop (n + 1) from rfl]
      have m12 := m11.trans (hid_same (s := sa) (d := d) (same_new (o := .lst (((pL p).take n ++ z8 :: (pL p).drop (n + 1)).map V.str)) hp5))
      have S12 := S11.new (o := .lst (((pL p).take n ++ z8 :: (pL p).drop (n + 1)).map V.str)) hp5
      have q5 : (upd H11 p5 (.lst (((pL p).take n ++ z8 :: (pL p).drop (n + 1)).map V.str))) p5 = some (.lst (((pL p).take n ++ z8 :: (pL p).drop (n + 1)).map V.str)) := upd_same
      generalize upd H11 p5 (.lst (((pL p).take n ++ z8 :: (pL p).drop (n + 1)).map V.str)) = H12 at q5 m12 S12 ⊢
      walk_at "rd"
      refine ⟨p5, _, rfl, SqL.of q5, ?_, fun y hy => ?_, fun H13 s13 => ?_⟩
      · simp only [List.length_append, List.length_take, List.length_drop, List.length_cons]
        omega
      · rcases List.mem_append.mp hy with hy | hy
        · have := (hlin y (List.mem_of_mem_take hy)).len; omega
        · rcases List.mem_cons.mp hy with rfl | hy
          · have := lin8.len; omega
          · have := (hlin y (List.mem_of_mem_drop hy)).len; omega
      have S13 := S12.ext s13
      have m13 := m12.trans (hid_same (s := sa) (d := d) s13)
      have tokW : Tok90 (textS ((pL p).take n ++ z8 :: (pL p).drop (n + 1))) := text_tok1 (fun y hy => (hlin y (List.mem_of_mem_take hy)).mono (by decide)) (fun y hy => (hlin y (List.mem_of_mem_drop hy)).mono (by decide)) lin8 (by rw [List.length_take, List.length_drop]; omega)
      have fw := fx.f2 n hn z8 sp8 lin8
      walk_at "rd"
      refine ⟨_, false, rfl, tokW, fun v14 N14 H14 O14 d14 => ?_⟩
      rw [fw] at d14
      have S14 := S13.ext O14.g
      have m14 := m13.trans (hid_same (s := sa) (d := d) O14.g)
      replace d14 := dp_mono O14.n d14
      clear O14
      walk_at "rd"
      refine ⟨sz_lit (n := 4), fun p15 hp15 => ?_⟩
      have e15 : Dp K (upd H14 p15 (.tup [.str "paper", .int ((n : Int) + 1), .int 1, .str "row"])) (.ref p15) (badD "paper" (n + 1)) := .tup (SqT.of upd_same) (.cons (.str _) (.cons (.int _) (.cons (.int _) (.cons (.str _) .nil))))
      have wdU : Wd "paper" := wd_lit (by decide +kernel)
      refine a_neD (dp_mono (same_new hp15) d14) e15 (bad_shaped wdU) (bad_shaped wdU) ?_
      rw [show PyData.eqv (badD (unitS false) (n + 1)) (badD "paper" (n + 1)) = true from bad_eqv]
      have S15 := S14.new (o := .tup [.str "paper", .int ((n : Int) + 1), .int 1, .str "row"]) hp15
      have m15 := m14.trans (hid_same (s := sa) (d := d) (same_new (o := .tup [.str "paper", .int ((n : Int) + 1), .int 1, .str "row"]) hp15))
      clear e15 d14
      generalize upd H14 p15 (.tup [.str "paper", .int ((n : Int) + 1), .int 1, .str "row"]) = H15 at m15 S15 ⊢
      walk_at "rd"
      refine iteF ?_
      walk_at "rd"
      refine x_un ?_
      walk_at "rd"
      refine ⟨_, rfl, ?_⟩
      walk_at "rd"
      refine a_slS (sz_le (by have := tokT.len; omega)) ?_
      walk_at "rd"
      refine ⟨_, false, rfl, cut_tok tokT, fun v16 N16 H16 O16 d16 => ?_⟩
      rw [show (-1 : Int) = -1 from rfl] at d16
      rw [fx.f3] at d16
      have S16 := S15.ext O16.g
      have m16 := m15.trans (hid_same (s := sa) (d := d) O16.g)
      replace d16 := dp_mono O16.n d16
      clear O16
      walk_at "rd"
      refine a_lenL (SqL.of (hid_le _ _ (m16 _ _ hl))) ?_
      walk_at "rd"
      rw [List.length_map]
      refine ⟨sz_lit (n := 4), fun p17 hp17 => ?_⟩
      have e17 : Dp K (upd H16 p17 (.tup [.str "paper", .int ((pL p).length : Int), .int 1, .str "row"])) (.ref p17) (badD "paper" (pL p).length) := .tup (SqT.of upd_same) (.cons (.str _) (.cons (.int _) (.cons (.int _) (.cons (.str _) .nil))))
      refine a_neD (dp_mono (same_new hp17) d16) e17 (bad_shaped wdU) (bad_shaped wdU) ?_
      rw [show PyData.eqv (badD (unitS false) (pL p).length) (badD "paper" (pL p).length) = true from bad_eqv]
      have S17 := S16.new (o := .tup [.str "paper", .int ((pL p).length : Int), .int 1, .str "row"]) hp17
      have m17 := m16.trans (hid_same (s := sa) (d := d) (same_new (o := .tup [.str "paper", .int ((pL p).length : Int), .int 1, .str "row"]) hp17))
      clear e17 d16
      generalize upd H16 p17 (.tup [.str "paper", .int ((pL p).length : Int), .int 1, .str "row"]) = H17 at m17 S17 ⊢
      walk_at "rd"
      refine iteF ?_
      walk_at "rd"
      refine iteT ?_
      walk_at "rd"
      obtain ⟨z0, r0, eP⟩ : ∃ z r, pL p = z :: r := by
        cases e : pL p with
        | nil => rw [e] at hLp; exact absurd hLp (Nat.lt_irrefl _)
        | cons z r => exact ⟨z, r, rfl⟩
      have hz00 : (pL p)[0]? = some z0 := by rw [eP]; rfl
      refine a_ixL (SqL.of (hid_le _ _ (m17 _ _ hl))) (ixS (i := 0) hz00) ?_
      walk_at "rd"
      refine x_ite (fun g0 => ?_) (fun g0 => ?_)
      · walk_at "rd"
        refine a_lenL (SqL.of (hid_le _ _ (m17 _ _ hl))) ?_
        walk_at "rd"
        rw [List.length_map]
        refine x_ite (fun g1 => ?_) (fun g1 => ?_)
        · walk_at "rd"
          have g1' := of_decide_eq_true g1
          obtain ⟨y0, r1, eR⟩ : ∃ y r, r0 = y :: r := by
            cases e : r0 with
            | nil => rw [eP, e] at g1'; exact absurd (show (1 : Int) < ((1 : Nat) : Int) from g1') (by decide)
            | cons z r => exact ⟨z, r, rfl⟩
          have hz01 : (pL p)[1]? = some y0 := by rw [eP, eR]; rfl
          refine a_ixL (SqL.of (hid_le _ _ (m17 _ _ hl))) (ixS (i := 1) hz01) ?_
          walk_at "rd"
          refine x_ite (fun g2 => ?_) (fun g2 => ?_)
          · walk_at "rd"
            have ec : cutV ((pL p).map V.str) (some 1) none = ((pL p).drop 1).map V.str := by
              rw [show (1 : Int) = ((1 : Nat) : Int) from rfl, cut_from, List.map_drop]
            have ed : (pL p).drop 1 = y0 :: r1 := by rw [eP, eR]; rfl
            have hy0 : y0 ≠ "pause" := fun e => by rw [e] at g2; exact absurd g2 (by decide +kernel)
            have hl1 : ∀ y ∈ y0 :: r1, Lin 272 y := fun y hy => hlin y (by rw [← ed] at hy; exact List.mem_of_mem_drop hy)
            have hn1 : (y0 :: r1).length ≤ 245 := by rw [← ed, List.length_drop]; omega
            refine a_slL (SqL.of (hid_le _ _ (m17 _ _ hl))) fun p18 hp18 => ?_
            rw [ec, ed]
            have q18 : (upd H17 p18 (.lst ((y0 :: r1).map V.str))) p18 = some (.lst ((y0 :: r1).map V.str)) := upd_same
            have S18 := S17.new (o := .lst ((y0 :: r1).map V.str)) hp18
            have m18 := m17.trans (hid_same (s := sa) (d := d) (same_new (o := .lst ((y0 :: r1).map V.str)) hp18))
            generalize upd H17 p18 (.lst ((y0 :: r1).map V.str)) = H18 at q18 S18 m18 ⊢
            walk_at "rd"
            refine ⟨p18, _, rfl, SqL.of q18, by omega, fun y hy => by have := (hl1 y hy).len; omega, fun H19 s19 => ?_⟩
            have S19 := S18.ext s19
            have m19 := m18.trans (hid_same (s := sa) (d := d) s19)
            walk_at "rd"
            refine ⟨_, false, rfl, text_tok (fun y hy => (hl1 y hy).mono (by decide)) (by omega), fun v20 N20 H20 O20 d20 => ?_⟩
            rw [fx.p4 rfl z0 y0 r1 (by rw [eP, eR]) hy0] at d20
            have S20 := S19.ext O20.g
            have m20 := m19.trans (hid_same (s := sa) (d := d) O20.g)
            replace d20 := dp_mono O20.n d20
            walk_at "rd"
            refine ⟨sz_lit (n := 4), fun p21 hp21 => ?_⟩
            have e21 : Dp K (upd H20 p21 (.tup [.str "paper", .int 1, .int 1, .str "row"])) (.ref p21) (badD "paper" 1) := .tup (SqT.of upd_same) (.cons (.str _) (.cons (.int _) (.cons (.int _) (.cons (.str _) .nil))))
            refine a_neD (dp_mono (same_new hp21) d20) e21 (bad_shaped wdU) (bad_shaped wdU) ?_
            rw [bad_eqv]
            have S21 := S20.new (o := .tup [.str "paper", .int 1, .int 1, .str "row"]) hp21
            have m21 := m20.trans (hid_same (s := sa) (d := d) (same_new (o := .tup [.str "paper", .int 1, .int 1, .str "row"]) hp21))
            generalize upd H20 p21 (.tup [.str "paper", .int 1, .int 1, .str "row"]) = H21 at m21 S21 ⊢
            walk_at "rd"
            refine iteF ?_
            walk_at "rd"
            refine ⟨"", false, rfl, ⟨by decide +kernel, fun c hc => by cases hc⟩, fun v34 N34 H34 O34 d34 => ?_⟩
            rw [pres_ok pap_f5.1] at d34
            have S34 := (S21).ext O34.g
            have m34 := (m21).trans (hid_same (s := sa) (d := d) O34.g)
            replace d34 := dp_mono O34.n d34
            walk_at "rd"
            refine ⟨sz_lit (n := 0), fun p35 hp35 => ?_⟩
            refine ⟨v34, .ref p35, .list [], rfl, dp_mono (same_new hp35) d34, .lst (SqL.of upd_same) .nil, .lst _ _ (by decide) (fun _ h => (List.not_mem_nil h).elim), fun H36 s36 => ?_⟩
            have S36 := S34.ext ((same_new (o := .lst []) hp35).trans s36)
            have m36 := m34.trans (hid_same (s := sa) (d := d) ((same_new (o := .lst []) hp35).trans s36))
            walk_at "rd"
            refine iteT ?_
            walk_at "rd"
            refine ⟨"5 a\n", false, rfl, ⟨by decide +kernel, by decide +kernel⟩, fun v38 N38 H38 O38 d38 => ?_⟩
            rw [pres_err pap_f5.2] at d38
            have S38 := S36.ext O38.g
            have m38 := m36.trans (hid_same (s := sa) (d := d) O38.g)
            replace d38 := dp_mono O38.n d38
            walk_at "rd"
            refine ⟨sz_lit (n := 4), fun p39 hp39 => ?_⟩
            have e39 : Dp K (upd H38 p39 (.tup [.str "paper", .int 1, .int 1, .str "row"])) (.ref p39) (badD "paper" 1) := .tup (SqT.of upd_same) (.cons (.str _) (.cons (.int _) (.cons (.int _) (.cons (.str _) .nil))))
            refine a_eqD (dp_mono (same_new hp39) d38) e39 (bad_shaped wdU) (bad_shaped wdU) ?_
            rw [bad_eqv]
            exact q _ (S38.new hp39) (m38.trans (hid_same (s := sa) (d := d) (same_new hp39)))
          · refine iteF ?_
            walk_at "rd"
            refine ⟨"", false, rfl, ⟨by decide +kernel, fun c hc => by cases hc⟩, fun v34 N34 H34 O34 d34 => ?_⟩
            rw [pres_ok pap_f5.1] at d34
            have S34 := (S17).ext O34.g
            have m34 := (m17).trans (hid_same (s := sa) (d := d) O34.g)
            replace d34 := dp_mono O34.n d34
            walk_at "rd"
            refine ⟨sz_lit (n := 0), fun p35 hp35 => ?_⟩
            refine ⟨v34, .ref p35, .list [], rfl, dp_mono (same_new hp35) d34, .lst (SqL.of upd_same) .nil, .lst _ _ (by decide) (fun _ h => (List.not_mem_nil h).elim), fun H36 s36 => ?_⟩
            have S36 := S34.ext ((same_new (o := .lst []) hp35).trans s36)
            have m36 := m34.trans (hid_same (s := sa) (d := d) ((same_new (o := .lst []) hp35).trans s36))
            walk_at "rd"
            refine iteT ?_
            walk_at "rd"
            refine ⟨"5 a\n", false, rfl, ⟨by decide +kernel, by decide +kernel⟩, fun v38 N38 H38 O38 d38 => ?_⟩
            rw [pres_err pap_f5.2] at d38
            have S38 := S36.ext O38.g
            have m38 := m36.trans (hid_same (s := sa) (d := d) O38.g)
            replace d38 := dp_mono O38.n d38
            walk_at "rd"
            refine ⟨sz_lit (n := 4), fun p39 hp39 => ?_⟩
            have e39 : Dp K (upd H38 p39 (.tup [.str "paper", .int 1, .int 1, .str "row"])) (.ref p39) (badD "paper" 1) := .tup (SqT.of upd_same) (.cons (.str _) (.cons (.int _) (.cons (.int _) (.cons (.str _) .nil))))
            refine a_eqD (dp_mono (same_new hp39) d38) e39 (bad_shaped wdU) (bad_shaped wdU) ?_
            rw [bad_eqv]
            exact q _ (S38.new hp39) (m38.trans (hid_same (s := sa) (d := d) (same_new hp39)))
        · refine iteF ?_
          walk_at "rd"
          refine ⟨"", false, rfl, ⟨by decide +kernel, fun c hc => by cases hc⟩, fun v34 N34 H34 O34 d34 => ?_⟩
          rw [pres_ok pap_f5.1] at d34
          have S34 := (S17).ext O34.g
          have m34 := (m17).trans (hid_same (s := sa) (d := d) O34.g)
          replace d34 := dp_mono O34.n d34
          walk_at "rd"
          refine ⟨sz_lit (n := 0), fun p35 hp35 => ?_⟩
          refine ⟨v34, .ref p35, .list [], rfl, dp_mono (same_new hp35) d34, .lst (SqL.of upd_same) .nil, .lst _ _ (by decide) (fun _ h => (List.not_mem_nil h).elim), fun H36 s36 => ?_⟩
          have S36 := S34.ext ((same_new (o := .lst []) hp35).trans s36)
          have m36 := m34.trans (hid_same (s := sa) (d := d) ((same_new (o := .lst []) hp35).trans s36))
          walk_at "rd"
          refine iteT ?_
          walk_at "rd"
          refine ⟨"5 a\n", false, rfl, ⟨by decide +kernel, by decide +kernel⟩, fun v38 N38 H38 O38 d38 => ?_⟩
          rw [pres_err pap_f5.2] at d38
          have S38 := S36.ext O38.g
          have m38 := m36.trans (hid_same (s := sa) (d := d) O38.g)
          replace d38 := dp_mono O38.n d38
          walk_at "rd"
          refine ⟨sz_lit (n := 4), fun p39 hp39 => ?_⟩
          have e39 : Dp K (upd H38 p39 (.tup [.str "paper", .int 1, .int 1, .str "row"])) (.ref p39) (badD "paper" 1) := .tup (SqT.of upd_same) (.cons (.str _) (.cons (.int _) (.cons (.int _) (.cons (.str _) .nil))))
          refine a_eqD (dp_mono (same_new hp39) d38) e39 (bad_shaped wdU) (bad_shaped wdU) ?_
          rw [bad_eqv]
          exact q _ (S38.new hp39) (m38.trans (hid_same (s := sa) (d := d) (same_new hp39)))
      · refine iteF ?_
        walk_at "rd"
        refine ⟨"", false, rfl, ⟨by decide +kernel, fun c hc => by cases hc⟩, fun v34 N34 H34 O34 d34 => ?_⟩
        rw [pres_ok pap_f5.1] at d34
        have S34 := (S17).ext O34.g
        have m34 := (m17).trans (hid_same (s := sa) (d := d) O34.g)
        replace d34 := dp_mono O34.n d34
        walk_at "rd"
        refine ⟨sz_lit (n := 0), fun p35 hp35 => ?_⟩
        refine ⟨v34, .ref p35, .list [], rfl, dp_mono (same_new hp35) d34, .lst (SqL.of upd_same) .nil, .lst _ _ (by decide) (fun _ h => (List.not_mem_nil h).elim), fun H36 s36 => ?_⟩
        have S36 := S34.ext ((same_new (o := .lst []) hp35).trans s36)
        have m36 := m34.trans (hid_same (s := sa) (d := d) ((same_new (o := .lst []) hp35).trans s36))
        walk_at "rd"
        refine iteT ?_
        walk_at "rd"
        refine ⟨"5 a\n", false, rfl, ⟨by decide +kernel, by decide +kernel⟩, fun v38 N38 H38 O38 d38 => ?_⟩
        rw [pres_err pap_f5.2] at d38
        have S38 := S36.ext O38.g
        have m38 := m36.trans (hid_same (s := sa) (d := d) O38.g)
        replace d38 := dp_mono O38.n d38
        walk_at "rd"
        refine ⟨sz_lit (n := 4), fun p39 hp39 => ?_⟩
        have e39 : Dp K (upd H38 p39 (.tup [.str "paper", .int 1, .int 1, .str "row"])) (.ref p39) (badD "paper" 1) := .tup (SqT.of upd_same) (.cons (.str _) (.cons (.int _) (.cons (.int _) (.cons (.str _) .nil))))
        refine a_eqD (dp_mono (same_new hp39) d38) e39 (bad_shaped wdU) (bad_shaped wdU) ?_
        rw [bad_eqv]
        exact q _ (S38.new hp39) (m38.trans (hid_same (s := sa) (d := d) (same_new hp39)))
end
end K97


set_option maxRecDepth 100000
set_option maxHeartbeats 4000000
namespace K97
open PySem PySem.Spec PyProof.Rows L2 TL NB
local macro_rules | `(tactic| walk_at "rd") => `(tactic| repeat (first
  | (with_reducible refine x_seq ?_) | (with_reducible refine x_asg ?_) | (with_reducible refine x_gName ?_) | (with_reducible refine x_ret ?_) | (with_reducible refine x_drop ?_) | (with_reducible refine x_ifS ?_)
  | (with_reducible refine x_op ?_) | (with_reducible refine x_c ?_) | ((with_reducible refine' x_var ?k1 ?_); (case k1 => with_unfolding_all rfl)) | (with_reducible refine x_cb ?_) | (with_reducible refine x_call0 ?_) | (with_reducible refine x_cons ?_) | (with_reducible refine x_nil ?_)
  | (with_reducible refine x_test ?_) | (with_reducible refine x_B ?_) | (with_reducible refine x_bl ?_) | (with_reducible refine x_and ?_) | (with_reducible refine x_or ?_) | (with_reducible refine x_not ?_)
  | (with_reducible refine x_andV ?_) | (with_reducible refine x_orV ?_) | (with_reducible refine x_notV ?_) | (with_reducible refine x_if ?_) | (with_reducible refine x_isN ?_) | (with_reducible refine x_notN ?_)
  | (with_reducible refine x_tup ?_) | (with_reducible refine x_lst ?_) | (with_reducible refine x_sl ?_) | (with_reducible refine x_noPart ?_) | (with_reducible refine x_part ?_) | (with_reducible refine x_int ?_)
  | (with_reducible refine x_bm ?_) | (with_reducible refine x_m1 ?_) | (with_reducible refine x_tyS ?_) | (with_reducible refine x_gNil ?_) | (with_reducible refine x_gCons ?_) | (with_reducible refine x_gSub ?_) | (with_reducible refine x_next ?_) | (with_reducible refine x_brk ?_)
  | (with_reducible refine x_slStep ?_) | (with_reducible refine x_lc ?_) | (with_reducible refine x_for ?_) | (with_reducible refine x_iL ?_) | (with_reducible refine x_iR1 ?_) | (with_reducible refine x_iR3 ?_) | (with_reducible refine x_iS ?_) | (with_reducible refine x_ref ?_) | (with_reducible refine x_yes ?_)
  | (with_reducible refine a_addI ?_) | (with_reducible refine x_I0 ?_) | (with_reducible refine a_eq rfl ?_) | (with_reducible refine a_ne rfl ?_) | (with_reducible refine a_inS ?_) | (with_reducible refine a_ninS ?_) | (with_reducible refine x_strS ?_) | (with_reducible refine x_intI ?_) | (with_reducible refine x_iB ?_) | (with_reducible refine x_iT ?_)))

section
variable {P : Program} {w : World} {K : PySem.W.Frag} {mg : Str → Option Value} {base : Heap}
/-! ### what holds of the lines of a view, of a paper -/
theorem words_pos (r : RowT) : 0 < r.words.length := by
  cases r <;> (unfold RowT.words; simp only [List.length_cons]; omega)
theorem flat_pos {α β : Type} {f : α → List β} (h : ∀ x, 0 < (f x).length) : ∀ {l : List α}, l ≠ [] → 0 < (l.flatMap f).length
  | [], g => absurd rfl g
  | x :: l, _ => by
    rw [List.flatMap_cons, List.length_append]
    have := h x
    omega
theorem dc {n : Nat} {d : PyData} {ds : List PyData} (h : De n d) (hs : ∀ e ∈ ds, De n e) : ∀ e ∈ d :: ds, De n e := List.forall_mem_cons.mpr ⟨h, hs⟩
theorem dn {n : Nat} : ∀ e ∈ ([] : List PyData), De n e := fun _ h => (List.not_mem_nil h).elim
theorem dm {α : Type} {f : α → PyData} {n : Nat} {xs : List α} (hl : xs.length ≤ 1000) (h : ∀ x ∈ xs, De n (f x)) : De (n + 1) (.list (xs.map f)) :=
  .lst n _ (by rw [List.length_map]; exact hl) fun d hd => by
    obtain ⟨x, hx, rfl⟩ := List.mem_map.mp hd
    exact h x hx
theorem de_nums {n : Nat} {ns : List Nat} (h : ns.length ≤ 5) : De (n + 2) (numsD ns) := dm (by omega) fun x _ => .int n _
theorem de_fld {n : Nat} {h : Home} : De (n + 2) h.fld := .tup (n + 1) _ (by show 4 ≤ 1000; decide) (dc (.int n _) (dc (.int n _) (dc (.int n _) (dc (.int n _) dn))))
theorem de_home {n : Nat} {h : Home} : De (n + 3) h.dat := .tup (n + 2) _ (by show 2 ≤ 1000; decide) (dc (.int _ _) (dc de_fld dn))
theorem de_newr {n : Nat} {h : NewR} : De (n + 3) h.dat := .tup (n + 2) _ (by show 4 ≤ 1000; decide) (dc (.int _ _) (dc de_fld (dc (.int _ _) (dc (.bl _ _) dn))))
theorem de_seen {n : Nat} {s : Seen} (h : s.Ok) : De (n + 5) s.dat := .tup (n + 4) _ (by show 3 ≤ 1000; decide) (dc (.str _ _) (dc (de_nums h.cells.1) (dc (dm (by have := h.homes.1; omega) fun x _ => de_home) dn)))
theorem de_mov {n : Nat} {m : Nat × Str} : De (n + 2) (movD m) := .tup (n + 1) _ (by show 2 ≤ 1000; decide) (dc (.int _ _) (dc (.str _ _) dn))
theorem de_tel {n : Nat} {m : Str × Str} : De (n + 2) (telD m) := .tup (n + 1) _ (by show 2 ≤ 1000; decide) (dc (.str _ _) (dc (.str _ _) dn))
theorem de_strs {n : Nat} {zs : List Str} (h : zs.length ≤ 5) : De (n + 2) (strsD zs) := dm (by omega) fun x _ => .str n _
theorem de_row {r : RowT} (h : r.Ok) : De 11 r.dat := by
  cases r with
  | made n a b m f => exact .tup 10 _ (by show 6 ≤ 1000; decide) (dc (.str _ _) (dc (.int _ _) (dc (.str _ _) (dc (.str _ _) (dc (.int _ _) (dc (.bl _ _) dn))))))
  | went n a => exact .tup 10 _ (by show 3 ≤ 1000; decide) (dc (.str _ _) (dc (.int _ _) (dc (.str _ _) dn)))
  | heard n => exact .tup 10 _ (by show 2 ≤ 1000; decide) (dc (.str _ _) (dc (.int _ _) dn))
  | gave a ns => exact .tup 10 _ (by show 3 ≤ 1000; decide) (dc (.str _ _) (dc (.str _ _) (dc (de_nums h.2.1) dn)))
  | came a ns hs => exact .tup 10 _ (by show 4 ≤ 1000; decide) (dc (.str _ _) (dc (.str _ _) (dc (de_nums h.2.1.1) (dc (dm (by have := h.2.2.1; omega) fun x _ => de_newr) dn))))
  | pause rooms shown gone called moved sealed told =>
    have ok : PauseOk rooms shown gone called moved sealed told := h
    have ht : De 10 (tolD told) := by
      cases told with
      | none => exact .non 9
      | some ts => exact dm (by have := (ok.told ts rfl).1; omega) fun x _ => de_tel
    exact .tup 10 _ (by show 8 ≤ 1000; decide) (dc (.str _ _) (dc (de_strs ok.rooms.1) (dc (dm (by have := ok.shown.1; omega) fun x hx => de_seen (ok.shown.2 x hx)) (dc (de_nums ok.gone.1) (dc (de_nums ok.called.1)
      (dc (dm (by have := ok.moved.1; omega) fun x _ => de_mov) (dc (de_strs ok.sealed.1) (dc ht dn))))))))
theorem de_view {rows : List RowT} (h : ∀ r ∈ rows, r.Ok) (h6 : rows.length ≤ 6) : De 12 (.list (rows.map RowT.dat)) := dm (by omega) fun r hr => de_row (h r hr)
theorem de_paper {p : Paper} (h : PaperOk p) : De 12 (paperD p) := dm (by have := h.len; omega) fun cs hcs => dm (by have := (h.cs cs hcs).1; omega) fun x _ => de_mov
theorem fx_view {rows : List RowT} (h : ∀ r ∈ rows, r.Ok) (h0 : rows ≠ []) (h6 : rows.length ≤ 6) : Fx true (vL rows) (.list (rows.map RowT.dat)) := by
  have hp : 0 < (vL rows).length := by
    unfold vL vW
    rw [List.length_map]
    exact flat_pos words_pos h0
  have hn : vL rows ≠ [] := fun e => by rw [e] at hp; exact Nat.lt_irrefl _ hp
  refine ⟨hp, ?_, vl_lin h, de_view h h6, res_ok (view_f1 h), fun i hi z hz lz => res_err (view_f2 h hi hz (lin_free lz)), res_err (view_f3 h hn), fun _ => ?_, fun _ z hz => res_err (view_f6 h hz), (fun e => by cases e)⟩
  · unfold vL vW
    rw [List.length_map]
    refine Nat.le_trans (flat_len (b := 40) fun s hs => words_len (h s hs)) ?_
    omega
  · obtain ⟨b, hb, e⟩ := vl_scan h
    exact scan_std e
theorem paper_words {p : Paper} {z : Str} (h : PaperOk p) (hm : z ∈ pL p) (hz : wordsS z = ([("pause" : Str)] : List Str)) : z = "pause" := by
  obtain ⟨ws, hws, rfl⟩ := List.mem_map.mp hm
  rw [words_line (h.tok ws hws)] at hz
  rw [hz]
  decide +kernel
theorem fx_paper {p : Paper} (h : PaperOk p) (h0 : p ≠ []) : Fx false (pL p) (paperD p) := by
  have hp : 0 < (pL p).length := by
    unfold pL paperW
    rw [List.length_map]
    exact flat_pos (fun cs => by unfold coupW; rw [List.length_cons]; omega) h0
  have hn : pL p ≠ [] := fun e => by rw [e] at hp; exact Nat.lt_irrefl _ hp
  refine ⟨hp, ?_, pl_lin h, de_paper h, ?_, fun i hi z hz lz => pres_err (pap_f2 h hi hz (lin_free lz)), pres_err (pap_f3 h hn), (fun e => by cases e), (fun e => by cases e), fun _ z y r e hy => ?_⟩
  · have := h.wlen p.length
    rw [List.take_length] at this
    unfold pL
    rw [List.length_map]
    omega
  · rw [pres_ok (pap_f1 h), pap_dat]
  · have hl : ∀ x ∈ y :: r, Lin 272 x := fun x hx => pl_lin h x (by rw [e]; exact List.mem_cons_of_mem _ hx)
    refine pres_err (pap_f4 (ls := []) (fun x hx => lin_free (hl x hx)) fun q => hy (paper_words h (by rw [e]; simp) q))
end
end K97


set_option maxRecDepth 100000
set_option maxHeartbeats 4000000
namespace K97
open PySem PySem.Spec PyProof.Rows L2 TL NB
local macro_rules | `(tactic| walk_at "rd") => `(tactic| repeat (first
  | (with_reducible refine x_seq ?_) | (with_reducible refine x_asg ?_) | (with_reducible refine x_gName ?_) | (with_reducible refine x_ret ?_) | (with_reducible refine x_drop ?_) | (with_reducible refine x_ifS ?_)
  | (with_reducible refine x_op ?_) | (with_reducible refine x_c ?_) | ((with_reducible refine' x_var ?k1 ?_); (case k1 => with_unfolding_all rfl)) | (with_reducible refine x_cb ?_) | (with_reducible refine x_call0 ?_) | (with_reducible refine x_cons ?_) | (with_reducible refine x_nil ?_)
  | (with_reducible refine x_test ?_) | (with_reducible refine x_B ?_) | (with_reducible refine x_bl ?_) | (with_reducible refine x_and ?_) | (with_reducible refine x_or ?_) | (with_reducible refine x_not ?_)
  | (with_reducible refine x_andV ?_) | (with_reducible refine x_orV ?_) | (with_reducible refine x_notV ?_) | (with_reducible refine x_if ?_) | (with_reducible refine x_isN ?_) | (with_reducible refine x_notN ?_)
  | (with_reducible refine x_tup ?_) | (with_reducible refine x_lst ?_) | (with_reducible refine x_sl ?_) | (with_reducible refine x_noPart ?_) | (with_reducible refine x_part ?_) | (with_reducible refine x_int ?_)
  | (with_reducible refine x_bm ?_) | (with_reducible refine x_m1 ?_) | (with_reducible refine x_tyS ?_) | (with_reducible refine x_gNil ?_) | (with_reducible refine x_gCons ?_) | (with_reducible refine x_gSub ?_) | (with_reducible refine x_next ?_) | (with_reducible refine x_brk ?_)
  | (with_reducible refine x_slStep ?_) | (with_reducible refine x_lc ?_) | (with_reducible refine x_for ?_) | (with_reducible refine x_iL ?_) | (with_reducible refine x_iR1 ?_) | (with_reducible refine x_iR3 ?_) | (with_reducible refine x_iS ?_) | (with_reducible refine x_ref ?_) | (with_reducible refine x_yes ?_)
  | (with_reducible refine a_addI ?_) | (with_reducible refine x_I0 ?_) | (with_reducible refine a_eq rfl ?_) | (with_reducible refine a_ne rfl ?_) | (with_reducible refine a_inS ?_) | (with_reducible refine a_ninS ?_) | (with_reducible refine x_strS ?_) | (with_reducible refine x_intI ?_) | (with_reducible refine x_iB ?_) | (with_reducible refine x_iT ?_)))

section
variable {P : Program} {w : World} {K : PySem.W.Frag} {mg : Str → Option Value} {base : Heap}
/-- a def that lets nothing out, whatever stood before -/
theorem Tx.defA (T : Tx w K mg) {x : Str} {st : Stmt} {N ps : List Str} {k : Nat} {sp : Sp} (i : Nat) (hi : fn[i]? = some (dd x st)) (S : FnScope N ps (defScope st))
    (hb : ∀ (kV doc pm : Value) (an : Option Addr) (cdv ct : Value) (us : List Value), us.length = ps.length → bindArgs (PySem.W.fnOf x x (defArgs st) (defBody st) (defScope st) .none kV doc pm an cdv ct) ⟨us, []⟩ = pure (ps.zip us))
    (len : ∀ vs H Q E, sp vs H Q E → vs.length = ps.length)
    (hbody : ∀ (base : Heap) (f : Addr) (cdv : Value) (A : Around) (outer : List Env) (s : Shared) (H : Hp) (vs : List V) (Q : VK) (E : XK), Room k (A.deeper (envOfC x (defScope st) s.heap.objs.size f cdv)) → sp vs H Q E →
      ∃ t, PSs (cxOf CX0 P w K mg base N x (defScope st) f cdv A outer s H E).nox (defBody st) t ∧ t { nx := fun _ H' => Q .non H', rt := Q } (start N vs) H) :
    ∃ fd, (∀ (s : Shared) (us : List Value), us.length = ps.length → BindsTo s fd ⟨us, []⟩ (ps.zip us)) ∧ ∀ base : Heap, FnOk P w K mg base CX0 (k + 1) (He.ga K x) fd ps sp := by
  obtain ⟨fd, F⟩ := T.fun_ i hi
  refine ⟨fd, fun s us hl => ?_, fun base => F.ok S len fun cdv A outer s H vs Q E => hbody base _ cdv A outer s H vs Q E⟩
  obtain ⟨oc, od, kV, doc, pm, an, cdv, ct, osl, rfl, lk, hcd⟩ := F.ex
  exact .of_eq (hb kV doc pm an cdv ct us hl)
theorem passN {X : Cx} : Passes (L2.CX X.prog X.w) X E0 := fun _ _ _ _ _ _ _ h => by
  obtain ⟨_, _, _, _, _, _, _, _, _, _, _, _, h⟩ := h
  exact h.elim
theorem liv_map (L : List (List Str)) : L.map liV = (L.map lineS).map V.str := by
  rw [List.map_map]
  rfl
theorem own_hid {s d : Addr} {H N H' : Hp} (S : Sta s d H) (O : Own H N [] H') : Same N (hid s d H') := fun b u e => by
  have h0 := O.nf b u e
  unfold hid
  rw [if_neg]
  · exact O.n b u e
  · rintro (rfl | rfl)
    · exact S.s_ne h0 rfl
    · exact S.d_ne h0 rfl
theorem hid_off {s d p : Addr} {H H' : Hp} (S : Sta s d H) (hp : H p = none) : hid s d H' p = H' p := by
  unfold hid
  rw [if_neg]
  rintro (rfl | rfl)
  · exact S.s_ne hp rfl
  · exact S.d_ne hp rfl
abbrev five : List Str := ["same", "told", "seen", "gone", "cell"]
theorem five_nm : ∀ z ∈ five, Nm z := by
  intro z hz
  simp only [five, List.mem_cons, List.not_mem_nil, or_false] at hz
  rcases hz with rfl | rfl | rfl | rfl | rfl <;> (unfold Nm; decide +kernel)
def sp_law (K : PySem.W.Frag) : Sp := fun vs H Q _ => ∃ (a : Addr) (ns : List Int), vs = [.ref a] ∧ SqL K H a (ns.map V.int) ∧ ns.length ≤ 63 ∧ ∀ H', Q (.bl true) H'
theorem sc_law : FnScope ["script", "s", "names", "k", "view", "due", "paper", "kept", "again", "j"] ["script"] (defScope s_law) := ⟨rfl, rfl, rfl, by decide +kernel, rfl, by decide +kernel, by decide +kernel⟩
theorem ok_law (T : Tx w K mg) : ∃ fd, (∀ (s : Shared) (us : List Value), us.length = ["script"].length → BindsTo s fd ⟨us, []⟩ ((["script"] : List Str).zip us)) ∧ ∀ base : Heap, FnOk P w K mg base CX0 14 (He.ga K "law") fd ["script"] (sp_law K) := by
  refine Tx.defA T 38 rfl sc_law (fun _ _ _ _ _ _ us hl => match us, hl with | [_], _ => rfl) (fun vs H Q E h => ?_) (fun base f cdv A outer s H vs Q E hr h => ?_)
  · obtain ⟨a, ns, rfl, hs, hn, q⟩ := h; rfl
  · obtain ⟨a, ns, rfl, hs, hn, q⟩ := h
    have G_law_open := ok_law_open (P := P) (base := base) T
    have G_law_pick := ok_law_pick (P := P) (base := base) T
    have G_law_word := ok_law_word (P := P) (base := base) T
    have G_law_row := ok_law_row (P := P) (base := base) T
    have G_law_copied := ok_law_copied (P := P) (base := base) T 12
    have G_law_holds := ok_law_holds (P := P) (base := base) T
    have G_law_view_lines := ok_law_view_lines (P := P) (base := base) T
    have G_law_number := ok_law_number (P := P) (base := base) T
    have G_law_paper_lines := ok_law_paper_lines (P := P) (base := base) T
    have G_view_from := ok_view_from (P := P) (base := base) T
    have G_view_text := ok_view_text (P := P) (base := base) T
    have G_law_same := ok_law_same (P := P) (base := base) T 12
    have G_paper_text := ok_paper_text (P := P) (base := base) T
    refine ⟨_, (pss_cons (ps_set (i := 1) sc_law.nd rfl (by first | exact Or.inl rfl | exact Or.inr rfl) (pe_callO G_law_open (hr.mono (by decide)) (by rfl) pass0 (pa_cons (pv 0) pa_nil)))
      (pss_cons (ps_set (i := 2) sc_law.nd rfl (by first | exact Or.inl rfl | exact Or.inr rfl) (pe_lst pa_nil))
      (pss_cons (ps_for PassesOwn.never rfl (pi_range1 (by rfl) T.f_range (pa_cons (pe_op op_addG pe_int (pe_callO G_law_pick (hr.mono (by decide)) (by rfl) pass0 (pa_cons (pv 1) (pa_cons pe_int pa_nil)))) pa_nil)) (pg_name (i := 3) sc_law.nd rfl (by first | exact Or.inl rfl | exact Or.inr rfl))
        (pss_one (ps_expr (pe_callO G_law_word (hr.mono (by decide)) (by rfl) pass0 (pa_cons (pv 1) (pa_cons (pv 2) pa_nil))))))
      (pss_cons (ps_set (i := 2) sc_law.nd rfl (by first | exact Or.inl rfl | exact Or.inr rfl) (pe_op op_addG (pv 2) (pe_lst (pa_cons (pe_ix ix_seq (pe_lst (pa_cons pe_str (pa_cons pe_str (pa_cons pe_str (pa_cons pe_str (pa_cons pe_str pa_nil)))))) (pe_callO G_law_pick (hr.mono (by decide)) (by rfl) pass0 (pa_cons (pv 1) (pa_cons pe_int pa_nil))) (fun _ _ => rfl)) pa_nil))))
      (pss_cons (ps_setLc (i := 4) (own := [("k", 3)]) rfl sc_law.nd rfl rfl (sw_true rfl rfl rfl (by decide +kernel)) (pi_range1 (by rfl) T.f_range (pa_cons (pe_op op_addG pe_int (pe_callO G_law_pick (hr.mono (by decide)) (by rfl) pass0 (pa_cons (pv 1) (pa_cons pe_int pa_nil)))) pa_nil)) (blkOk_by (own := [("k", 3)]) (N := ["script", "s", "names", "k", "view", "due", "paper", "kept", "again", "j"]) (sc := (defScope s_law)) (by decide +kernel)) (fun _ _ _ _ _ => (pg_name (i := 3) sc_law.nd rfl (by first | exact Or.inl rfl | exact Or.inr rfl))) (fun _ _ _ _ _ => pts_nil) (fun _ _ _ _ _ => (pe_callO G_law_row (hr.mono (by decide)) (by rfl) pass0 (pa_cons (pv 1) (pa_cons (pv 2) pa_nil)))))
      (pss_cons (ps_set (i := 5) sc_law.nd rfl (by first | exact Or.inl rfl | exact Or.inr rfl) (pe_callO G_law_copied (hr.mono (by decide)) (by rfl) pass0 (pa_cons (pv 4) pa_nil)))
      (pss_cons (ps_if (pt_not (pt_val (pe_callO G_law_holds (hr.mono (by decide)) (by rfl) pass0 (pa_cons (pv 1) (pa_cons (pe_callO G_law_view_lines (hr.mono (by decide)) (by rfl) pass0 (pa_cons (pv 4) pa_nil)) (pa_cons (pv 4) (pa_cons pe_bl pa_nil)))))))
        (pss_one (ps_ret pe_bl))
        pss_nil)
      (pss_cons (ps_set (i := 6) sc_law.nd rfl (by first | exact Or.inl rfl | exact Or.inr rfl) (pe_lst pa_nil))
      (pss_cons (ps_for PassesOwn.never rfl (pi_range1 (by rfl) T.f_range (pa_cons (pe_op op_addG pe_int (pe_callO G_law_pick (hr.mono (by decide)) (by rfl) pass0 (pa_cons (pv 1) (pa_cons pe_int pa_nil)))) pa_nil)) (pg_name (i := 3) sc_law.nd rfl (by first | exact Or.inl rfl | exact Or.inr rfl))
        (pss_one (ps_expr (pe_bm PySem.F.plainAttrs_list PySem.F.slot_list_append PySem.F.type_list_append mt_append (pv 6) (pa_cons (pe_lc (own := [("j", 9)]) rfl sc_law.nd (pi_range1 (by rfl) T.f_range (pa_cons (pe_callO G_law_pick (hr.mono (by decide)) (by rfl) pass0 (pa_cons (pv 1) (pa_cons pe_int pa_nil))) pa_nil)) (blkOk_by (own := [("j", 9)]) (N := ["script", "s", "names", "k", "view", "due", "paper", "kept", "again", "j"]) (sc := (defScope s_law)) (by decide +kernel)) (fun _ _ _ _ _ => (pg_name (i := 9) sc_law.nd rfl (by first | exact Or.inl rfl | exact Or.inr rfl))) (fun _ _ _ _ _ => pts_nil) (fun _ _ _ _ _ => (pe_tup (pa_cons (pe_callO G_law_number (hr.mono (by decide)) (by rfl) pass0 (pa_cons (pv 1) pa_nil)) (pa_cons (pe_ix ix_seqB (pv 2) (pe_callO G_law_pick (hr.mono (by decide)) (by rfl) pass0 (pa_cons (pv 1) (pa_cons (pe_callB (call_lenGB) (by rfl) T.f_len (by decide +kernel) (pa_cons (pv 2) pa_nil)) pa_nil))) (fun _ _ => rfl)) pa_nil))))) pa_nil)))))
      (pss_cons (ps_if (pt_not (pt_val (pe_callO G_law_holds (hr.mono (by decide)) (by rfl) pass0 (pa_cons (pv 1) (pa_cons (pe_callO G_law_paper_lines (hr.mono (by decide)) (by rfl) pass0 (pa_cons (pv 6) pa_nil)) (pa_cons (pv 6) (pa_cons pe_bl pa_nil)))))))
        (pss_one (ps_ret pe_bl))
        pss_nil)
      (pss_cons (ps_set (i := 7) sc_law.nd rfl (by first | exact Or.inl rfl | exact Or.inr rfl) (pe_callO G_view_from (hr.mono (by decide)) (by rfl) passN (pa_cons (pe_callO G_view_text (hr.mono (by decide)) (by rfl) pass0 (pa_cons (pv 4) pa_nil)) pa_nil)))
      (pss_cons (ps_set (i := 8) sc_law.nd rfl (by first | exact Or.inl rfl | exact Or.inr rfl) (pe_callO G_view_from (hr.mono (by decide)) (by rfl) passN (pa_cons (pe_callO G_view_text (hr.mono (by decide)) (by rfl) pass0 (pa_cons (pv 4) pa_nil)) pa_nil)))
      (pss_cons (ps_expr (pe_bm PySem.F.plainAttrs_list PySem.F.slot_list_append PySem.F.type_list_append mt_append (pv 7) (pa_cons (pe_tup (pa_cons pe_str (pa_cons pe_int pa_nil))) pa_nil)))
      (pss_one (ps_ret (pe_and (pe_callO G_law_same (hr.mono (by decide)) (by rfl) pass0 (pa_cons (pv 8) (pa_cons (pv 5) pa_nil))) (pe_and (pe_callO G_law_same (hr.mono (by decide)) (by rfl) pass0 (pa_cons (pv 4) (pa_cons (pv 5) pa_nil))) (pe_and (pe_callO G_law_same (hr.mono (by decide)) (by rfl) pass0 (pa_cons (pe_callO G_view_text (hr.mono (by decide)) (by rfl) pass0 (pa_cons (pe_lst pa_nil) pa_nil)) (pa_cons pe_str pa_nil))) (pe_one (pe_callO G_law_same (hr.mono (by decide)) (by rfl) pass0 (pa_cons (pe_callO G_paper_text (hr.mono (by decide)) (by rfl) pass0 (pa_cons (pe_lst (pa_cons (pe_lst pa_nil) pa_nil)) pa_nil)) (pa_cons pe_str pa_nil)))))))))))))))))))))), ?_⟩
    walk_at "rd"
    refine ⟨a, ns, rfl, hs, hn, fun sa d H1 S1 m1 => ?_⟩
    walk_at "rd"
    refine ⟨sz_lit (n := 0), fun nm hnm => ?_⟩
    have q2 : hid sa d (upd H1 nm (.lst [])) nm = some (.lst []) := by rw [hid_new S1 hnm, upd_same]
    have S2 := S1.new (o := .lst []) hnm
    generalize upd H1 nm (.lst []) = H2 at q2 S2 ⊢
    walk_at "rd"
    refine ⟨sa, d, 5, rfl, S2, ⟨by decide, by decide⟩, fun r3 H3 h30 h35 S3 e3 => ?_⟩
    rw [← e3] at q2
    walk_at "rd"
    refine x_r1 (by omega) (by omega) ?_
    refine forR (fun i σ H' => (∃ x, σ = [some (.ref a), some (.ref sa), some (.ref nm), x, none, none, none, none, none, none]) ∧ Sta sa d H' ∧ ∃ ws : List Str, ws.length = i ∧ (∀ z ∈ ws, Nm z) ∧ hid sa d H' nm = some (.lst (ws.map V.str)))
      ⟨⟨_, rfl⟩, S3, [], rfl, fun _ h => (List.not_mem_nil h).elim, q2⟩ ?_ ?_
    · rintro i σ H4 hi ⟨⟨x, rfl⟩, S4, ws, hwl, hwn, hw⟩
      walk_at "rd"
      refine ⟨sa, d, nm, ws, rfl, S4, hw, by omega, fun z H5 hz S5 k5 hw5 => ?_⟩
      refine ⟨⟨_, rfl⟩, S5, ws ++ [z], by rw [List.length_append, hwl]; rfl, fun y hy => ?_, hw5⟩
      rcases List.mem_append.mp hy with hy | hy
      · exact hwn y hy
      · rw [List.mem_singleton.mp hy]; exact hz
    · rintro σ H4 ⟨⟨x, rfl⟩, S4, ws, hwl, hwn, hw⟩
      walk_at "rd"
      refine ⟨sz_lit (n := 5), fun p5 hp5 => ?_⟩
      have q5 : hid sa d (upd H4 p5 (.lst (five.map V.str))) p5 = some (.lst (five.map V.str)) := by rw [hid_new S4 hp5, upd_same]
      have S5 := S4.new (o := .lst (five.map V.str)) hp5
      replace hw := hid_same (s := sa) (d := d) (same_new (o := .lst (five.map V.str)) hp5) _ _ hw
      rw [show ([V.str "same", V.str "told", V.str "seen", V.str "gone", V.str "cell"] : List V) = five.map V.str from rfl]
      generalize upd H4 p5 (.lst (five.map V.str)) = H5 at q5 S5 hw ⊢
      walk_at "rd"
      refine ⟨sa, d, 5, rfl, S5, ⟨by decide, by decide⟩, fun r6 H6 h60 h65 S6 e6 => ?_⟩
      rw [← e6] at q5 hw
      obtain ⟨z6, hz6, ez6⟩ := pick_name (ws := five) h60 h65
      refine a_ixL (SqL.of (hid_le _ _ q5)) ez6 ?_
      walk_at "rd"
      refine ⟨sz_lit (n := 1), fun p7 hp7 => ?_⟩
      have q7 : hid sa d (upd H6 p7 (.lst [.str z6])) p7 = some (.lst [.str z6]) := by rw [hid_new S6 hp7, upd_same]
      have S7 := S6.new (o := .lst [.str z6]) hp7
      replace hw := hid_same (s := sa) (d := d) (same_new (o := .lst [.str z6]) hp7) _ _ hw
      generalize upd H6 p7 (.lst [.str z6]) = H7 at q7 S7 hw ⊢
      refine a_addL (hid_le _ _ hw) (hid_le _ _ q7) (sz_le (by rw [List.length_map]; show _ + 1 ≤ _; omega)) fun nm2 hnm2 => ?_
      rw [show ws.map V.str ++ [V.str z6] = (ws ++ [z6]).map V.str from by rw [List.map_append]; rfl]
      have okW : NmsOk (ws ++ [z6]) := ⟨by rw [List.length_append]; show 0 < _ + 1; omega, by rw [List.length_append]; show _ + 1 ≤ _; omega, fun y hy => by
        rcases List.mem_append.mp hy with hy | hy
        · exact hwn y hy
        · rw [List.mem_singleton.mp hy]; exact five_nm _ hz6⟩
      generalize ws ++ [z6] = W at okW ⊢
      have hW : hid sa d (upd H7 nm2 (.lst (W.map V.str))) nm2 = some (.lst (W.map V.str)) := by rw [hid_new S7 hnm2, upd_same]
      have S8 := S7.new (o := .lst (W.map V.str)) hnm2
      generalize upd H7 nm2 (.lst (W.map V.str)) = H8 at hW S8 ⊢
      walk_at "rd"
      refine ⟨sa, d, 6, rfl, S8, ⟨by decide, by decide⟩, fun r9 H9 h90 h96 S9 e9 => ?_⟩
      rw [← e9] at hW
      walk_at "rd"
      refine x_r1 (by omega) (by omega) ?_
      refine lc_drawR (K := K) RowT.dat RowT.Ok (by omega) S9 (fun i H2 QQ hi S2 sm2 qq => ?_) (fun rows l N H10 hrl hok S10 O10 da => ?_)
      · walk_at "rd"
        refine ⟨rfl, ?_⟩
        walk_at "rd"
        exact ⟨sa, d, nm2, W, rfl, S2, SqL.of (sm2 _ _ hW), okW, qq⟩
      replace hW := O10.g _ _ hW
      replace da := dpL_mono O10.n da
      clear O10
      have hr6 : rows.length ≤ 6 := by omega
      have hr0 : rows ≠ [] := fun e => by rw [e] at hrl; simp only [List.length_nil] at hrl; omega
      walk_at "rd"
      refine ⟨.ref l, .list (rows.map RowT.dat), rfl, dp_mono hid_le da.dp, de_view hok hr6, fun y N11 H11 O11 d11 => ?_⟩
      have S11 := S10.ext O11.g
      replace d11 := dp_mono (own_hid S10 O11) d11
      replace hW := hid_same O11.g _ _ hW
      replace da := dpL_mono (hid_same O11.g) da
      clear O11
      walk_at "rd"
      refine ⟨l, rows, rfl, dpL_mono hid_le da, by omega, hok, fun L H12 hL0 s12 hL => ?_⟩
      rw [liv_map] at hL
      rw [← hid_off (H' := H12) S11 hL0] at hL
      have S12 := S11.ext s12
      replace hW := hid_same s12 _ _ hW
      replace da := dpL_mono (hid_same s12) da
      replace d11 := dp_mono (hid_same s12) d11
      walk_at "rd"
      refine ⟨sa, d, L, .ref l, true, vL rows, .list (rows.map RowT.dat), rfl, S12, hL, da.dp, fx_view hok hr0 hr6, .inl ⟨rfl, rows, rfl, hr6, hok, rfl⟩, fun H13 S13 m13 => ?_⟩
      replace hW := m13 _ _ hW
      replace da := dpL_mono m13 da
      replace d11 := dp_mono m13 d11
      walk_at "rd"
      refine iteF ?_
      walk_at "rd"
      refine ⟨sz_lit (n := 0), fun PL hPL => ?_⟩
      have OP := (Own.start (hid sa d H13)).hidlist (o := .lst []) S13 hPL
      have S14 := S13.new (o := .lst []) hPL
      generalize upd H13 PL (.lst []) = H14 at OP S14 ⊢
      walk_at "rd"
      refine ⟨sa, d, 4, rfl, S14, ⟨by decide, by decide⟩, fun r15 H15 h150 h154 S15 e15 => ?_⟩
      rw [← e15] at OP
      walk_at "rd"
      refine x_r1 (by omega) (by omega) ?_
      have hWl : (W.length : Int) < 1073741824 := by have := okW.le; omega
      have hWp : (0 : Int) < W.length := by have := okW.pos; omega
      refine forR (fun i σ H' => (∃ x3, σ = [some (.ref a), some (.ref sa), some (.ref nm2), x3, some (.ref l), some y, some (.ref PL), none, none, none]) ∧ ∃ (N : Hp) (acc : List V) (p : Paper), p.length = i ∧ (∀ cs ∈ p, cs.length ≤ 5 ∧ ∀ m ∈ cs, Nb m.1 ∧ Nm m.2) ∧ Sta sa d H' ∧ Own (hid sa d H13) N [(PL, .lst acc)] (hid sa d H') ∧ DpLAll K N acc (p.map coupD))
        ⟨⟨_, rfl⟩, _, [], [], rfl, fun _ h => (List.not_mem_nil h).elim, S15, OP, .nil⟩ ?_ ?_
      · rintro i σ H16 hi ⟨⟨x3, rfl⟩, N16, acc, p, hpl, hpok, S16, O16, dp16⟩
        walk_at "rd"
        refine x_tyL (SqL.of (hid_le _ _ (O16.get 0))) ?_
        walk_at "rd"
        refine ⟨sa, d, 4, rfl, S16, ⟨by decide, by decide⟩, fun r17 H17 h170 h174 S17 e17 => ?_⟩
        rw [← e17] at O16
        walk_at "rd"
        refine x_r1 (by omega) (by omega) ?_
        have hW17 := O16.g _ _ hW
        refine lc_drawR (K := K) movD (fun m => Nb m.1 ∧ Nm m.2) (by omega) S17 (fun j H18 QQ hj S18 sm18 qq => ?_) (fun cs lc N18 H18 hcl hcok S18 O18 da18 => ?_)
        · walk_at "rd"
          refine ⟨rfl, ?_⟩
          walk_at "rd"
          refine ⟨sa, d, rfl, S18, fun n19 H19 hn19 S19 sm19 => ?_⟩
          have hW19 := sm19 _ _ (sm18 _ _ hW17)
          walk_at "rd"
          refine a_lenL (SqL.of (hid_le _ _ hW19)) ?_
          walk_at "rd"
          rw [List.length_map]
          refine ⟨sa, d, W.length, rfl, S19, ⟨hWp, hWl⟩, fun r20 H20 h200 h204 S20 e20 => ?_⟩
          rw [← e20] at sm19 hW19
          obtain ⟨z, hz, ez⟩ := pick_name h200 h204
          refine a_ixL (SqL.of (hid_le _ _ hW19)) ez ?_
          walk_at "rd"
          refine ⟨sz_lit (n := 2), fun p21 hp21 => ?_⟩
          exact qq (n19, z) _ _ _ ⟨hn19, okW.nm z hz⟩ (S20.new hp21) (((Own.start _).ext sm19).hidnew S20 hp21) (.tup upd_same (.cons (.int _) (.cons (.str _) .nil)))
        · have O19 := O16.call1 O18
          have d19 := dpL_mono (O16.uni_new O18.nf) da18
          replace dp16 := dpLAll_mono (uni_l (B := N18)) dp16
          have hla := dpAll_len dp16.dp
          rw [List.length_map] at hla
          walk_at "rd"
          have hPL19 := O19.get 0
          refine x_append (hid_le _ _ hPL19) (sz_lt (by omega)) ?_
          refine ⟨⟨_, rfl⟩, uni N16 N18, acc ++ [.ref lc], p ++ [cs], by rw [List.length_append, hpl]; rfl, fun c hc => ?_, S18.put hPL19, ?_, ?_⟩
          · rcases List.mem_append.mp hc with hc | hc
            · exact hpok c hc
            · rw [List.mem_singleton.mp hc]
              exact ⟨by omega, hcok⟩
          · rw [hid_at hPL19]
            exact O19.put 0
          · rw [List.map_append]
            exact dpL_app dp16 (.cons d19 .nil)
      · rintro σ H16 ⟨⟨x3, rfl⟩, N16, acc, p, hpl, hpok, S16, O16, dp16⟩
        have okp : PaperOk p := ⟨by omega, hpok⟩
        have hp0 : p ≠ [] := fun e => by rw [e] at hpl; simp only [List.length_nil] at hpl; omega
        have fp := fix_mono O16
        have O17 := O16.fix
        replace dp16 : DpL K (hid sa d H16) (.ref PL) (paperD p) := .lst (O16.get 0) (dpLAll_mono O16.n dp16)
        clear OP
        replace hW := O16.g _ _ hW
        replace da := dpL_mono O16.g da
        replace d11 := dp_mono O16.g d11
        walk_at "rd"
        refine ⟨PL, p, rfl, dp_mono hid_le dp16.dp, okp, fun L2 H17 hL2n s17 hL2 => ?_⟩
        rw [← hid_off (H' := H17) S16 hL2n] at hL2
        have S17 := S16.ext s17
        walk_at "rd"
        refine ⟨sa, d, L2, .ref PL, false, pL p, paperD p, rfl, S17, hL2, dp_mono (hid_same s17) dp16.dp, fx_paper okp hp0, .inr ⟨rfl, p, rfl, okp, rfl⟩, fun H18 S18 m18 => ?_⟩
        replace da := (dpL_mono (hid_le (s := sa) (d := d)) (dpL_mono m18 (dpL_mono (hid_same s17) da))).dp
        replace d11 := dp_mono (hid_le (s := sa) (d := d)) (dp_mono m18 (dp_mono (hid_same s17) d11))
        walk_at "rd"
        refine iteF ?_
        have tokT : Tok90 (textS (vL rows)) := text_tok (fun z hz => (vl_lin hok z hz).mono (by decide)) (by have := (fx_view hok hr0 hr6).len; omega)
        walk_at "rd"
        refine ⟨l, rows, rfl, da, by omega, hok, fun H19 s19 => ?_⟩
        rw [cat_text, show textS ((rows.flatMap RowT.words).map lineS) = textS (vL rows) from rfl]
        walk_at "rd"
        refine ⟨textS (vL rows), rfl, tokT, fun k hk => (by rw [view_f1 hok] at hk; cases hk), fun ds l7 vs7 N20 H20 hds O20 hl7 d7 => ?_⟩
        replace da := dp_mono s19 da
        replace d11 := dp_mono s19 d11
        have l7n := O20.nf _ _ hl7
        replace hl7 := O20.n _ _ hl7
        have hv7 : vs7.length ≤ 6 := by
          rw [view_f1 hok] at hds
          have e := Except.ok.inj hds
          have := dpAll_len d7
          rw [← e, List.length_map] at this
          omega
        clear hds d7
        walk_at "rd"
        refine ⟨l, rows, rfl, dp_mono O20.g da, by omega, hok, fun H21 s21 => ?_⟩
        rw [cat_text, show textS ((rows.flatMap RowT.words).map lineS) = textS (vL rows) from rfl]
        walk_at "rd"
        refine ⟨textS (vL rows), rfl, tokT, fun k hk => (by rw [view_f1 hok] at hk; cases hk), fun ds l8 vs8 N22 H22 hds O22 hl8 d8 => ?_⟩
        rw [view_f1 hok] at hds
        cases hds
        have s22 : Same H19 H22 := (O20.g.trans s21).trans O22.g
        have l7N : N22 l7 = none := by
          cases e : N22 l7 with
          | none => rfl
          | some o =>
            have := O22.nf _ _ e
            rw [s21 _ _ hl7] at this
            cases this
        replace hl7 := O22.g _ _ (s21 _ _ hl7)
        walk_at "rd"
        refine x_tyL (SqL.of hl7) ?_
        walk_at "rd"
        refine ⟨sz_lit (n := 2), fun p23 hp23 => ?_⟩
        have s23 := same_new (o := .tup [.str "heard", .int 1]) hp23
        walk_at "rd"
        refine x_append (s23 _ _ hl7) (sz_lt (by omega)) ?_
        have k1 : ∀ {A : Hp}, Same A H22 → A l7 = none → Same A (upd (upd H22 p23 (.tup [.str "heard", .int 1])) l7 (.lst (vs7 ++ [.ref p23]))) := fun {A} sA nA b o e => by
          rw [upd_ne (ne_of_none e nA)]
          exact s23 _ _ (sA _ _ e)
        have dA : Dp K (upd (upd H22 p23 (.tup [.str "heard", .int 1])) l7 (.lst (vs7 ++ [.ref p23]))) (.ref l8) (.list (rows.map RowT.dat)) := dp_mono (k1 O22.n l7N) (.lst (SqL.of hl8) d8)
        have kH := k1 s22 l7n
        replace da := dp_mono kH da
        replace d11 := dp_mono kH d11
        generalize upd (upd H22 p23 (.tup [.str "heard", .int 1])) l7 (.lst (vs7 ++ [.ref p23])) = HF at da d11 dA ⊢
        have dee := de_view hok hr6
        walk_at "rd"
        refine ⟨.ref l8, y, _, rfl, dA, d11, dee, fun H24 s24 => ?_⟩
        walk_at "rd"
        refine iteT ?_
        walk_at "rd"
        refine ⟨.ref l, y, _, rfl, dp_mono s24 da, dp_mono s24 d11, dee, fun H25 s25 => ?_⟩
        walk_at "rd"
        refine iteT ?_
        walk_at "rd"
        refine ⟨sz_lit (n := 0), fun p26 hp26 => ?_⟩
        refine ⟨p26, [], rfl, .lst (SqL.of upd_same) .nil, by decide, (fun _ h => (List.not_mem_nil h).elim), fun H26 s26 => ?_⟩
        rw [show catS (([] : List RowT).flatMap RowT.words) = ("" : Str) from by decide +kernel]
        walk_at "rd"
        refine ⟨.str "", .str "", .str "", rfl, .str _, .str _, .str 11 _, fun H27 s27 => ?_⟩
        walk_at "rd"
        refine iteT ?_
        walk_at "rd"
        refine ⟨sz_lit (n := 0), fun p28 hp28 => ?_⟩
        refine ⟨sz_lit (n := 1), fun p29 hp29 => ?_⟩
        refine ⟨p29, [[]], rfl, .lst (SqL.of upd_same) (.cons (.lst (SqL.of (same_new hp29 _ _ upd_same)) .nil) .nil), ⟨by decide, fun cs hcs => ?_⟩, fun H30 s30 => ?_⟩
        · rw [List.mem_singleton.mp hcs]
          exact ⟨by decide, fun _ h => (List.not_mem_nil h).elim⟩
        rw [show catS (paperW [[]]) = ("pause\n" : Str) from by decide +kernel]
        walk_at "rd"
        exact ⟨.str "pause\n", .str "pause\n", .str "pause\n", rfl, .str _, .str _, .str 11 _, fun H31 s31 => q H31⟩
end
end K97


set_option maxRecDepth 100000
set_option maxHeartbeats 0
namespace K97
open PySem PySem.Spec PyProof.Rows L2
theorem facts {P : Program} {w : World} {K : PySem.W.Frag} {h : Heap} {mg : Str → Option Value} {f : Addr} (X : K.In h) (G : h.Ns mainGlobals mg) (hfa : mg ("law" : Str) = some (.ref f)) (c : NB.SaysY fa fn tbs exF w K) :
    ∃ fd : FuncData, (∀ (s : Shared) (v : Value), BindsTo s fd ⟨[v], []⟩ [("script", v)]) ∧ ∀ base : Heap, K.In base → base.Ns mainGlobals mg → FnOk P w K mg base CX0 14 f fd ["script"] (sp_law K) := by
  have T : Tx w K mg := ⟨c.t, c.ex, h, X, G⟩
  have e := hfa.symm.trans T.g_law
  cases e
  obtain ⟨fd, b, F⟩ := ok_law (P := P) T
  exact ⟨fd, fun s v => b s [v] rfl, fun base _ _ => F base⟩
end K97
open PySem PySem.W PySem.Calls PyProof.Rows
theorem PySem.Challenge.cw_nowhereleft_k97_texts_of_views_and_paper_holds : PySem.Challenge.rw_nowhereleft_k97_texts_of_views_and_paper.Holds := by
  w_on; o_law
  refine HandSHeadRun.head_any (r := OpenLaw.row PySem.Challenge.rw_nowhereleft_k97_texts_of_views_and_paper) (q := view (OpenLaw.row PySem.Challenge.rw_nowhereleft_k97_texts_of_views_and_paper).prog [51]) (H := K97.hk) (ob := K97.ob) (M := 4000) (loose := K97.loose) (d := HandSHeadRun.topDef (OpenLaw.row PySem.Challenge.rw_nowhereleft_k97_texts_of_views_and_paper).prog 51) (kwd := []) K97.ob_eq
    (by kernel_rfl) (fun s => by kernel_rfl) K97.run (by kernel_rfl) (by kernel_rfl) (by kernel_rfl) (by rfl) (by first | assumption | decide +kernel) (by decide +kernel) ⟨rfl, rfl, rfl, rfl, rfl, by decide +kernel⟩ ?hw ?hc
  case hw => w_witness2
  case hc =>
    refine L2.walk_ofE (l := PySem.Challenge.rw_nowhereleft_k97_texts_of_views_and_paper) (n := 63) (k := 14) (x := "script") (CX := L2.CX0) rfl (by decide) (by kernel_rfl) ⟨rfl, by decide, by decide⟩ ?F (fun _ _ _ _ z => z)
    intro w mg fa h Y G hmg0
    obtain ⟨K, KX, c⟩ := Y
    have hmg : mg ("law" : PySem.Str) = some (.ref fa) := by
      have e : (HandSHeadRun.topDef (OpenLaw.row PySem.Challenge.rw_nowhereleft_k97_texts_of_views_and_paper).prog 51).name = ("law" : PySem.Str) := by kernel_rfl
      rw [← e]
      exact hmg0
    obtain ⟨fd, hb, hF⟩ := K97.facts (P := (PySem.Challenge.rw_nowhereleft_k97_texts_of_views_and_paper).prog) (w := w) KX G hmg c
    exact ⟨K, fd, K97.sp_law K, KX, hb, fun H a ns hl _ hS => ⟨a, ns, rfl, hS, hl, fun _ => rfl⟩, hF⟩

