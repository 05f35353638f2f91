import PyProof.Rows.All
import PySem.Challenge.RW_twowaysigns_k63_alike_derived_whole
import Wide.All
import OpenK.AllK
import Wide.FinOn
import HandS.ForMost
import HandS.TupAny
import HandS.IsInst
import HandS.Star
import HandS.Exc
import HandS.Wide
import HandS.Walk
import HandS.Defaults
import HandS.HeadHook1
import HandS.Dict
import KE.KUnpackStar
import KE.GoesEnum
import KE.LtSeq
import PyProof.ReprReads
import HandS.List
import Lean
import HandS.Head0
import HandS.Head1
import HandS.Head2
import HandS.HeadEnd
import HandS.HeadHook2
import PyProof.ReprRoads
import PyProof.CallFns
import HandS.MakeKwOnly
import HandS.DeepEq
set_option Elab.async false
set_option linter.all false
set_option maxRecDepth 100000
set_option maxHeartbeats 4000000
/-! Readings by data: a def's proof speaks of PyData alone. -/
namespace Tw
open PySem PySem.Spec L2
open PyProof.Rows hiding St

/-! ### heaps: a part put aside -/
def Hm (H : Hp) (W : List Addr) : Hp := fun a => if a ∈ W then none else H a
theorem hm_out {H : Hp} {W : List Addr} {a : Addr} (h : a ∉ W) : Hm H W a = H a := if_neg h
theorem hm_get {H : Hp} {W : List Addr} {a : Addr} {o : HO} (h : Hm H W a = some o) : a ∉ W ∧ H a = some o := by
  unfold Hm at h
  split at h
  · cases h
  · exact ⟨by assumption, h⟩
theorem hm_mk {H : Hp} {W : List Addr} {a : Addr} {o : HO} (h : a ∉ W) (e : H a = some o) : Hm H W a = some o := by rw [hm_out h]; exact e
theorem same_hm {H H' : Hp} {W W' : List Addr} (e : Same H H') (s : ∀ a ∈ W', a ∈ W) : Same (Hm H W) (Hm H' W') := fun a o h => by
  obtain ⟨h1, h2⟩ := hm_get h
  exact hm_mk (fun z => h1 (s a z)) (e a o h2)
theorem same_out {H : Hp} {W : List Addr} : Same (Hm H W) H := fun a o h => (hm_get h).2
theorem same_new {H : Hp} {p : Addr} {o : HO} (h : H p = none) : Same H (upd H p o) := fun b u q => by rw [upd_ne (ne_of_none q h)]; exact q
theorem hm_upd {H : Hp} {W : List Addr} {p : Addr} {o : HO} (h : p ∈ W) : Hm (upd H p o) W = Hm H W := by
  funext a
  unfold Hm
  split
  · rfl
  · next n => exact upd_ne (fun z => n (z ▸ h))
theorem hm_cons {H : Hp} {W : List Addr} {p : Addr} {o : HO} (h : H p = none) : Hm (upd H p o) (p :: W) = Hm H W := by
  funext a
  unfold Hm
  by_cases e : a = p
  · subst e
    rw [if_pos List.mem_cons_self, h]
    split <;> rfl
  · have z : (a ∈ p :: W) ↔ a ∈ W := by simp [e]
    by_cases m : a ∈ W
    · rw [if_pos m, if_pos (z.mpr m)]
    · rw [if_neg m, if_neg (fun q => m (z.mp q)), upd_ne e]

/-! ### data in the heap -/
mutual
inductive Da (H : Hp) : V → PyData → Prop
  | non : Da H .non .none
  | bl (b : Bool) : Da H (.bl b) (.bool b)
  | int (i : Int) : Da H (.int i) (.int i)
  | str (x : Str) : Da H (.str x) (.str x)
  | lst {a : Addr} {xs : List V} {ds : List PyData} : H a = some (.lst xs) → DaAll H xs ds → Da H (.ref a) (.list ds)
  | tup {a : Addr} {xs : List V} {ds : List PyData} : H a = some (.tup xs) → DaAll H xs ds → Da H (.ref a) (.tuple ds)
inductive DaAll (H : Hp) : List V → List PyData → Prop
  | nil : DaAll H [] []
  | cons {v : V} {vs : List V} {d : PyData} {ds : List PyData} : Da H v d → DaAll H vs ds → DaAll H (v :: vs) (d :: ds)
end
section
variable {H H' : Hp}
mutual
theorem da_mono (e : Same H H') : ∀ {v : V} {d : PyData}, Da H v d → Da H' v d
  | _, _, .non => .non
  | _, _, .bl b => .bl b
  | _, _, .int i => .int i
  | _, _, .str x => .str x
  | _, _, .lst h a => .lst (e _ _ h) (daa_mono e a)
  | _, _, .tup h a => .tup (e _ _ h) (daa_mono e a)
theorem daa_mono (e : Same H H') : ∀ {vs : List V} {ds : List PyData}, DaAll H vs ds → DaAll H' vs ds
  | _, _, .nil => .nil
  | _, _, .cons h t => .cons (da_mono e h) (daa_mono e t)
end
theorem daa_len : ∀ {vs : List V} {ds : List PyData}, DaAll H vs ds → vs.length = ds.length
  | _, _, .nil => rfl
  | _, _, .cons _ t => congrArg (· + 1) (daa_len t)
theorem daa_get : ∀ {vs : List V} {ds : List PyData} {i : Nat} {d : PyData}, DaAll H vs ds → ds[i]? = some d → ∃ v, vs[i]? = some v ∧ Da H v d
  | _, _, _, _, .nil, h => by simp at h
  | _, _, 0, _, .cons h _, e => by
    simp at e
    subst e
    exact ⟨_, rfl, h⟩
  | _, _, i + 1, d, .cons _ t, e => by
    obtain ⟨v, h1, h2⟩ := daa_get (i := i) (d := d) t (by simpa using e)
    exact ⟨v, by simpa using h1, h2⟩
theorem daa_get' : ∀ {vs : List V} {ds : List PyData} {i : Nat} {v : V}, DaAll H vs ds → vs[i]? = some v → ∃ d, ds[i]? = some d ∧ Da H v d
  | _, _, _, _, .nil, h => by simp at h
  | _, _, 0, _, .cons h _, e => by
    simp at e
    subst e
    exact ⟨_, rfl, h⟩
  | _, _, i + 1, v, .cons _ t, e => by
    obtain ⟨d, h1, h2⟩ := daa_get' (i := i) (v := v) t (by simpa using e)
    exact ⟨d, by simpa using h1, h2⟩
theorem daa_app : ∀ {vs ws : List V} {ds es : List PyData}, DaAll H vs ds → DaAll H ws es → DaAll H (vs ++ ws) (ds ++ es)
  | _, _, _, _, .nil, b => b
  | _, _, _, _, .cons h t, b => .cons h (daa_app t b)
theorem daa_drop : ∀ {vs : List V} {ds : List PyData} (n : Nat), DaAll H vs ds → DaAll H (vs.drop n) (ds.drop n)
  | _, _, 0, h => h
  | _, _, _ + 1, .nil => .nil
  | _, _, n + 1, .cons _ t => daa_drop n t
theorem daa_take : ∀ {vs : List V} {ds : List PyData} (n : Nat), DaAll H vs ds → DaAll H (vs.take n) (ds.take n)
  | _, _, 0, _ => .nil
  | _, _, _ + 1, .nil => .nil
  | _, _, n + 1, .cons h t => .cons h (daa_take n t)
theorem daa_set : ∀ {vs : List V} {ds : List PyData} {v : V} {d : PyData} (n : Nat), DaAll H vs ds → Da H v d → DaAll H (vs.set n v) (ds.set n d)
  | _, _, _, _, _, .nil, _ => .nil
  | _, _, _, _, 0, .cons _ t, h => .cons h t
  | _, _, _, _, n + 1, .cons h t, q => .cons h (daa_set n t q)
theorem daa_erase : ∀ {vs : List V} {ds : List PyData} (n : Nat), DaAll H vs ds → DaAll H (vs.eraseIdx n) (ds.eraseIdx n)
  | _, _, _, .nil => .nil
  | _, _, 0, .cons _ t => t
  | _, _, n + 1, .cons h t => .cons h (daa_erase n t)
theorem daa_rep {vs : List V} {ds : List PyData} (h : DaAll H vs ds) : ∀ n : Nat, DaAll H (List.replicate n vs).flatten (List.replicate n ds).flatten
  | 0 => .nil
  | n + 1 => by
    rw [List.replicate_succ, List.replicate_succ, List.flatten_cons, List.flatten_cons]
    exact daa_app h (daa_rep h n)
mutual
theorem da_p (K : PySem.W.Frag) : ∀ {v : V} {d : PyData}, Da H v d → Dp K H v d
  | _, _, .non => .non
  | _, _, .bl b => .bl b
  | _, _, .int i => .int i
  | _, _, .str x => .str x
  | _, _, .lst h a => .lst (SqL.of h) (daa_p K a)
  | _, _, .tup h a => .tup (SqT.of h) (daa_p K a)
theorem daa_p (K : PySem.W.Frag) : ∀ {vs : List V} {ds : List PyData}, DaAll H vs ds → DpAll K H vs ds
  | _, _, .nil => .nil
  | _, _, .cons h t => .cons (da_p K h) (daa_p K t)
end
end

/-! ### what a slot holds -/
/-- a symbol: name, arity, two-way -/
structure Sy where
  n : Str
  ar : Nat
  tw : Bool
  deriving DecidableEq
abbrev Sg := List Sy
/-- the signature's object: its fields, its table -/
def SigAt (C : Addr) (H : Hp) (v : V) (ss : Sg) : Prop := ∃ (a dx y t : Addr) (kvs : List (Key × V)), v = .ref a ∧
  H a = some (.ins C dx (putF "table" (.ref t) (putF "symbols" (.ref y) []))) ∧ H t = some (.dK kvs) ∧
  ∀ (i : Nat) (s : Sy), ss[i]? = some s → ∃ p, valV kvs (Sum.inr s.n) = some (.ref p) ∧ H p = some (.tup [.int i, .int s.ar, .bl s.tw])
/-- data; a list that is read while another owns it; the script; the signature -/
inductive Dm where
  | d (x : PyData)
  | bor (xs : List PyData)
  | scr (ns : List Int)
  | sig (ss : Sg)
  | der (l p : Addr) (ss : Sg)
  | raw (u : V)
def derC (K : PySem.W.Frag) : Addr := He.ga K "Derivation"
/-- the derivation's object: its lines at l, its pairs at p -/
def DerAt (C Cs : Addr) (H : Hp) (v : V) (l p : Addr) (ss : Sg) : Prop := ∃ (a dx x : Addr) (sv : V), v = .ref a ∧
  H a = some (.ins C dx (putF "pairs" (.ref p) (putF "lines" (.ref l) (putF "axioms" (.ref x) (putF "signature" sv []))))) ∧ SigAt Cs H sv ss ∧ H x = some (.tup [])
def sigC (K : PySem.W.Frag) : Addr := He.ga K "Signature"
def Rm (K : PySem.W.Frag) (W Wb : List Addr) (H : Hp) (v : V) : Dm → Prop
  | .d x => Da (Hm H W) v x
  | .bor xs => ∃ l vs, v = .ref l ∧ l ∈ Wb ∧ H l = some (.lst vs) ∧ DaAll (Hm H W) vs xs
  | .scr ns => ∃ a, v = .ref a ∧ SqL K (Hm H W) a (ns.map V.int)
  | .sig ss => SigAt (sigC K) (Hm H W) v ss
  | .der l p ss => DerAt (derC K) (sigC K) (Hm H W) v l p ss
  | .raw u => v = u
def RmAll (K : PySem.W.Frag) (W Wb : List Addr) (H : Hp) : List V → List Dm → Prop
  | [], [] => True
  | v :: vs, m :: ms => Rm K W Wb H v m ∧ RmAll K W Wb H vs ms
  | _, _ => False
theorem sig_mono {C : Addr} {H H' : Hp} {v : V} {ss : Sg} (e : Same H H') (h : SigAt C H v ss) : SigAt C H' v ss := by
  obtain ⟨a, dx, y, t, kvs, h1, h2, h3, h4⟩ := h
  exact ⟨a, dx, y, t, kvs, h1, e _ _ h2, e _ _ h3, fun i s q => let ⟨p, p1, p2⟩ := h4 i s q; ⟨p, p1, e _ _ p2⟩⟩
theorem der_mono {C Cs : Addr} {H H' : Hp} {v : V} {l p : Addr} {ss : Sg} (e : Same H H') (h : DerAt C Cs H v l p ss) : DerAt C Cs H' v l p ss := by
  obtain ⟨a, dx, x, sv, h1, h2, h3, h4⟩ := h
  exact ⟨a, dx, x, sv, h1, e _ _ h2, sig_mono e h3, e _ _ h4⟩
section
variable {K : PySem.W.Frag} {W W' Wb Wb' : List Addr} {H H' : Hp} {v : V} {m : Dm}
theorem rm_mono (e : Same H H') (h : Rm K W Wb H v m) (s : ∀ a ∈ W', a ∈ W := by exact fun _ h => h) (sb : ∀ a ∈ Wb, a ∈ Wb' := by exact fun _ h => h) : Rm K W' Wb' H' v m := by
  have q := same_hm (W := W) (W' := W') e s
  cases m with
  | d x => exact da_mono q h
  | bor xs =>
    obtain ⟨l, vs, h1, h2, h3, h4⟩ := h
    exact ⟨l, vs, h1, sb _ h2, e _ _ h3, daa_mono q h4⟩
  | scr ns =>
    obtain ⟨a, h1, h2⟩ := h
    exact ⟨a, h1, q.seq h2⟩
  | sig ss => exact sig_mono q h
  | der l p ss => exact der_mono q h
  | raw u => exact h
theorem rma_mono (e : Same H H') : ∀ {vs : List V} {ms : List Dm}, RmAll K W Wb H vs ms → RmAll K W Wb H' vs ms
  | [], [], _ => trivial
  | _ :: _, _ :: _, ⟨h, t⟩ => ⟨rm_mono e h, rma_mono e t⟩
theorem rma_len : ∀ {vs : List V} {ms : List Dm}, RmAll K W Wb H vs ms → vs.length = ms.length
  | [], [], _ => rfl
  | _ :: _, _ :: _, ⟨_, t⟩ => congrArg (· + 1) (rma_len t)
theorem rma_get : ∀ {vs : List V} {ms : List Dm} {i : Nat} {m : Dm}, RmAll K W Wb H vs ms → ms[i]? = some m → ∃ v, vs[i]? = some v ∧ Rm K W Wb H v m
  | [], [], _, _, _, h => by simp at h
  | _ :: _, _ :: _, 0, _, ⟨h, _⟩, e => by
    simp at e
    subst e
    exact ⟨_, rfl, h⟩
  | _ :: _, _ :: _, i + 1, m, ⟨_, t⟩, e => by
    obtain ⟨v, h1, h2⟩ := rma_get (i := i) (m := m) t (by simpa using e)
    exact ⟨v, by simpa using h1, h2⟩
theorem rma_d : ∀ {vs : List V} {ds : List PyData}, RmAll K W Wb H vs (ds.map Dm.d) → DaAll (Hm H W) vs ds
  | [], [], _ => .nil
  | _ :: _, _ :: _, ⟨h, t⟩ => .cons h (rma_d t)
  | [], _ :: _, h => h.elim
  | _ :: _, [], h => h.elim
end

/-- a slot: not known; a thing; a list of the body's own -/
inductive En where
  | no
  | val (m : Dm)
  | own (ds : List PyData)
  | tab (n : Nat) (f : Str → Option PyData)
/-- what a dict has at a name -/
def TabAt (H : Hp) (o : Option V) : Option PyData → Prop
  | none => o = none
  | some d => ∃ v, o = some v ∧ Da H v d
theorem tab_mono {H H' : Hp} (e : Same H H') {o : Option V} : ∀ {d : Option PyData}, TabAt H o d → TabAt H' o d
  | none, h => h
  | some _, ⟨v, h1, h2⟩ => ⟨v, h1, da_mono e h2⟩
structure EnvR (K : PySem.W.Frag) (O Oc : List Addr) (σ : St) (H : Hp) (G : List En) : Prop where
  len : σ.length = G.length
  inW : ∀ a ∈ O ++ Oc, H a ≠ none
  dis : ∀ a ∈ O, a ∉ Oc
  val : ∀ (i : Nat) (m : Dm), G[i]? = some (.val m) → ∃ v, σ[i]? = some (some v) ∧ Rm K (O ++ Oc) Oc H v m
  own : ∀ (i : Nat) (ds : List PyData), G[i]? = some (.own ds) → ∃ l vs, σ[i]? = some (some (.ref l)) ∧ l ∈ O ∧ H l = some (.lst vs) ∧ DaAll (Hm H (O ++ Oc)) vs ds
  apart : ∀ (i j : Nat) (ds es : List PyData), i ≠ j → G[i]? = some (.own ds) → G[j]? = some (.own es) → σ[i]? ≠ σ[j]?
  tab : ∀ (i n : Nat) (f : Str → Option PyData), G[i]? = some (.tab n f) → ∃ t kvs, σ[i]? = some (some (.ref t)) ∧ t ∈ O ∧ H t = some (.dK kvs) ∧ kvs.length ≤ n ∧ ∀ x, TabAt (Hm H (O ++ Oc)) (valV kvs (Sum.inr x)) (f x)
section
variable {K : PySem.W.Frag} {O Oc : List Addr} {σ : St} {H H' : Hp} {G : List En}
theorem EnvR.mono (E : EnvR K O Oc σ H G) (e : Same H H') : EnvR K O Oc σ H' G where
  len := E.len
  inW := fun a h z => by
    cases q : H a with
    | none => exact E.inW a h q
    | some o => rw [e a o q] at z; cases z
  dis := E.dis
  val := fun i m h => let ⟨v, h1, h2⟩ := E.val i m h; ⟨v, h1, rm_mono e h2⟩
  own := fun i ds h => let ⟨l, vs, h1, h2, h3, h4⟩ := E.own i ds h; ⟨l, vs, h1, h2, e _ _ h3, daa_mono (same_hm e fun _ h => h) h4⟩
  apart := E.apart
  tab := fun i n f h => let ⟨t, kvs, h1, h2, h3, h4, h5⟩ := E.tab i n f h; ⟨t, kvs, h1, h2, e _ _ h3, h4, fun x => tab_mono (same_hm e fun _ h => h) (h5 x)⟩
theorem EnvR.fresh (E : EnvR K O Oc σ H G) {p : Addr} (h : H p = none) : p ∉ O ++ Oc := fun z => E.inW p z h
theorem set_look {α : Type} {l : List α} {i j : Nat} {x y : α} (h : (l.set i x)[j]? = some y) : (i = j ∧ y = x) ∨ (i ≠ j ∧ l[j]? = some y) := by
  by_cases e : i = j
  · subst e
    rw [List.getElem?_set_self'] at h
    cases q : l[i]? with
    | none => rw [q] at h; cases h
    | some z =>
      rw [q] at h
      exact .inl ⟨rfl, (Option.some.inj h).symm⟩
  · rw [List.getElem?_set_ne e] at h
    exact .inr ⟨e, h⟩
theorem EnvR.set_val (E : EnvR K O Oc σ H G) {i : Nat} {v : V} {m : Dm} (r : Rm K (O ++ Oc) Oc H v m) : EnvR K O Oc (σ.set i (some v)) H (G.set i (.val m)) where
  len := by rw [List.length_set, List.length_set]; exact E.len
  inW := E.inW
  dis := E.dis
  val := fun j n h => by
    have hj : j < (G.set i (.val m)).length := (List.getElem?_eq_some_iff.mp h).1
    rw [List.length_set] at hj
    rcases set_look h with ⟨rfl, e⟩ | ⟨ne, h2⟩
    · cases e
      exact ⟨v, by rw [List.getElem?_set_self (by rw [E.len]; exact hj)], r⟩
    · obtain ⟨u, h3, h4⟩ := E.val j n h2
      exact ⟨u, by rw [List.getElem?_set_ne ne]; exact h3, h4⟩
  own := fun j ds h => by
    rcases set_look h with ⟨rfl, e⟩ | ⟨ne, h2⟩
    · cases e
    · obtain ⟨l, vs, h3, h4⟩ := E.own j ds h2
      exact ⟨l, vs, by rw [List.getElem?_set_ne ne]; exact h3, h4⟩
  apart := fun j k ds es ne h1 h2 => by
    rcases set_look h1 with ⟨rfl, e⟩ | ⟨n1, h3⟩
    · cases e
    · rcases set_look h2 with ⟨rfl, e⟩ | ⟨n2, h4⟩
      · cases e
      · rw [List.getElem?_set_ne n1, List.getElem?_set_ne n2]
        exact E.apart j k ds es ne h3 h4
  tab := fun j n f h => by
    rcases set_look h with ⟨rfl, e⟩ | ⟨ne, h2⟩
    · cases e
    · obtain ⟨t, kvs, h3, h4⟩ := E.tab j n f h2
      exact ⟨t, kvs, by rw [List.getElem?_set_ne ne]; exact h3, h4⟩
/-- a new list in slot i, the body's own -/
theorem EnvR.set_own (E : EnvR K O Oc σ H G) {i : Nat} {l : Addr} {vs : List V} {ds : List PyData} (hl : H l = none) (r : DaAll (Hm H (O ++ Oc)) vs ds) :
    EnvR K (l :: O) Oc (σ.set i (some (.ref l))) (upd H l (.lst vs)) (G.set i (.own ds)) := by
  have e0 : Hm (upd H l (.lst vs)) (l :: O ++ Oc) = Hm H (O ++ Oc) := hm_cons hl
  have nl : ∀ a, H a ≠ none → a ≠ l := fun a h z => h (z ▸ hl)
  refine ⟨by rw [List.length_set, List.length_set]; exact E.len, fun a h => ?_, fun a h z => ?_, fun j n h => ?_, fun j es h => ?_, fun j k es fs ne h1 h2 => ?_, fun j n f h => ?_⟩
  · rcases List.mem_cons.mp h with e | h
    · subst e
      rw [upd_same]
      exact fun z => nomatch z
    · rw [upd_ne (nl a (E.inW a h))]
      exact E.inW a h
  · rcases List.mem_cons.mp h with e | h
    · subst e
      exact E.inW a (List.mem_append_right _ z) hl
    · exact E.dis a h z
  · rcases set_look h with ⟨rfl, e⟩ | ⟨ne, h2⟩
    · cases e
    · obtain ⟨u, h3, h4⟩ := E.val j n h2
      refine ⟨u, by rw [List.getElem?_set_ne ne]; exact h3, ?_⟩
      cases n with
      | d x =>
        show Da (Hm _ (l :: O ++ Oc)) u x
        rw [e0]
        exact h4
      | bor xs =>
        obtain ⟨b, ws, g1, g2, g3, g4⟩ := h4
        refine ⟨b, ws, g1, g2, ?_, ?_⟩
        · rw [upd_ne (nl b (by rw [g3]; exact fun z => nomatch z))]
          exact g3
        · rw [e0]
          exact g4
      | scr ns =>
        show ∃ a, u = .ref a ∧ SqL K (Hm _ (l :: O ++ Oc)) a _
        rw [e0]
        exact h4
      | sig ss =>
        show SigAt _ (Hm _ (l :: O ++ Oc)) u ss
        rw [e0]
        exact h4
      | der l2 p2 ss =>
        show DerAt _ _ (Hm _ (l :: O ++ Oc)) u l2 p2 ss
        rw [e0]
        exact h4
      | raw u => exact h4
  · rcases set_look h with ⟨rfl, e⟩ | ⟨ne, h2⟩
    · cases e
      have hj : i < G.length := by
        have := (List.getElem?_eq_some_iff.mp h).1
        rw [List.length_set] at this
        exact this
      exact ⟨l, vs, by rw [List.getElem?_set_self (by rw [E.len]; exact hj)], List.mem_cons_self, upd_same, by rw [e0]; exact r⟩
    · obtain ⟨b, ws, g1, g2, g3, g4⟩ := E.own j es h2
      exact ⟨b, ws, by rw [List.getElem?_set_ne ne]; exact g1, List.mem_cons_of_mem _ g2, by rw [upd_ne (nl b (by rw [g3]; exact fun z => nomatch z))]; exact g3, by rw [e0]; exact g4⟩
  · have key : ∀ (j : Nat) (es : List PyData), i ≠ j → G[j]? = some (.own es) → (some (some (V.ref l)) : Option (Option V)) ≠ σ[j]? := fun j es ne q z => by
      obtain ⟨b, ws, g1, g2, g3, g4⟩ := E.own j es q
      rw [g1] at z
      cases z
      rw [hl] at g3
      cases g3
    have hi : ∀ (es : List PyData), (G.set i (.own ds))[i]? = some (.own es) → (σ.set i (some (.ref l)))[i]? = some (some (V.ref l)) := fun es q => by
      have := (List.getElem?_eq_some_iff.mp q).1
      rw [List.length_set] at this
      rw [List.getElem?_set_self (by rw [E.len]; exact this)]
    rcases set_look h1 with ⟨rfl, _⟩ | ⟨n1, h3⟩
    · rcases set_look h2 with ⟨rfl, _⟩ | ⟨n2, h4⟩
      · exact absurd rfl ne
      · rw [hi _ h1, List.getElem?_set_ne n2]
        exact key k fs n2 h4
    · rcases set_look h2 with ⟨rfl, _⟩ | ⟨n2, h4⟩
      · rw [hi _ h2, List.getElem?_set_ne n1]
        exact fun z => key j es n1 h3 z.symm
      · rw [List.getElem?_set_ne n1, List.getElem?_set_ne n2]
        exact E.apart j k es fs ne h3 h4
  · rcases set_look h with ⟨rfl, e⟩ | ⟨ne, h2⟩
    · cases e
    · obtain ⟨t, kvs, h3, h4, h5, h6, h7⟩ := E.tab j n f h2
      exact ⟨t, kvs, by rw [List.getElem?_set_ne ne]; exact h3, List.mem_cons_of_mem _ h4, by rw [upd_ne (nl t (by rw [h5]; exact fun z => nomatch z))]; exact h5, h6, fun x => by rw [e0]; exact h7 x⟩
/-- the own list in slot i is changed -/
theorem EnvR.put_own (E : EnvR K O Oc σ H G) {i : Nat} {l : Addr} {vs : List V} {ds es : List PyData} (h0 : G[i]? = some (.own es)) (hs : σ[i]? = some (some (.ref l))) (r : DaAll (Hm H (O ++ Oc)) vs ds) :
    EnvR K O Oc σ (upd H l (.lst vs)) (G.set i (.own ds)) := by
  obtain ⟨l0, ws, g1, g2, g3, g4⟩ := E.own i es h0
  rw [g1] at hs
  cases hs
  have e0 : Hm (upd H l (.lst vs)) (O ++ Oc) = Hm H (O ++ Oc) := hm_upd (List.mem_append_left _ g2)
  refine ⟨by rw [List.length_set]; exact E.len, fun a h => ?_, E.dis, fun j n h => ?_, fun j fs h => ?_, fun j k fs hs ne h1 h2 => ?_, fun j n f h => ?_⟩
  · by_cases e : a = l
    · subst e
      rw [upd_same]
      exact fun z => nomatch z
    · rw [upd_ne e]
      exact E.inW a h
  · rcases set_look h with ⟨rfl, e⟩ | ⟨ne, h2⟩
    · cases e
    · obtain ⟨u, h3, h4⟩ := E.val j n h2
      refine ⟨u, h3, ?_⟩
      cases n with
      | d x =>
        show Da (Hm _ (O ++ Oc)) u x
        rw [e0]
        exact h4
      | bor xs =>
        obtain ⟨b, ws, q1, q2, q3, q4⟩ := h4
        refine ⟨b, ws, q1, q2, ?_, ?_⟩
        · rw [upd_ne (show b ≠ l from fun z => E.dis l g2 (by rw [← z]; exact q2))]
          exact q3
        · rw [e0]
          exact q4
      | scr ns =>
        show ∃ a, u = .ref a ∧ SqL K (Hm _ (O ++ Oc)) a _
        rw [e0]
        exact h4
      | sig ss =>
        show SigAt _ (Hm _ (O ++ Oc)) u ss
        rw [e0]
        exact h4
      | der l2 p2 ss =>
        show DerAt _ _ (Hm _ (O ++ Oc)) u l2 p2 ss
        rw [e0]
        exact h4
      | raw u => exact h4
  · rcases set_look h with ⟨rfl, e⟩ | ⟨ne, h2⟩
    · cases e
      exact ⟨l, vs, g1, g2, upd_same, by rw [e0]; exact r⟩
    · obtain ⟨b, ws, q1, q2, q3, q4⟩ := E.own j fs h2
      refine ⟨b, ws, q1, q2, ?_, by rw [e0]; exact q4⟩
      rw [upd_ne (fun z => E.apart i j es fs ne h0 h2 (by rw [g1, q1, z]))]
      exact q3
  · have back : ∀ (j : Nat) (fs : List PyData), (G.set i (.own ds))[j]? = some (.own fs) → ∃ gs, G[j]? = some (.own gs) := fun j fs q => by
      rcases set_look q with ⟨rfl, _⟩ | ⟨_, h⟩
      · exact ⟨_, h0⟩
      · exact ⟨_, h⟩
    obtain ⟨a1, b1⟩ := back j fs h1
    obtain ⟨a2, b2⟩ := back k hs h2
    exact E.apart j k a1 a2 ne b1 b2
  · rcases set_look h with ⟨rfl, e⟩ | ⟨ne, h2⟩
    · cases e
    · obtain ⟨t, kvs, h3, h4, h5, h6, h7⟩ := E.tab j n f h2
      exact ⟨t, kvs, h3, h4, by rw [upd_ne (show t ≠ l from fun z => by rw [z, g3] at h5; cases h5)]; exact h5, h6, fun x => by rw [e0]; exact h7 x⟩
/-- the own list in slot i is a thing like others from now on -/
theorem EnvR.free_own (E : EnvR K O Oc σ H G) {i : Nat} {ds : List PyData} (h0 : G[i]? = some (.own ds)) :
    ∃ O', (∀ a ∈ O', a ∈ O) ∧ EnvR K O' Oc σ H (G.set i (.val (.d (.list ds)))) := by
  obtain ⟨l, vs, g1, g2, g3, g4⟩ := E.own i ds h0
  have sub : ∀ a ∈ O.filter (fun a => decide (a ≠ l)), a ∈ O := fun a h => (List.mem_filter.mp h).1
  have nl : l ∉ O.filter (fun a => decide (a ≠ l)) := fun h => by
    have := (List.mem_filter.mp h).2
    simp at this
  have subW : ∀ a ∈ O.filter (fun a => decide (a ≠ l)) ++ Oc, a ∈ O ++ Oc := fun a h => by
    rcases List.mem_append.mp h with h | h
    · exact List.mem_append_left _ (sub a h)
    · exact List.mem_append_right _ h
  refine ⟨O.filter fun a => decide (a ≠ l), sub, by rw [List.length_set]; exact E.len, fun a h => E.inW a (subW a h), fun a h => E.dis a (sub a h), fun j n h => ?_, fun j fs h => ?_, fun j k fs hs ne h1 h2 => ?_, fun j n f h => ?_⟩
  · rcases set_look h with ⟨rfl, e⟩ | ⟨ne, h2⟩
    · cases e
      refine ⟨_, g1, .lst (hm_mk (fun z => ?_) g3) (daa_mono (same_hm (Same.refl H) subW) g4)⟩
      rcases List.mem_append.mp z with z | z
      · exact nl z
      · exact E.dis l g2 z
    · obtain ⟨u, h3, h4⟩ := E.val j n h2
      exact ⟨u, h3, rm_mono (Same.refl H) h4 subW⟩
  · rcases set_look h with ⟨rfl, e⟩ | ⟨ne, h2⟩
    · cases e
    · obtain ⟨b, ws, q1, q2, q3, q4⟩ := E.own j fs h2
      refine ⟨b, ws, q1, List.mem_filter.mpr ⟨q2, ?_⟩, q3, daa_mono (same_hm (Same.refl H) subW) q4⟩
      have : b ≠ l := fun z => E.apart i j ds fs ne h0 h2 (by rw [g1, q1, z])
      simp [this]
  · rcases set_look h1 with ⟨rfl, e⟩ | ⟨_, h3⟩
    · cases e
    · rcases set_look h2 with ⟨rfl, e⟩ | ⟨_, h4⟩
      · cases e
      · exact E.apart j k fs hs ne h3 h4
  · rcases set_look h with ⟨rfl, e⟩ | ⟨ne, h2⟩
    · cases e
    · obtain ⟨t, kvs, h3, h4, h5, h6, h7⟩ := E.tab j n f h2
      refine ⟨t, kvs, h3, List.mem_filter.mpr ⟨h4, ?_⟩, h5, h6, fun x => tab_mono (same_hm (Same.refl H) subW) (h7 x)⟩
      have : t ≠ l := fun z => by rw [z, g3] at h5; cases h5
      simp [this]
def noTab (G : List En) : Prop := ∀ (i n : Nat) (f : Str → Option PyData), G[i]? ≠ some (.tab n f)
/-- a new dict in slot i -/
theorem EnvR.set_tab (E : EnvR K O Oc σ H G) {i : Nat} {t : Addr} (ht : H t = none) (nt : noTab G) :
    EnvR K (t :: O) Oc (σ.set i (some (.ref t))) (upd H t (.dK [])) (G.set i (.tab 0 fun _ => none)) := by
  have e0 : Hm (upd H t (.dK [])) (t :: O ++ Oc) = Hm H (O ++ Oc) := hm_cons ht
  have nl : ∀ a, H a ≠ none → a ≠ t := fun a h z => h (z ▸ ht)
  refine ⟨by rw [List.length_set, List.length_set]; exact E.len, fun a h => ?_, fun a h z => ?_, fun j n h => ?_, fun j es h => ?_, fun j k es fs ne h1 h2 => ?_, fun j n f h => ?_⟩
  · rcases List.mem_cons.mp h with e | h
    · subst e
      rw [upd_same]
      exact fun z => nomatch z
    · rw [upd_ne (nl a (E.inW a h))]
      exact E.inW a h
  · rcases List.mem_cons.mp h with e | h
    · subst e
      exact E.inW a (List.mem_append_right _ z) ht
    · exact E.dis a h z
  · rcases set_look h with ⟨rfl, e⟩ | ⟨ne, h2⟩
    · cases e
    · obtain ⟨u, h3, h4⟩ := E.val j n h2
      refine ⟨u, by rw [List.getElem?_set_ne ne]; exact h3, ?_⟩
      cases n with
      | d x =>
        show Da (Hm _ (t :: O ++ Oc)) u x
        rw [e0]
        exact h4
      | bor xs =>
        obtain ⟨b, ws, g1, g2, g3, g4⟩ := h4
        refine ⟨b, ws, g1, g2, ?_, ?_⟩
        · rw [upd_ne (nl b (by rw [g3]; exact fun z => nomatch z))]
          exact g3
        · rw [e0]
          exact g4
      | scr ns =>
        show ∃ a, u = .ref a ∧ SqL K (Hm _ (t :: O ++ Oc)) a _
        rw [e0]
        exact h4
      | sig ss =>
        show SigAt _ (Hm _ (t :: O ++ Oc)) u ss
        rw [e0]
        exact h4
      | der l2 p2 ss =>
        show DerAt _ _ (Hm _ (t :: O ++ Oc)) u l2 p2 ss
        rw [e0]
        exact h4
      | raw u => exact h4
  · rcases set_look h with ⟨rfl, e⟩ | ⟨ne, h2⟩
    · cases e
    · obtain ⟨b, ws, g1, g2, g3, g4⟩ := E.own j es h2
      exact ⟨b, ws, by rw [List.getElem?_set_ne ne]; exact g1, List.mem_cons_of_mem _ g2, by rw [upd_ne (nl b (by rw [g3]; exact fun z => nomatch z))]; exact g3, by rw [e0]; exact g4⟩
  · rcases set_look h1 with ⟨rfl, e⟩ | ⟨n1, h3⟩
    · cases e
    · rcases set_look h2 with ⟨rfl, e⟩ | ⟨n2, h4⟩
      · cases e
      · rw [List.getElem?_set_ne n1, List.getElem?_set_ne n2]
        exact E.apart j k es fs ne h3 h4
  · rcases set_look h with ⟨rfl, e⟩ | ⟨ne, h2⟩
    · cases e
      have hj : i < G.length := by
        have := (List.getElem?_eq_some_iff.mp h).1
        rw [List.length_set] at this
        exact this
      exact ⟨t, [], by rw [List.getElem?_set_self (by rw [E.len]; exact hj)], List.mem_cons_self, upd_same, Nat.le_refl _, fun x => rfl⟩
    · exact absurd h2 (nt j n f)
/-- a name is put into the dict in slot i -/
theorem EnvR.put_tab (E : EnvR K O Oc σ H G) {i n : Nat} {t : Addr} {f : Str → Option PyData} {kvs : List (Key × V)} {x : Str} {v : V} {d : PyData} (h0 : G[i]? = some (.tab n f)) (nt : ∀ j m g, j ≠ i → G[j]? ≠ some (.tab m g)) (hs : σ[i]? = some (some (.ref t))) (hk : H t = some (.dK kvs))
    (r : Da (Hm H (O ++ Oc)) v d) (hf : f x = none) : EnvR K O Oc σ (upd H t (.dK (putK kvs (Sum.inr x) v))) (G.set i (.tab (n + 1) fun y => if y = x then some d else f y)) := by
  obtain ⟨t0, kvs0, g1, g2, g3, g4, g5⟩ := E.tab i n f h0
  rw [g1] at hs
  cases hs
  rw [g3] at hk
  cases hk
  have e0 : Hm (upd H t (.dK (putK kvs (Sum.inr x) v))) (O ++ Oc) = Hm H (O ++ Oc) := hm_upd (List.mem_append_left _ g2)
  refine ⟨by rw [List.length_set]; exact E.len, fun a h => ?_, E.dis, fun j n h => ?_, fun j fs h => ?_, fun j k fs hs ne h1 h2 => ?_, fun j m g h => ?_⟩
  · by_cases e : a = t
    · subst e
      rw [upd_same]
      exact fun z => nomatch z
    · rw [upd_ne e]
      exact E.inW a h
  · rcases set_look h with ⟨rfl, e⟩ | ⟨ne, h2⟩
    · cases e
    · obtain ⟨u, h3, h4⟩ := E.val j n h2
      refine ⟨u, h3, ?_⟩
      cases n with
      | d x =>
        show Da (Hm _ (O ++ Oc)) u x
        rw [e0]
        exact h4
      | bor xs =>
        obtain ⟨b, ws, q1, q2, q3, q4⟩ := h4
        refine ⟨b, ws, q1, q2, ?_, ?_⟩
        · rw [upd_ne (show b ≠ t from fun z => E.dis t g2 (by rw [← z]; exact q2))]
          exact q3
        · rw [e0]
          exact q4
      | scr ns =>
        show ∃ a, u = .ref a ∧ SqL K (Hm _ (O ++ Oc)) a _
        rw [e0]
        exact h4
      | sig ss =>
        show SigAt _ (Hm _ (O ++ Oc)) u ss
        rw [e0]
        exact h4
      | der l2 p2 ss =>
        show DerAt _ _ (Hm _ (O ++ Oc)) u l2 p2 ss
        rw [e0]
        exact h4
      | raw u => exact h4
  · rcases set_look h with ⟨rfl, e⟩ | ⟨ne, h2⟩
    · cases e
    · obtain ⟨b, ws, q1, q2, q3, q4⟩ := E.own j fs h2
      exact ⟨b, ws, q1, q2, by rw [upd_ne (show b ≠ t from fun z => by rw [z, g3] at q3; cases q3)]; exact q3, by rw [e0]; exact q4⟩
  · have back : ∀ (j : Nat) (fs : List PyData), (G.set i (.tab (n + 1) fun y => if y = x then some d else f y))[j]? = some (.own fs) → ∃ gs, G[j]? = some (.own gs) := fun j fs q => by
      rcases set_look q with ⟨rfl, e⟩ | ⟨_, h⟩
      · cases e
      · exact ⟨_, h⟩
    obtain ⟨a1, b1⟩ := back j fs h1
    obtain ⟨a2, b2⟩ := back k hs h2
    exact E.apart j k a1 a2 ne b1 b2
  · rcases set_look h with ⟨rfl, e⟩ | ⟨ne, h2⟩
    · cases e
      have hx : valV kvs (Sum.inr x) = none := by
        have := g5 x
        rw [hf] at this
        exact this
      refine ⟨t, _, g1, g2, upd_same, by rw [putK_new v hx, List.length_append]; simpa using g4, fun y => ?_⟩
      rw [e0, valV_put]
      show TabAt _ _ (if y = x then some d else f y)
      by_cases e : y = x
      · subst e
        rw [if_pos rfl, if_pos rfl]
        exact ⟨v, rfl, r⟩
      · rw [if_neg (fun z => e (Sum.inr.inj z)), if_neg e]
        exact g5 y
    · exact absurd h2 (nt j m g (Ne.symm ne))
end
end Tw

set_option maxHeartbeats 4000000
namespace Tw
open PySem PySem.Spec L2
open PyProof.Rows hiding St
open StX (pa_star)

/-! ### readings by data -/
def tD (K : PySem.W.Frag) (G : List En) (m : Dm) : TE := fun σ H Q => ∃ O Oc, EnvR K O Oc σ H G ∧ ∀ v H', Same H H' → Rm K (O ++ Oc) (O ++ Oc) H' v m → Q v H'
def tB1 (K : PySem.W.Frag) (G : List En) (b : Bool) : TT := fun σ H Q => ∃ O Oc, EnvR K O Oc σ H G ∧ ∀ H', Same H H' → Q b H'
def tAs (K : PySem.W.Frag) (G : List En) (ms : List Dm) : TA := fun σ H Q => ∃ O Oc, EnvR K O Oc σ H G ∧ ∀ vs H', Same H H' → RmAll K (O ++ Oc) (O ++ Oc) H' vs ms → Q vs H'
abbrev ED (X : Cx) (G : List En) (e : Expr) (m : Dm) : Prop := PE X e (tD X.K G m)
abbrev TD (X : Cx) (G : List En) (e : Expr) (b : Bool) : Prop := PT X e (tB1 X.K G b)
abbrev WD (X : Cx) (G : List En) (e : Expr) (b : Bool) : Prop := PW X e (tB1 X.K G b)
abbrev AD (X : Cx) (G : List En) (es : List Expr) (ms : List Dm) : Prop := PA X es (tAs X.K G ms)

section
variable {X : Cx} {G : List En} {e : Expr} {m : Dm} {b : Bool} {es : List Expr} {ms : List Dm}
theorem ed_of {t : TE} (h : PE X e t) (w : ∀ O Oc σ H Q, EnvR X.K O Oc σ H G → (∀ v H', Same H H' → Rm X.K (O ++ Oc) (O ++ Oc) H' v m → Q v H') → t σ H Q) : ED X G e m :=
  ⟨fun pins s σ H Q I ⟨O, Oc, E, k⟩ => h.run pins s σ H Q I (w O Oc σ H Q E k)⟩
theorem td_of {t : TT} (h : PT X e t) (w : ∀ O Oc σ H Q, EnvR X.K O Oc σ H G → (∀ H', Same H H' → Q b H') → t σ H Q) : TD X G e b :=
  ⟨fun pins s σ H Q I ⟨O, Oc, E, k⟩ => h.run pins s σ H Q I (w O Oc σ H Q E k)⟩
theorem wd_of {t : TT} (h : PW X e t) (w : ∀ O Oc σ H Q, EnvR X.K O Oc σ H G → (∀ H', Same H H' → Q b H') → t σ H Q) : WD X G e b :=
  ⟨fun wh pins s σ H Q I ⟨O, Oc, E, k⟩ => h.run wh pins s σ H Q I (w O Oc σ H Q E k)⟩
theorem ad_of {t : TA} (h : PA X es t) (w : ∀ O Oc σ H Q, EnvR X.K O Oc σ H G → (∀ vs H', Same H H' → RmAll X.K (O ++ Oc) (O ++ Oc) H' vs ms → Q vs H') → t σ H Q) : AD X G es ms :=
  ⟨fun pos pins s σ H Q I ⟨O, Oc, E, k⟩ => h.run pos pins s σ H Q I (w O Oc σ H Q E k)⟩
/-- what is never come to -/
theorem pe_never {t : TE} (h : ∀ σ H Q, ¬ t σ H Q) : PE X e t := ⟨fun _ _ _ _ _ _ z => (h _ _ _ z).elim⟩

/-! ### names, constants -/
theorem ed_v (i : Nat) {x : Str} {pos : Pos} (hg : G[i]? = some (.val m) := by rfl) (hN : X.N[i]? = some x := by rfl)
    (hv : Vis X.env.scope x := by first | exact Or.inl rfl | exact Or.inr (Or.inl rfl) | exact Or.inr (Or.inr rfl)) (hd : (x == ("__debug__" : Str)) = false := by decide)
    (hcd : (x == ("__classdict__" : Str)) = false := by decide) : ED X G (.Name x pos) m :=
  ed_of (pe_var hN hv hd hcd) fun O Oc σ H Q E k => by
    obtain ⟨v, h1, h2⟩ := E.val i m hg
    exact ⟨v, h1, k v H (Same.refl H) (rm_mono (Same.refl H) h2 (fun _ h => h) fun a h => List.mem_append_right _ h)⟩
theorem ed_o (i : Nat) {x : Str} {pos : Pos} {ds : List PyData} (hg : G[i]? = some (.own ds) := by rfl) (hN : X.N[i]? = some x := by rfl)
    (hv : Vis X.env.scope x := by first | exact Or.inl rfl | exact Or.inr (Or.inl rfl) | exact Or.inr (Or.inr rfl)) (hd : (x == ("__debug__" : Str)) = false := by decide)
    (hcd : (x == ("__classdict__" : Str)) = false := by decide) : ED X G (.Name x pos) (.bor ds) :=
  ed_of (pe_var hN hv hd hcd) fun O Oc σ H Q E k => by
    obtain ⟨l, vs, h1, h2, h3, h4⟩ := E.own i ds hg
    exact ⟨_, h1, k _ H (Same.refl H) ⟨l, vs, rfl, List.mem_append_left _ h2, h3, h4⟩⟩
theorem ed_int {i : Int} {j pos} : ED X G (.Constant (.int i) j pos) (.d (.int i)) := ed_of pe_int fun _ _ _ H _ _ k => k _ H (Same.refl H) (.int i)
theorem ed_bl {c : Bool} {j pos} : ED X G (.Constant (.bool c) j pos) (.d (.bool c)) := ed_of pe_bl fun _ _ _ H _ _ k => k _ H (Same.refl H) (.bl c)
theorem ed_non {j pos} : ED X G (.Constant .none j pos) (.d .none) := ed_of pe_non fun _ _ _ H _ _ k => k _ H (Same.refl H) .non
theorem ed_str {x : Str} {j pos} : ED X G (.Constant (.str x) j pos) (.d (.str x)) := ed_of pe_str fun _ _ _ H _ _ k => k _ H (Same.refl H) (.str x)
/-- a text of the module's own -/
theorem ed_gstr {x z : Str} {t : Tok} {pos : Pos} (hm : X.mg x = some (.str z t)) (hg : Gl X x := by rfl) (hd : (x == ("__debug__" : Str)) = false := by decide) : ED X G (.Name x pos) (.d (.str z)) :=
  ed_of (pe_glob (v := .str z) hg hm ⟨t, rfl⟩ hd) fun _ _ _ H _ _ k => k _ H (Same.refl H) (.str z)

/-! ### two operands -/
def OpD (K : PySem.W.Frag) (r : R2) (x y z : Dm) : Prop := ∀ (W : List Addr) (H : Hp) (v w : V) (Q : VK), (∀ a ∈ W, H a ≠ none) → Rm K W W H v x → Rm K W W H w y → (∀ u H', Same H H' → Rm K W W H' u z → Q u H') → r v w H Q
def BinD (X : Cx) (op : Operator) (x y z : Dm) : Prop := ∃ r, OpR X (binaryOp op) r ∧ OpD X.K r x y z
def CmpD (X : Cx) (op : CmpOp) (x y : Dm) (b : Bool) : Prop := ∃ r, OpR X (compareOp op) r ∧ OpD X.K r x y (.d (.bool b))
theorem op_run {r : R2} {a b : Expr} {x y z : Dm} (hd : OpD X.K r x y z) : ∀ O Oc σ H Q, EnvR X.K O Oc σ H G → (∀ v H', Same H H' → Rm X.K (O ++ Oc) (O ++ Oc) H' v z → Q v H') → tOp r (tD X.K G x) (tD X.K G y) σ H Q :=
  fun O Oc σ H Q E k => ⟨O, Oc, E, fun v H1 s1 r1 => ⟨O, Oc, E.mono s1, fun w H2 s2 r2 => hd (O ++ Oc) H2 v w Q ((E.mono s1).mono s2).inW (rm_mono s2 r1) r2 fun u H3 s3 r3 => k u H3 ((s1.trans s2).trans s3) r3⟩⟩
theorem ed_bin {a b : Expr} {op : Operator} {x y z : Dm} {pos : Pos} (ha : ED X G a x) (hb : ED X G b y) (h : BinD X op x y z) : ED X G (.BinOp a op b pos) z := by
  obtain ⟨r, ho, hd⟩ := h
  exact ed_of (pe_op ho ha hb) (op_run (a := a) (b := b) hd)
theorem ed_cmp {a b : Expr} {op : CmpOp} {x y : Dm} {c : Bool} {pos : Pos} (ha : ED X G a x) (hb : ED X G b y) (h : CmpD X op x y c) (hm : behindInMarks op b = false := by first | exact nomark _ | rfl) : ED X G (.Compare a [op] [b] pos) (.d (.bool c)) := by
  obtain ⟨r, ho, hd⟩ := h
  exact ed_of (pe_cmpR ho ha hb hm) (op_run (a := a) (b := b) hd)
theorem td_cmp {a b : Expr} {op : CmpOp} {x y : Dm} {c : Bool} {pos : Pos} (ha : ED X G a x) (hb : ED X G b y) (h : CmpD X op x y c) (hm : behindInMarks op b = false := by first | exact nomark _ | rfl) : TD X G (.Compare a [op] [b] pos) c := by
  obtain ⟨r, ho, hd⟩ := h
  refine td_of (pt_cmpR ho ha hb hm) fun O Oc σ H Q E k => op_run (a := a) (b := b) hd O Oc σ H _ E fun v H' s q => ?_
  cases q
  exact ⟨c, rfl, k H' s⟩
/-- a value that is True or False, as a test -/
theorem td_val (ha : ED X G e (.d (.bool b))) (he : ∀ whole, isTrue e X.env whole = (do let v ← whole; standAt e.pos; holding [v] (truthy v)) := by intro _; rfl) : TD X G e b :=
  td_of (pt_val ha he) fun O Oc σ H Q E k => ⟨O, Oc, E, fun v H' s q => by
    cases q
    exact ⟨b, rfl, k H' s⟩⟩
theorem td_is {c : Bool} (h : TD X G e b) (q : b = c) : TD X G e c := q ▸ h
theorem ed_is {n : Dm} (h : ED X G e m) (q : m = n) : ED X G e n := q ▸ h
/-- a op b op c -/
theorem td_chain {a b' c' : Expr} {op op' : CmpOp} {x y z : Dm} {p q : Bool} {pos : Pos} (ha : ED X G a x) (hb : ED X G b' y) (hc : ED X G c' z) (h : CmpD X op x y p) (h' : CmpD X op' y z q) (hm : lastMarks [op, op'] [b', c'] = false := by with_unfolding_all rfl) :
    TD X G (.Compare a [op, op'] [b', c'] pos) (p && q) := by
  obtain ⟨r, ho, hd⟩ := h
  obtain ⟨r', ho', hd'⟩ := h'
  refine td_of (pt_chain ho ho' ha hb hc hm) fun O Oc σ H Q E k => ⟨O, Oc, E, fun v H1 s1 r1 => ⟨O, Oc, E.mono s1, fun w H2 s2 r2 => ?_⟩⟩
  have E2 := (E.mono s1).mono s2
  refine hd (O ++ Oc) H2 v w _ E2.inW (rm_mono s2 r1) r2 fun u H3 s3 r3 => ?_
  cases r3
  refine ⟨p, rfl, ?_⟩
  cases p with
  | false =>
    rw [if_neg Bool.false_ne_true]
    exact ⟨false, rfl, k H3 ((s1.trans s2).trans s3)⟩
  | true =>
    rw [if_pos rfl]
    refine ⟨O, Oc, E2.mono s3, fun u2 H4 s4 r4 => hd' (O ++ Oc) H4 w u2 _ ((E2.mono s3).mono s4).inW (rm_mono (s3.trans s4) r2) r4 fun u3 H5 s5 r5 => ?_⟩
    cases r5
    exact ⟨q, rfl, k H5 ((((s1.trans s2).trans s3).trans s4).trans s5)⟩

/-! ### and, or, not -/
theorem wd_and1 {pos : Pos} (ha : TD X G e b) : WD X G (.BoolOp .And [e] pos) b := wd_of (pw_and1 ha) fun O Oc σ H Q E k => ⟨O, Oc, E, k⟩
theorem wd_or1 {pos : Pos} (ha : TD X G e b) : WD X G (.BoolOp .Or [e] pos) b := wd_of (pw_or1 ha) fun O Oc σ H Q E k => ⟨O, Oc, E, k⟩
theorem pw_vac {t : TT} {e : Expr} (h : ∀ σ H Q, ¬ t σ H Q) : PW X e t := ⟨fun _ _ _ _ _ _ _ z => (h _ _ _ z).elim⟩
def tNo : TT := fun _ _ _ => False
theorem pw_no {e : Expr} : PW X e tNo := pw_vac fun _ _ _ h => h
theorem wd_and {f : Expr} {rest : List Expr} {pos : Pos} {c : Bool} (ha : TD X G e b) (hb : b = true → WD X G (.BoolOp .And (f :: rest) pos) c) : WD X G (.BoolOp .And (e :: f :: rest) pos) (b && c) := by
  cases b with
  | true => exact wd_of (pw_and ha (hb rfl)) fun O Oc σ H Q E k => ⟨O, Oc, E, fun H1 s1 => iteT (⟨O, Oc, E.mono s1, fun H2 s2 => k H2 (s1.trans s2)⟩)⟩
  | false => exact wd_of (pw_and ha pw_no) fun O Oc σ H Q E k => ⟨O, Oc, E, fun H1 s1 => iteF (k H1 s1)⟩
theorem wd_or {f : Expr} {rest : List Expr} {pos : Pos} {c : Bool} (ha : TD X G e b) (hb : b = false → WD X G (.BoolOp .Or (f :: rest) pos) c) : WD X G (.BoolOp .Or (e :: f :: rest) pos) (b || c) := by
  cases b with
  | true => exact wd_of (pw_or ha pw_no) fun O Oc σ H Q E k => ⟨O, Oc, E, fun H1 s1 => iteT (k H1 s1)⟩
  | false => exact wd_of (pw_or ha (hb rfl)) fun O Oc σ H Q E k => ⟨O, Oc, E, fun H1 s1 => iteF (⟨O, Oc, E.mono s1, fun H2 s2 => k H2 (s1.trans s2)⟩)⟩
theorem td_not {pos : Pos} (ha : TD X G e b) : TD X G (.UnaryOp .Not e pos) (!b) := td_of (pt_not ha) fun O Oc σ H Q E k => ⟨O, Oc, E, k⟩
/-- as values: all but the last True or False -/
theorem ed_one {op : BoolOp} {pos : Pos} (h : ED X G e m) : ED X G (.BoolOp op [e] pos) m := ed_of (pe_one h) fun O Oc σ H Q E k => ⟨O, Oc, E, k⟩
theorem ed_andT {f : Expr} {rest : List Expr} {pos : Pos} (ha : ED X G e (.d (.bool true))) (hb : ED X G (.BoolOp .And (f :: rest) pos) m) : ED X G (.BoolOp .And (e :: f :: rest) pos) m :=
  ed_of (pe_and ha hb) fun O Oc σ H Q E k => ⟨O, Oc, E, fun v H1 s1 r1 => by
    cases r1
    refine ⟨true, rfl, ?_⟩
    rw [if_pos rfl]
    exact ⟨O, Oc, E.mono s1, fun w H2 s2 r2 => k w H2 (s1.trans s2) r2⟩⟩
def tNoE : TE := fun _ _ _ => False
theorem pe_no {e : Expr} : PE X e tNoE := pe_never fun _ _ _ h => h
theorem ed_andF {f : Expr} {rest : List Expr} {pos : Pos} (ha : ED X G e (.d (.bool false))) : ED X G (.BoolOp .And (e :: f :: rest) pos) (.d (.bool false)) :=
  ed_of (pe_and ha pe_no) fun O Oc σ H Q E k => ⟨O, Oc, E, fun v H1 s1 r1 => by
    cases r1
    refine ⟨false, rfl, ?_⟩
    rw [if_neg Bool.false_ne_true]
    exact k _ H1 s1 (.bl false)⟩
theorem ed_and {f : Expr} {rest : List Expr} {pos : Pos} {c : Bool} (ha : ED X G e (.d (.bool b))) (hb : b = true → ED X G (.BoolOp .And (f :: rest) pos) (.d (.bool c))) : ED X G (.BoolOp .And (e :: f :: rest) pos) (.d (.bool (b && c))) := by
  cases b with
  | true => exact ed_andT ha (hb rfl)
  | false => exact ed_andF ha
theorem ed_not {pos : Pos} (ha : ED X G e (.d (.bool b))) : ED X G (.UnaryOp .Not e pos) (.d (.bool (!b))) :=
  ed_of (pe_not ha) fun O Oc σ H Q E k => ⟨O, Oc, E, fun v H1 s1 r1 => by
    cases r1
    exact ⟨b, rfl, k _ H1 s1 (.bl _)⟩⟩

/-! ### argument lists, displays -/
theorem ad_nil : AD X G [] [] := ad_of pa_nil fun O Oc σ H Q E k => k [] H (Same.refl H) trivial
theorem ad_cons (ha : ED X G e m) (hr : AD X G es ms) (hs : starEach (e :: es) X.env = (false, eval e X.env) :: starEach es X.env := by rfl) : AD X G (e :: es) (m :: ms) :=
  ad_of (pa_cons ha hr hs) fun O Oc σ H Q E k => ⟨O, Oc, E, fun v H1 s1 r1 => ⟨O, Oc, E.mono s1, fun vs H2 s2 r2 => k (v :: vs) H2 (s1.trans s2) ⟨rm_mono s2 r1, r2⟩⟩⟩
theorem rma_app {K : PySem.W.Frag} {W Wb : List Addr} {H : Hp} : ∀ {vs ws : List V} {ms ns : List Dm}, RmAll K W Wb H vs ms → RmAll K W Wb H ws ns → RmAll K W Wb H (vs ++ ws) (ms ++ ns)
  | [], _, [], _, _, b => b
  | _ :: _, _, _ :: _, _, ⟨h, t⟩, b => ⟨h, rma_app t b⟩
theorem rma_ofd {K : PySem.W.Frag} {W Wb : List Addr} {H : Hp} : ∀ {vs : List V} {ds : List PyData}, DaAll (Hm H W) vs ds → RmAll K W Wb H vs (ds.map Dm.d)
  | _, _, .nil => trivial
  | _, _, .cons h t => ⟨h, rma_ofd t⟩
/-- *e: e a list or a tuple -/
theorem ad_star {ds : List PyData} {pos : Pos} (ha : ED X G e (.d (.list ds)) ∨ ED X G e (.d (.tuple ds))) (hr : AD X G es ms) (hs : starEach (.Starred e pos :: es) X.env = (true, eval e X.env) :: starEach es X.env := by rfl) :
    AD X G (.Starred e pos :: es) (ds.map Dm.d ++ ms) := by
  rcases ha with ha | ha
  · refine ad_of (pa_star ha hr hs) fun O Oc σ H Q E k => ⟨O, Oc, E, fun v H1 s1 r1 => ?_⟩
    cases r1 with
    | lst h1 h2 => exact ⟨_, _, rfl, .inr (SqL.of (hm_get h1).2), O, Oc, E.mono s1, fun vs H2 s2 r2 => k _ H2 (s1.trans s2) (rma_app (rma_ofd (daa_mono (same_hm s2 fun _ h => h) h2)) r2)⟩
  · refine ad_of (pa_star ha hr hs) fun O Oc σ H Q E k => ⟨O, Oc, E, fun v H1 s1 r1 => ?_⟩
    cases r1 with
    | tup h1 h2 => exact ⟨_, _, rfl, .inl (SqT.of (hm_get h1).2), O, Oc, E.mono s1, fun vs H2 s2 r2 => k _ H2 (s1.trans s2) (rma_app (rma_ofd (daa_mono (same_hm s2 fun _ h => h) h2)) r2)⟩
theorem da_newT {H : Hp} {W : List Addr} {p : Addr} {vs : List V} {ds : List PyData} (hp : H p = none) (hW : ∀ a ∈ W, H a ≠ none) (r : DaAll (Hm H W) vs ds) : Da (Hm (upd H p (.tup vs)) W) (.ref p) (.tuple ds) :=
  .tup (hm_mk (fun z => hW p z hp) upd_same) (daa_mono (same_hm (same_new hp) fun _ h => h) r)
theorem da_newL {H : Hp} {W : List Addr} {p : Addr} {vs : List V} {ds : List PyData} (hp : H p = none) (hW : ∀ a ∈ W, H a ≠ none) (r : DaAll (Hm H W) vs ds) : Da (Hm (upd H p (.lst vs)) W) (.ref p) (.list ds) :=
  .lst (hm_mk (fun z => hW p z hp) upd_same) (daa_mono (same_hm (same_new hp) fun _ h => h) r)
theorem sz100 {n : Nat} (h : n ≤ 100000) : n ≤ sizeLine := Nat.le_trans h (by decide)
theorem sz100L {n : Nat} (h : n < 100000) : n < sizeLine := Nat.lt_of_lt_of_le h (by decide)
theorem ed_tup {ds : List PyData} {x1} {pos : Pos} (h : AD X G es ms) (hm : ms = ds.map Dm.d := by rfl) (hz : ds.length ≤ 100000 := by simp) : ED X G (.Tuple es x1 pos) (.d (.tuple ds)) := by
  subst hm
  refine ed_of (pe_tup h) fun O Oc σ H Q E k => ⟨O, Oc, E, fun vs H1 s1 r1 => ?_⟩
  have r2 := rma_d r1
  exact ⟨by rw [daa_len r2]; exact sz100 hz, fun p hp => k _ _ (s1.trans (same_new hp)) (da_newT hp (E.mono s1).inW r2)⟩
theorem ed_lst {ds : List PyData} {pos : Pos} (h : AD X G es ms) (hm : ms = ds.map Dm.d := by rfl) (hz : ds.length ≤ 100000 := by simp) : ED X G (.List es pos) (.d (.list ds)) := by
  subst hm
  refine ed_of (pe_lst h) fun O Oc σ H Q E k => ⟨O, Oc, E, fun vs H1 s1 r1 => ?_⟩
  have r2 := rma_d r1
  exact ⟨by rw [daa_len r2]; exact sz100 hz, fun p hp => k _ _ (s1.trans (same_new hp)) (da_newL hp (E.mono s1).inW r2)⟩

/-! ### items, slices -/
def IxD (X : Cx) (x y z : Dm) : Prop := ∃ r, IxR X r ∧ OpD X.K r x y z
theorem ed_ix {a b : Expr} {x y z : Dm} {pos : Pos} (ha : ED X G a x) (hb : ED X G b y) (h : IxD X x y z) (hs : PlainIx b := by exact fun _ _ => rfl) : ED X G (.Subscript a b pos) z := by
  obtain ⟨r, ho, hd⟩ := h
  exact ed_of (pe_ix ho ha hb hs) (op_run (a := a) (b := b) hd)
theorem daa_atI {H : Hp} {vs : List V} {ds : List PyData} {i : Int} {d : PyData} (r : DaAll H vs ds) (h : atI ds i = some d) : ∃ v, atI vs i = some v ∧ Da H v d := by
  unfold atI at h ⊢
  rw [daa_len r]
  cases q : ixN ds.length i with
  | none =>
    rw [q] at h
    cases h
  | some j =>
    rw [q] at h
    exact daa_get r h
theorem ix_l {xs : List PyData} {i : Int} {z : PyData} (h : atI xs i = some z) : IxD X (.d (.list xs)) (.d (.int i)) (.d z) := by
  refine ⟨_, ix_list, fun W H v w Q hW r1 r2 k => ?_⟩
  cases r1 with
  | lst h1 h2 =>
    cases r2
    obtain ⟨u, h3, h4⟩ := daa_atI h2 h
    exact ⟨_, _, i, u, rfl, rfl, SqL.of (hm_get h1).2, h3, k u H (Same.refl H) h4⟩
theorem ix_b {xs : List PyData} {i : Int} {z : PyData} (h : atI xs i = some z) : IxD X (.bor xs) (.d (.int i)) (.d z) := by
  refine ⟨_, ix_list, fun W H v w Q hW r1 r2 k => ?_⟩
  obtain ⟨l, vs, rfl, _, h1, h2⟩ := r1
  cases r2
  obtain ⟨u, h3, h4⟩ := daa_atI h2 h
  exact ⟨_, _, i, u, rfl, rfl, SqL.of h1, h3, k u H (Same.refl H) h4⟩
theorem ix_t {xs : List PyData} {i : Int} {z : PyData} (h : atI xs i = some z) : IxD X (.d (.tuple xs)) (.d (.int i)) (.d z) := by
  refine ⟨_, ix_tup, fun W H v w Q hW r1 r2 k => ?_⟩
  cases r1 with
  | tup h1 h2 =>
    cases r2
    obtain ⟨u, h3, h4⟩ := daa_atI h2 h
    exact ⟨_, _, i, u, rfl, rfl, SqT.of (hm_get h1).2, h3, k u H (Same.refl H) h4⟩
theorem ix_z {z : Str} {i : Int} {c : Nat} (h : atI z.cps.toList i = some c) (hz : z.length ≤ 100000) : IxD X (.d (.str z)) (.d (.int i)) (.d (.str ⟨#[c]⟩)) := by
  refine ⟨_, ix_str, fun W H v w Q hW r1 r2 k => ?_⟩
  cases r1
  cases r2
  exact ⟨z, i, c, rfl, rfl, sz100 hz, h, k _ H (Same.refl H) (.str _)⟩
/-- an item of the script -/
theorem ix_s {ns : List Int} {i n : Int} (h : atI ns i = some n) : IxD X (.scr ns) (.d (.int i)) (.d (.int n)) := by
  refine ⟨_, ix_list, fun W H v w Q hW r1 r2 k => ?_⟩
  obtain ⟨a, rfl, h1⟩ := r1
  cases r2
  have e : atI (ns.map V.int) i = some (.int n) := by
    unfold atI at h ⊢
    rw [List.length_map]
    cases q : ixN ns.length i with
    | none =>
      rw [q] at h
      cases h
    | some j =>
      rw [q] at h
      have h' : ns[j]? = some n := h
      show (ns.map V.int)[j]? = some (.int n)
      rw [List.getElem?_map, h'] <;> rfl
  exact ⟨_, _, i, _, rfl, rfl, Same.seq same_out h1, e, k _ H (Same.refl H) (.int n)⟩

def OpO (X : Cx) (G : List En) (e : Option Expr) (o : Option Int) : Prop := PO X e (fun σ H Q => ∃ O Oc, EnvR X.K O Oc σ H G ∧ ∀ H', Same H H' → Q o H')
theorem od_none : OpO X G none none := ⟨fun pins s σ H Q I ⟨O, Oc, E, k⟩ => po_none.run pins s σ H Q I (k H (Same.refl H))⟩
theorem od_some {i : Int} (h : ED X G e (.d (.int i))) : OpO X G (some e) (some i) := ⟨fun pins s σ H Q I ⟨O, Oc, E, k⟩ => (po_some h).run pins s σ H Q I ⟨O, Oc, E, fun v H1 s1 r1 => by
  cases r1
  exact ⟨i, rfl, k H1 s1⟩⟩⟩
/-- data's own slice -/
def cutP (xs : List PyData) (lo hi : Option Int) : List PyData := (xs.drop (HT.sIx xs.length 0 lo)).take (HT.sIx xs.length xs.length hi - HT.sIx xs.length 0 lo)
theorem daa_cut {H : Hp} {vs : List V} {ds : List PyData} (r : DaAll H vs ds) (lo hi : Option Int) : DaAll H (cutV vs lo hi) (cutP ds lo hi) := by
  unfold cutV cutP
  rw [daa_len r]
  exact daa_take _ (daa_drop _ r)
def SlD (X : Cx) (x : Dm) (lo hi : Option Int) (z : Dm) : Prop := ∃ r, SlR X r ∧ ∀ (W : List Addr) (H : Hp) (v : V) (Q : VK), (∀ a ∈ W, H a ≠ none) → Rm X.K W W H v x → (∀ u H', Same H H' → Rm X.K W W H' u z → Q u H') → r v lo hi H Q
theorem ed_sl {e : Expr} {x z : Dm} {lo hi : Option Expr} {l h : Option Int} {p2 pos : Pos} (he : ED X G e x) (hl : OpO X G lo l) (hh : OpO X G hi h) (hs : SlD X x l h z) : ED X G (.Subscript e (.Slice lo hi none p2) pos) z := by
  obtain ⟨r, ho, hd⟩ := hs
  exact ed_of (pe_slice ho he hl hh) fun O Oc σ H Q E k => ⟨O, Oc, E, fun v H1 s1 r1 => ⟨O, Oc, E.mono s1, fun H2 s2 => ⟨O, Oc, (E.mono s1).mono s2, fun H3 s3 =>
    hd (O ++ Oc) H3 v Q (((E.mono s1).mono s2).mono s3).inW (rm_mono (s2.trans s3) r1) fun u H4 s4 r4 => k u H4 (((s1.trans s2).trans s3).trans s4) r4⟩⟩⟩
theorem sl_l {xs ys : List PyData} {lo hi : Option Int} (hy : cutP xs lo hi = ys := by rfl) : SlD X (.d (.list xs)) lo hi (.d (.list ys)) := by
  subst hy
  refine ⟨_, sl_list, fun W H v Q hW r1 k => ?_⟩
  cases r1 with
  | lst h1 h2 => exact ⟨_, _, rfl, SqL.of (hm_get h1).2, fun p hp => k _ _ (same_new hp) (da_newL hp hW (daa_cut h2 lo hi))⟩
theorem cut_all {xs : List PyData} {lo hi : Option Int} (h : HT.sIx xs.length 0 lo = 0 ∧ HT.sIx xs.length xs.length hi = xs.length) : cutP xs lo hi = xs := by
  unfold cutP
  rw [h.1, h.2]
  simp
theorem sl_t {xs ys : List PyData} {lo hi : Option Int} (hy : cutP xs lo hi = ys := by rfl) : SlD X (.d (.tuple xs)) lo hi (.d (.tuple ys)) := by
  subst hy
  refine ⟨_, sl_tupA, fun W H v Q hW r1 k => ?_⟩
  cases r1 with
  | @tup a vs _ h1 h2 =>
    refine ⟨a, vs, rfl, SqT.of (hm_get h1).2, fun hw => ?_, fun _ p hp => k _ _ (same_new hp) (da_newT hp hW (daa_cut h2 lo hi))⟩
    rw [daa_len h2] at hw
    refine k _ H (Same.refl H) ?_
    rw [cut_all hw]
    exact .tup h1 h2
theorem sl_z {z : Str} {lo hi : Option Int} (hz : z.length ≤ 100000) : SlD X (.d (.str z)) lo hi (.d (.str (cutS z lo hi))) := by
  refine ⟨_, sl_str, fun W H v Q hW r1 k => ?_⟩
  cases r1
  exact ⟨z, rfl, sz100 hz, k _ H (Same.refl H) (.str _)⟩

/-! ### operators -/
section
variable {i j : Int} {c : Bool} {x y : Str} {xs ys : List PyData}
theorem bin_I {op : Operator} {C : Int → Int → Prop} {g : Int → Int → Int} (ho : OpR X (binaryOp op) (rI C fun i j => .int (g i j))) (hc : C i j) : BinD X op (.d (.int i)) (.d (.int j)) (.d (.int (g i j))) := by
  refine ⟨_, ho, fun W H v w Q hW r1 r2 k => ?_⟩
  cases r1
  cases r2
  exact ⟨i, j, rfl, rfl, hc, k _ H (Same.refl H) (.int _)⟩
theorem bin_I0 {op : Operator} {g : Int → Int → Int} (ho : OpR X (binaryOp op) (rI0 fun i j => .int (g i j))) : BinD X op (.d (.int i)) (.d (.int j)) (.d (.int (g i j))) := by
  refine ⟨_, ho, fun W H v w Q hW r1 r2 k => ?_⟩
  cases r1
  cases r2
  exact ⟨i, j, rfl, rfl, k _ H (Same.refl H) (.int _)⟩
theorem bin_add : BinD X .Add (.d (.int i)) (.d (.int j)) (.d (.int (i + j))) := bin_I0 (g := fun i j => i + j) op_add
theorem bin_sub : BinD X .Sub (.d (.int i)) (.d (.int j)) (.d (.int (i - j))) := bin_I0 (g := fun i j => i - j) op_sub
theorem bin_mul (h : CMul i j) : BinD X .Mult (.d (.int i)) (.d (.int j)) (.d (.int (i * j))) := bin_I (g := fun i j => i * j) op_mul h
theorem bin_mod (h : 0 < j) : BinD X .Mod (.d (.int i)) (.d (.int j)) (.d (.int (i % j))) := bin_I (C := fun _ j => 0 < j) (g := fun i j => i % j) op_mod h
theorem bin_div (h : 0 < j) (h2 : j < 1073741824) : BinD X .FloorDiv (.d (.int i)) (.d (.int j)) (.d (.int (i / j))) := bin_I (g := fun i j => i / j) op_fdiv ⟨h, h2⟩
theorem bin_pow (h : CPow i j) : BinD X .Pow (.d (.int i)) (.d (.int j)) (.d (.int (i ^ j.toNat))) := bin_I (g := fun i j => i ^ j.toNat) op_pow h
theorem bin_addS (h : x.length + y.length ≤ 100000) : BinD X .Add (.d (.str x)) (.d (.str y)) (.d (.str (x ++ y))) := by
  refine ⟨_, op_add_str, fun W H v w Q hW r1 r2 k => ?_⟩
  cases r1
  cases r2
  exact ⟨x, y, rfl, rfl, sz100 h, k _ H (Same.refl H) (.str _)⟩
theorem bin_addL (h : xs.length + ys.length ≤ 100000) : BinD X .Add (.d (.list xs)) (.d (.list ys)) (.d (.list (xs ++ ys))) := by
  refine ⟨_, op_cat, fun W H v w Q hW r1 r2 k => ?_⟩
  cases r1 with
  | lst h1 h2 =>
    cases r2 with
    | lst h3 h4 => exact ⟨_, _, _, _, rfl, rfl, (hm_get h1).2, (hm_get h3).2, by rw [daa_len h2, daa_len h4]; exact sz100 h, fun p hp => k _ _ (same_new hp) (da_newL hp hW (daa_app h2 h4))⟩
theorem bin_addT (h : xs.length + ys.length ≤ 100000) : BinD X .Add (.d (.tuple xs)) (.d (.tuple ys)) (.d (.tuple (xs ++ ys))) := by
  refine ⟨_, op_catA, fun W H v w Q hW r1 r2 k => ?_⟩
  cases r1 with
  | @tup a vs _ h1 h2 =>
    cases r2 with
    | @tup b ws _ h3 h4 =>
      refine ⟨a, b, vs, ws, rfl, rfl, SqT.of (hm_get h1).2, SqT.of (hm_get h3).2, by rw [daa_len h2, daa_len h4]; exact sz100 h, fun e => ?_, fun _ e => ?_, fun _ _ p hp => k _ _ (same_new hp) (da_newT hp hW (daa_app h2 h4))⟩
      · subst e
        cases h2
        exact k _ H (Same.refl H) (.tup h3 h4)
      · subst e
        cases h4
        rw [List.append_nil] at k
        exact k _ H (Same.refl H) (.tup h1 h2)
theorem bin_rep (h0 : 0 ≤ j) (h1 : xs.length * j.toNat ≤ 100000) (h2 : j < 2 ^ 63) : BinD X .Mult (.d (.list xs)) (.d (.int j)) (.d (.list (List.replicate j.toNat xs).flatten)) := by
  refine ⟨_, op_rep, fun W H v w Q hW r1 r2 k => ?_⟩
  cases r1 with
  | lst h3 h4 =>
    cases r2
    exact ⟨_, j, _, rfl, rfl, (hm_get h3).2, by omega, h2, by rw [daa_len h4]; exact sz100 h1, fun p hp => k _ _ (same_new hp) (da_newL hp hW (daa_rep h4 _))⟩
theorem cmp_I0 {op : CmpOp} {g : Int → Int → Bool} (ho : OpR X (compareOp op) (rI0 fun i j => .bl (g i j))) : CmpD X op (.d (.int i)) (.d (.int j)) (g i j) := by
  refine ⟨_, ho, fun W H v w Q hW r1 r2 k => ?_⟩
  cases r1
  cases r2
  exact ⟨i, j, rfl, rfl, k _ H (Same.refl H) (.bl _)⟩
theorem cmp_lt : CmpD X .Lt (.d (.int i)) (.d (.int j)) (decide (i < j)) := cmp_I0 (g := fun i j => decide (i < j)) op_lt
theorem cmp_le : CmpD X .LtE (.d (.int i)) (.d (.int j)) (decide (i ≤ j)) := cmp_I0 (g := fun i j => decide (i ≤ j)) op_le
theorem cmp_gt : CmpD X .Gt (.d (.int i)) (.d (.int j)) (decide (j < i)) := cmp_I0 (g := fun i j => decide (j < i)) op_gt
theorem cmp_ge : CmpD X .GtE (.d (.int i)) (.d (.int j)) (decide (j ≤ i)) := cmp_I0 (g := fun i j => decide (j ≤ i)) op_ge
theorem cmp_eqI : CmpD X .Eq (.d (.int i)) (.d (.int j)) (decide (i = j)) := by
  refine ⟨_, op_eq, fun W H v w Q hW r1 r2 k => ?_⟩
  cases r1
  cases r2
  refine ⟨rfl, k _ H (Same.refl H) ?_⟩
  have e : decide (V.int i = V.int j) = decide (i = j) := by simp
  rw [e]
  exact .bl _
theorem cmp_neI : CmpD X .NotEq (.d (.int i)) (.d (.int j)) (!decide (i = j)) := by
  refine ⟨_, op_ne, fun W H v w Q hW r1 r2 k => ?_⟩
  cases r1
  cases r2
  refine ⟨rfl, k _ H (Same.refl H) ?_⟩
  have e : decide (V.int i = V.int j) = decide (i = j) := by simp
  rw [e]
  exact .bl _
theorem cmp_neNI : CmpD X .NotEq (.d .none) (.d (.int j)) true := by
  refine ⟨_, op_ne, fun W H v w Q hW r1 r2 k => ?_⟩
  cases r1
  cases r2
  exact ⟨rfl, k _ H (Same.refl H) (.bl _)⟩
theorem cmp_eqS : CmpD X .Eq (.d (.str x)) (.d (.str y)) (decide (x = y)) := by
  refine ⟨_, op_eq, fun W H v w Q hW r1 r2 k => ?_⟩
  cases r1
  cases r2
  refine ⟨rfl, k _ H (Same.refl H) ?_⟩
  have e : decide (V.str x = V.str y) = decide (x = y) := by simp
  rw [e]
  exact .bl _
theorem cmp_ltS : CmpD X .Lt (.d (.str x)) (.d (.str y)) (decide (x.cps.toList < y.cps.toList)) := by
  refine ⟨_, op_lt_str, fun W H v w Q hW r1 r2 k => ?_⟩
  cases r1
  cases r2
  exact ⟨x, y, rfl, rfl, k _ H (Same.refl H) (.bl _)⟩
theorem cmp_isN {z : PyData} : CmpD X .Is (.d z) (.d .none) (match z with | .none => true | _ => false) := by
  refine ⟨_, op_isN, fun W H v w Q hW r1 r2 k => ?_⟩
  cases r2
  refine ⟨rfl, k _ H (Same.refl H) ?_⟩
  cases r1 <;> exact .bl _
theorem cmp_eqD {d e : PyData} (hu : X.A.units + 64 < cLine) (h1 : SeqAt.shaped d = true) (h2 : SeqAt.shaped e = true) : CmpD X .Eq (.d d) (.d e) (PyData.eqv d e) :=
  ⟨_, op_eqD hu, fun W H v w Q hW r1 r2 k => ⟨d, e, da_p X.K (da_mono same_out r1), da_p X.K (da_mono same_out r2), h1, h2, k _ H (Same.refl H) (.bl _)⟩⟩
theorem cmp_neD {d e : PyData} (hu : X.A.units + 64 < cLine) (h1 : SeqAt.shaped d = true) (h2 : SeqAt.shaped e = true) : CmpD X .NotEq (.d d) (.d e) (!PyData.eqv d e) :=
  ⟨_, op_neD hu, fun W H v w Q hW r1 r2 k => ⟨d, e, da_p X.K (da_mono same_out r1), da_p X.K (da_mono same_out r2), h1, h2, k _ H (Same.refl H) (.bl _)⟩⟩
theorem cmp_inC {n : Nat} {z : Str} : CmpD X .In (.d (.str ⟨#[n]⟩)) (.d (.str z)) (decide (n ∈ z.cps.toList)) := by
  refine ⟨_, op_in_sign, fun W H v w Q hW r1 r2 k => ?_⟩
  cases r1
  cases r2
  exact ⟨n, z, rfl, rfl, k _ H (Same.refl H) (.bl _)⟩
theorem cmp_ninC {n : Nat} {z : Str} : CmpD X .NotIn (.d (.str ⟨#[n]⟩)) (.d (.str z)) (!decide (n ∈ z.cps.toList)) := by
  refine ⟨_, op_notIn_sign, fun W H v w Q hW r1 r2 k => ?_⟩
  cases r1
  cases r2
  exact ⟨n, z, rfl, rfl, k _ H (Same.refl H) (.bl _)⟩
/-- flat data -/
def flatP : PyData → Bool
  | .none | .bool _ | .int _ | .str _ => true
  | _ => false
def eqP : PyData → PyData → Bool
  | .none, .none => true
  | .bool a, .bool b => a == b
  | .bool a, .int b => (if a then 1 else 0) == b
  | .int a, .bool b => a == (if b then 1 else 0)
  | .int a, .int b => a == b
  | .str a, .str b => a == b
  | _, _ => false
theorem da_flat {H : Hp} {v : V} {d : PyData} (h : Da H v d) (f : flatP d = true) : flatV v = true := by
  cases h with
  | lst _ _ => cases f
  | tup _ _ => cases f
  | _ => rfl
theorem daa_flat {H : Hp} : ∀ {vs : List V} {ds : List PyData}, DaAll H vs ds → ds.all flatP = true → vs.all flatV = true
  | _, _, .nil, _ => rfl
  | _, _, .cons h t, f => by
    rw [List.all_cons, Bool.and_eq_true] at f ⊢
    exact ⟨da_flat h f.1, daa_flat t f.2⟩
theorem da_eqV {H H2 : Hp} {v w : V} {d e : PyData} (h : Da H v d) (h2 : Da H2 w e) (f : flatP d = true) (g : flatP e = true) : eqV v w = eqP d e := by
  cases h <;> cases h2 <;> first | rfl | (cases f) | (cases g)
theorem daa_inV {H H2 : Hp} {w : V} {e : PyData} (h2 : Da H2 w e) (g : flatP e = true) : ∀ {vs : List V} {ds : List PyData}, DaAll H vs ds → ds.all flatP = true → inV w vs = ds.any fun z => eqP z e
  | _, _, .nil, _ => rfl
  | _, _, .cons h t, f => by
    rw [List.all_cons, Bool.and_eq_true] at f
    show (eqV _ _ || inV w _) = (eqP _ _ || _)
    rw [da_eqV h h2 f.1 g, daa_inV h2 g t f.2] <;> rfl
theorem cmp_inF {z : PyData} (neg : Bool) {op : CmpOp} (ho : OpR X (compareOp op) (rIn X.K neg)) (hz : flatP z = true) (hf : xs.all flatP = true) : CmpD X op (.d z) (.d (.list xs)) (if neg then !(xs.any fun w => eqP w z) else xs.any fun w => eqP w z) := by
  refine ⟨_, ho, fun W H v w Q hW r1 r2 k => ?_⟩
  cases r2 with
  | lst h1 h2 =>
    refine ⟨_, _, rfl, .inl (SqL.of (hm_get h1).2), da_flat r1 hz, daa_flat h2 hf, k _ H (Same.refl H) ?_⟩
    rw [daa_inV r1 hz h2 hf]
    exact .bl _
theorem cmp_inFT {z : PyData} (neg : Bool) {op : CmpOp} (ho : OpR X (compareOp op) (rIn X.K neg)) (hz : flatP z = true) (hf : xs.all flatP = true) : CmpD X op (.d z) (.d (.tuple xs)) (if neg then !(xs.any fun w => eqP w z) else xs.any fun w => eqP w z) := by
  refine ⟨_, ho, fun W H v w Q hW r1 r2 k => ?_⟩
  cases r2 with
  | tup h1 h2 =>
    refine ⟨_, _, rfl, .inr (SqT.of (hm_get h1).2), da_flat r1 hz, daa_flat h2 hf, k _ H (Same.refl H) ?_⟩
    rw [daa_inV r1 hz h2 hf]
    exact .bl _
theorem cmp_inL {z : PyData} (hz : flatP z = true) (hf : xs.all flatP = true) : CmpD X .In (.d z) (.d (.list xs)) (xs.any fun w => eqP w z) := cmp_inF false op_in_seq hz hf
theorem cmp_ninL {z : PyData} (hz : flatP z = true) (hf : xs.all flatP = true) : CmpD X .NotIn (.d z) (.d (.list xs)) (!(xs.any fun w => eqP w z)) := cmp_inF true op_notIn_seq hz hf
theorem cmp_ninT {z : PyData} (hz : flatP z = true) (hf : xs.all flatP = true) : CmpD X .NotIn (.d z) (.d (.tuple xs)) (!(xs.any fun w => eqP w z)) := cmp_inFT true op_notIn_seq hz hf
/-- - n -/
theorem ed_neg {a : Expr} {pos : Pos} (h : ED X G a (.d (.int i))) : ED X G (.UnaryOp .USub a pos) (.d (.int (-i))) :=
  ed_of (pe_un un_neg h) fun O Oc σ H Q E k => ⟨O, Oc, E, fun v H1 s1 r1 => by
    cases r1
    exact ⟨i, rfl, k _ H1 s1 (.int _)⟩⟩
end
end
end Tw

set_option maxHeartbeats 4000000
namespace Tw
open PySem PySem.Spec L2
open PyProof.Rows hiding St

/-! ### built-ins -/
def CallD (X : Cx) (f : Value) (ms : List Dm) (z : Dm) : Prop := ∃ r, CallR X f r ∧ ∀ (W : List Addr) (H : Hp) (vs : List V) (Q : VK), (∀ a ∈ W, H a ≠ none) → RmAll X.K W W H vs ms → (∀ u H', Same H H' → Rm X.K W W H' u z → Q u H') → r vs H Q
section
variable {X : Cx} {G : List En} {e : Expr} {m : Dm} {b : Bool} {es : List Expr} {ms : List Dm} {z : Dm}
theorem ed_callB {x : Str} {id : String} {p pos : Pos} (ha : AD X G (e :: es) ms) (hc : CallD X (.builtin id) ms z) (hm : X.mg x = none) (hv : bootBuiltins x = some (.builtin id)) (hg : Gl X x := by rfl) (hn : x ≠ "__name__" := by decide) (hdb : (x == ("__debug__" : Str)) = false := by decide)
    (he : starEach (e :: es) X.env = (false, eval e X.env) :: starEach es X.env := by rfl) (hpl : (backTo pos (starEach es X.env)).any (·.1) = false := by rfl) : ED X G (.Call (.Name x p) (e :: es) [] pos) z := by
  obtain ⟨r, ho, hd⟩ := hc
  exact ed_of (pe_callB ho hg hm hv ha hn hdb he hpl) fun O Oc σ H Q E k => ⟨O, Oc, E, fun vs H1 s1 r1 => hd (O ++ Oc) H1 vs Q (E.mono s1).inW r1 fun u H2 s2 r2 => k u H2 (s1.trans s2) r2⟩
theorem ed_callTy {x : Str} {T : String} {p pos : Pos} (ha : AD X G (e :: es) ms) (hc : CallD X (.type T) ms z) (hm : X.mg x = none) (hv : bootBuiltins x = some (.type T)) (hg : Gl X x := by rfl) (hn : x ≠ "__name__" := by decide) (hdb : (x == ("__debug__" : Str)) = false := by decide)
    (he : starEach (e :: es) X.env = (false, eval e X.env) :: starEach es X.env := by rfl) (hpl : (backTo pos (starEach es X.env)).any (·.1) = false := by rfl) : ED X G (.Call (.Name x p) (e :: es) [] pos) z := by
  obtain ⟨r, ho, hd⟩ := hc
  exact ed_of (pe_callTy ho hg hm hv ha hn hdb he hpl) fun O Oc σ H Q E k => ⟨O, Oc, E, fun vs H1 s1 r1 => hd (O ++ Oc) H1 vs Q (E.mono s1).inW r1 fun u H2 s2 r2 => k u H2 (s1.trans s2) r2⟩
theorem rma1 {K : PySem.W.Frag} {W Wb : List Addr} {H : Hp} {vs : List V} {m : Dm} (h : RmAll K W Wb H vs [m]) : ∃ v, vs = [v] ∧ Rm K W Wb H v m := by
  match vs, h with
  | [v], h => exact ⟨v, rfl, h.1⟩
theorem rma2 {K : PySem.W.Frag} {W Wb : List Addr} {H : Hp} {vs : List V} {m n : Dm} (h : RmAll K W Wb H vs [m, n]) : ∃ v w, vs = [v, w] ∧ Rm K W Wb H v m ∧ Rm K W Wb H w n := by
  match vs, h with
  | [v, w], h => exact ⟨v, w, rfl, h.1, h.2.1⟩
theorem len_l {xs : List PyData} : CallD X (.builtin "len") [.d (.list xs)] (.d (.int xs.length)) := by
  refine ⟨_, call_len_seq, fun W H vs Q hW r k => ?_⟩
  obtain ⟨v, rfl, r1⟩ := rma1 r
  cases r1 with
  | lst h1 h2 => exact ⟨_, _, rfl, .inl (SqL.of (hm_get h1).2), by rw [daa_len h2]; exact k _ H (Same.refl H) (.int _)⟩
theorem len_t {xs : List PyData} : CallD X (.builtin "len") [.d (.tuple xs)] (.d (.int xs.length)) := by
  refine ⟨_, call_len_seq, fun W H vs Q hW r k => ?_⟩
  obtain ⟨v, rfl, r1⟩ := rma1 r
  cases r1 with
  | tup h1 h2 => exact ⟨_, _, rfl, .inr (SqT.of (hm_get h1).2), by rw [daa_len h2]; exact k _ H (Same.refl H) (.int _)⟩
theorem len_b {xs : List PyData} : CallD X (.builtin "len") [.bor xs] (.d (.int xs.length)) := by
  refine ⟨_, call_len_seq, fun W H vs Q hW r k => ?_⟩
  obtain ⟨v, rfl, l, ws, rfl, _, h1, h2⟩ := rma1 r
  exact ⟨_, _, rfl, .inl (SqL.of h1), by rw [daa_len h2]; exact k _ H (Same.refl H) (.int _)⟩
theorem len_s {ns : List Int} : CallD X (.builtin "len") [.scr ns] (.d (.int ns.length)) := by
  refine ⟨_, call_len_seq, fun W H vs Q hW r k => ?_⟩
  obtain ⟨v, rfl, a, rfl, h1⟩ := rma1 r
  exact ⟨_, _, rfl, .inl (Same.seq same_out h1), by rw [List.length_map]; exact k _ H (Same.refl H) (.int _)⟩
theorem len_z {x : Str} (h : x.length ≤ 100000) : CallD X (.builtin "len") [.d (.str x)] (.d (.int x.length)) := by
  refine ⟨_, call_len_str, fun W H vs Q hW r k => ?_⟩
  obtain ⟨v, rfl, r1⟩ := rma1 r
  cases r1
  exact ⟨x, rfl, sz100 h, k _ H (Same.refl H) (.int _)⟩
theorem int_i {i : Int} : CallD X (.type "int") [.d (.int i)] (.d (.int i)) := by
  refine ⟨_, call_int1, fun W H vs Q hW r k => ?_⟩
  obtain ⟨v, rfl, r1⟩ := rma1 r
  cases r1
  exact .inl ⟨i, rfl, k _ H (Same.refl H) (.int i)⟩
theorem str_i {i : Int} (h : i.natAbs.log2 < 1920) : CallD X (.type "str") [.d (.int i)] (.d (.str (toString i))) := by
  refine ⟨_, call_str_int, fun W H vs Q hW r k => ?_⟩
  obtain ⟨v, rfl, r1⟩ := rma1 r
  cases r1
  exact ⟨i, rfl, h, k _ H (Same.refl H) (.str _)⟩
theorem tup_l {xs : List PyData} : CallD X (.type "tuple") [.d (.list xs)] (.d (.tuple xs)) := by
  refine ⟨_, call_tuple_of, fun W H vs Q hW r k => ?_⟩
  obtain ⟨v, rfl, r1⟩ := rma1 r
  cases r1 with
  | lst h1 h2 => exact ⟨_, _, rfl, .inl ⟨SqL.of (hm_get h1).2, fun p hp => k _ _ (same_new hp) (da_newT hp hW h2)⟩⟩
theorem tup_b {xs : List PyData} : CallD X (.type "tuple") [.bor xs] (.d (.tuple xs)) := by
  refine ⟨_, call_tuple_of, fun W H vs Q hW r k => ?_⟩
  obtain ⟨v, rfl, l, ws, rfl, _, h1, h2⟩ := rma1 r
  exact ⟨_, _, rfl, .inl ⟨SqL.of h1, fun p hp => k _ _ (same_new hp) (da_newT hp hW h2)⟩⟩
theorem lst_l {xs : List PyData} : CallD X (.type "list") [.d (.list xs)] (.d (.list xs)) := by
  refine ⟨_, call_list_of, fun W H vs Q hW r k => ?_⟩
  obtain ⟨v, rfl, r1⟩ := rma1 r
  cases r1 with
  | lst h1 h2 => exact ⟨_, _, rfl, .inl (SqL.of (hm_get h1).2), fun p hp => k _ _ (same_new hp) (da_newL hp hW h2)⟩
theorem lst_t {xs : List PyData} : CallD X (.type "list") [.d (.tuple xs)] (.d (.list xs)) := by
  refine ⟨_, call_list_of, fun W H vs Q hW r k => ?_⟩
  obtain ⟨v, rfl, r1⟩ := rma1 r
  cases r1 with
  | tup h1 h2 => exact ⟨_, _, rfl, .inr (SqT.of (hm_get h1).2), fun p hp => k _ _ (same_new hp) (da_newL hp hW h2)⟩

/-! ### isinstance -/
def tyP : PyData → String
  | .none => "NoneType"
  | .bool _ => "bool"
  | .int _ => "int"
  | .str _ => "str"
  | .list _ => "list"
  | .tuple _ => "tuple"
  | .dict _ => "dict"
theorem da_ty {K : PySem.W.Frag} {H : Hp} {v : V} {d : PyData} (h : Da H v d) : TyX K H v (.type (tyP d)) := by
  cases h with
  | non => exact .base .non
  | bl b => exact .base (.bl b)
  | int i => exact .base (.int i)
  | str x => exact .base (.str x)
  | lst h _ => exact .base (.lst h)
  | tup h _ => exact .base (.tup h)
theorem ed_isi {d : PyData} {T : String} {y : Str} {p p2 pos : Pos} (h : ED X G e (.d d)) (hk : kitB (tyP d) T = some b) (hm : X.mg "isinstance" = none) (hmT : X.mg y = none) (hv : bootBuiltins y = some (.type T)) (hg : Gl X "isinstance" := by rfl) (hgy : Gl X y := by rfl)
    (hn : y ≠ "__name__" := by decide) (hdb : (y == ("__debug__" : Str)) = false := by decide) (hs : starEach [e, .Name y p2] X.env = (false, eval e X.env) :: starEach [.Name y p2] X.env := by rfl) : ED X G (.Call (.Name "isinstance" p) [e, .Name y p2] [] pos) (.d (.bool b)) :=
  ed_of (pe_callB call_isi hg hm PyProof.Rows.boot_isinstance (pa_cons h (pa_cons (pe_bltn (v := .ty T) hgy hmT hv rfl hn hdb) pa_nil) hs) (by decide) (by decide) hs) fun O Oc σ H Q E k => ⟨O, Oc, E, fun v H1 s1 r1 =>
    ⟨v, .ty T, _, _, b, rfl, .ty T, da_ty (da_mono same_out r1), kit_ty hk, k _ H1 s1 (.bl b)⟩⟩

/-! ### a def's promise by data -/
def spD (K : PySem.W.Frag) (R : List Dm → PyData → Prop) : Sp := fun vs H Q _ => ∃ W ms d, (∀ a ∈ W, H a ≠ none) ∧ RmAll K W W H vs ms ∧ R ms d ∧ ∀ v H', Same H H' → Da (Hm H' W) v d → Q v H'
structure FD (P : Program) (w : World) (K : PySem.W.Frag) (mg : Str → Option Value) (base : Heap) (k : Nat) (x : Str) (ps : List Str) (R : List Dm → PyData → Prop) : Prop where
  ex : ∃ f fd, FnOk P w K mg base CX0 k f fd ps (spD K R) ∧ mg x = some (.ref f) ∧ PySem.W.keepIn K (.ref f) = true ∧ Binds K fd ps []
theorem FD.mono {P : Program} {w : World} {K : PySem.W.Frag} {mg : Str → Option Value} {base : Heap} {j k : Nat} {x : Str} {ps : List Str} {R : List Dm → PyData → Prop} (F : FD P w K mg base j x ps R) (h : j ≤ k) : FD P w K mg base k x ps R :=
  let ⟨f, fd, a, b, c, d⟩ := F.ex; ⟨f, fd, a.mono h, b, c, d⟩
theorem FD.imp {P : Program} {w : World} {K : PySem.W.Frag} {mg : Str → Option Value} {base : Heap} {k : Nat} {x : Str} {ps : List Str} {R R' : List Dm → PyData → Prop} (F : FD P w K mg base k x ps R) (h : ∀ ms d, R' ms d → R ms d) : FD P w K mg base k x ps R' :=
  let ⟨f, fd, a, b, c, d⟩ := F.ex; ⟨f, fd, a.imp fun vs H Q E ⟨W, ms, z, h1, h2, h3, h4⟩ => ⟨W, ms, z, h1, h2, h _ _ h3, h4⟩, b, c, d⟩
theorem sp_use {K : PySem.W.Frag} {R : List Dm → PyData → Prop} {d : PyData} (hR : R ms d) : ∀ O Oc σ H Q, EnvR K O Oc σ H G → (∀ v H', Same H H' → Rm K (O ++ Oc) (O ++ Oc) H' v (.d d) → Q v H') → ∀ E : XK, tAs K G ms σ H fun vs H1 => spD K R (vs ++ []) H1 Q E :=
  fun O Oc σ H Q E k _ => ⟨O, Oc, E, fun vs H1 s1 r1 => ⟨O ++ Oc, ms, d, (E.mono s1).inW, by rw [List.append_nil]; exact r1, hR, fun v H2 s2 r2 => k v H2 (s1.trans s2) r2⟩⟩
theorem ed_call {x : Str} {k : Nat} {ps : List Str} {R : List Dm → PyData → Prop} {d : PyData} {p pos : Pos} (F : FD X.prog X.w X.K X.mg X.base k x ps R) (hr : Room k X.A) (ha : AD X G (e :: es) ms) (hR : R ms d) (hg : Gl X x := by rfl)
    (hdb : (x == ("__debug__" : Str)) = false := by decide) (he : starEach (e :: es) X.env = (false, eval e X.env) :: starEach es X.env := by rfl) (hpl : (backTo pos (starEach es X.env)).any (·.1) = false := by rfl) : ED X G (.Call (.Name x p) (e :: es) [] pos) (.d d) := by
  obtain ⟨f, fd, F1, hm, hk, hb⟩ := F.ex
  exact ed_of (pe_call F1 hr hg hm hk hb .nil pass0 ha hdb he hpl) fun O Oc σ H Q E q => sp_use hR O Oc σ H Q E q _
/-- f(e, *xs) -/
theorem ed_callS {x : Str} {k : Nat} {ps : List Str} {R : List Dm → PyData → Prop} {d : PyData} {p pos : Pos} (F : FD X.prog X.w X.K X.mg X.base k x ps R) (hr : Room k X.A) (ha : AD X G (e :: es) ms) (hR : R ms d) (hg : Gl X x := by rfl)
    (hdb : (x == ("__debug__" : Str)) = false := by decide) (he : starEach (e :: es) X.env = (false, eval e X.env) :: starEach es X.env := by rfl) (hst : (backTo pos (starEach es X.env)).any (·.1) = true := by rfl) : ED X G (.Call (.Name x p) (e :: es) [] pos) (.d d) := by
  obtain ⟨f, fd, F1, hm, hk, hb⟩ := F.ex
  refine ⟨fun pins s σ H Q I ⟨O, Oc, E, q⟩ => ?_⟩
  refine wpAny_Call_Name_kw (ld_glob I hg hm ?_ hdb)
  refine PySem.W.callWith_S2 (h₀ := X.base) I.ok.mod.kin hk (thn (ha.run pos pins s σ H _ I (sp_use hR O Oc σ H Q E q E0)) fun us s1 ⟨vs, H1, I1, r, z⟩ => ⟨I1.kIn, ?_⟩) he hst
  exact run_fn F1 hr hb .nil pass0 I1 r z

/-! ### statements -/
structure Ou where
  nx : List En → Prop
  rt : PyData → Prop
  bk : List En → Prop := fun _ => False
  ct : List En → Prop := fun _ => False
def tS (K : PySem.W.Frag) (G : List En) (o : Ou) : TS := fun D σ H => ∃ B O Oc, Same B (Hm H O) ∧ EnvR K O Oc σ H G ∧
  (∀ σ' H' G' O', o.nx G' → Same B (Hm H' O') → EnvR K O' Oc σ' H' G' → D.nx σ' H') ∧ (∀ v H' d, o.rt d → Same B H' → Da (Hm H' Oc) v d → D.rt v H') ∧
  (∀ σ' H' G' O', o.bk G' → Same B (Hm H' O') → EnvR K O' Oc σ' H' G' → D.bk σ' H') ∧ (∀ σ' H' G' O', o.ct G' → Same B (Hm H' O') → EnvR K O' Oc σ' H' G' → D.ct σ' H')
abbrev SD (X : Cx) (G : List En) (st : Stmt) (o : Ou) : Prop := PS X st (tS X.K G o)
abbrev BD (X : Cx) (G : List En) (sts : List Stmt) (o : Ou) : Prop := PSs X sts (tS X.K G o)
def Ou.ret (d : PyData) : Ou := { nx := fun _ => d = .none, rt := fun e => e = d }
variable {o : Ou} {st : Stmt} {rest : List Stmt} {te : TE}
theorem bd_fam {α : Type} {sts : List Stmt} {t : α → TS} (h : ∀ a, PSs X sts (t a)) : PSs X sts (fun D σ H => ∃ a, t a D σ H) := ⟨fun pins s σ H D I ⟨a, q⟩ => (h a).run pins s σ H D I q⟩
theorem bd_weak {sts : List Stmt} {t u : TS} (h : PSs X sts t) (w : ∀ D σ H, u D σ H → t D σ H) : PSs X sts u := ⟨fun pins s σ H D I q => h.run pins s σ H D I (w D σ H q)⟩
theorem bd_nil (h : o.nx G) : BD X G [] o := bd_weak pss_nil fun D σ H ⟨B, O, Oc, hB, E, k, _⟩ => k σ H G O h hB E
/-- code that is not come to -/
theorem bd_no {sts : List Stmt} (h : False) : BD X G sts o := h.elim
theorem sd_weak {t u : TS} (h : PS X st t) (w : ∀ D σ H, u D σ H → t D σ H) : PS X st u := ⟨fun pins s σ H D I q => h.run pins s σ H D I (w D σ H q)⟩
/-- one statement, then the rest whatever it leaves -/
theorem bd_cons {N : List En → Prop} (h : SD X G st { o with nx := N }) (hr : ∀ G', N G' → BD X G' rest o) : BD X G (st :: rest) o := by
  have h2 : PSs X rest (fun D σ H => ∃ a : { G' : List En // N G' }, tS X.K a.1 o D σ H) := bd_fam fun a => hr a.1 a.2
  refine bd_weak (pss_cons h h2) fun D σ H ⟨B, O, Oc, hB, E, k1, k2, k3, k4⟩ => ⟨B, O, Oc, hB, E, fun σ' H' G' O' n hB' E' => ?_, k2, k3, k4⟩
  exact ⟨⟨G', n⟩, B, O', Oc, hB', E', k1, k2, k3, k4⟩
/-- a list of the body's own becomes a thing like others -/
theorem bd_free (i : Nat) {ds : List PyData} {sts : List Stmt} (h : BD X (G.set i (.val (.d (.list ds)))) sts o) (h0 : G[i]? = some (.own ds) := by rfl) : BD X G sts o :=
  bd_weak h fun D σ H ⟨B, O, Oc, hB, E, k⟩ => by
    obtain ⟨O', sub, E'⟩ := E.free_own h0
    exact ⟨B, O', Oc, hB.trans (same_hm (Same.refl H) sub), E', k⟩
def isD : Dm → Bool
  | .d _ => true
  | .sig _ => true
  | .der _ _ _ => true
  | _ => false
theorem rm_in {K : PySem.W.Frag} {W Wb Wb' : List Addr} {H : Hp} {v : V} {m : Dm} (h : Rm K W Wb H v m) (i : isD m = true) : Rm K W Wb' H v m := by
  cases m with
  | d x => exact h
  | sig ss => exact h
  | der l p ss => exact h
  | _ => cases i
/-- x = e -/
theorem bd_set (i : Nat) {x : Str} {pos pos' : Pos} {e : Expr} {m : Dm} (he : ED X G e m) (hr : BD X (G.set i (.val m)) rest o) (hN : X.N.Nodup) (hi : X.N[i]? = some x := by rfl) (hx : Loc X.env.scope x := by first | exact Or.inl rfl | exact Or.inr rfl) (hm : isD m = true := by rfl)
    (hs : swapsWith e (some (.Name x pos')) pos.line X.env = pure false := by rfl) (hf : X.fn x = true ∨ X.env.scope.names.lookup x = some .local := by first | exact .inl rfl | exact .inr rfl | assumption) : BD X G (.Assign [.Name x pos'] e pos :: rest) o := by
  refine bd_weak (pss_cons (ps_set hN hi hx he hs hf) hr) fun D σ H ⟨B, O, Oc, hB, E, k⟩ => ⟨O, Oc, E, fun v H1 s1 r1 => ⟨B, O, Oc, ?_, (E.mono s1).set_val (rm_in r1 hm), k⟩⟩
  exact hB.trans (same_hm s1 fun _ h => h)
/-- x = [e, ..]: the body's own -/
theorem bd_setO (i : Nat) {x : Str} {pos pos' p3 : Pos} {ds : List PyData} (ha : AD X G es ms) (hr : BD X (G.set i (.own ds)) rest o) (hN : X.N.Nodup) (hi : X.N[i]? = some x := by rfl) (hx : Loc X.env.scope x := by first | exact Or.inl rfl | exact Or.inr rfl) (hm : ms = ds.map Dm.d := by rfl) (hz : ds.length ≤ 100000 := by simp)
    (hs : swapsWith (.List es p3) (some (.Name x pos')) pos.line X.env = pure false := by rfl) (hf : X.fn x = true ∨ X.env.scope.names.lookup x = some .local := by first | exact .inl rfl | exact .inr rfl | assumption) : BD X G (.Assign [.Name x pos'] (.List es p3) pos :: rest) o := by
  subst hm
  refine bd_weak (pss_cons (ps_set hN hi hx (pe_lst ha) hs hf) hr) fun D σ H ⟨B, O, Oc, hB, E, k⟩ => ⟨O, Oc, E, fun vs H1 s1 r1 => ?_⟩
  have r2 := rma_d r1
  refine ⟨by rw [daa_len r2]; exact sz100 hz, fun p hp => ⟨B, p :: O, Oc, ?_, (E.mono s1).set_own hp r2, k⟩⟩
  rw [hm_cons hp]
  exact hB.trans (same_hm s1 fun _ h => h)
/-- x.append(e), x the body's own -/
theorem bd_app (i : Nat) {x : Str} {ds : List PyData} {d : PyData} {p1 apos cpos pos : Pos} (he : ED X G e (.d d)) (hr : BD X (G.set i (.own (ds ++ [d]))) rest o) (h0 : G[i]? = some (.own ds) := by rfl) (hz : ds.length < 100000 := by simp) (hi : X.N[i]? = some x := by rfl)
    (hv : Vis X.env.scope x := by first | exact Or.inl rfl | exact Or.inr (Or.inl rfl) | exact Or.inr (Or.inr rfl)) (hd : (x == ("__debug__" : Str)) = false := by decide) (hcd : (x == ("__classdict__" : Str)) = false := by decide)
    (hbase : attributeBase (.Name x p1) "append" X.env (eval (.Name x p1) X.env) = eval (.Name x p1) X.env := by rfl)
    (hfew : ((backTo cpos (starEach [e] X.env)).all (fun x => !x.1) && (backToKw cpos (keywordEach [] X.env)).all (fun x => x.1.isSome) && decide (([e] : List Expr).length + ([] : List Keyword).length + (if ([] : List Keyword).isEmpty then 0 else 1) < 30)) = true := by rfl)
    (hline : (apos.endLine == cpos.line) = true := by rfl) (hs : starEach [e] X.env = [(false, eval e X.env)] := by rfl) (hsw : swapsWith (.Call (.Attribute (.Name x p1) "append" apos) [e] [] cpos) none pos.line X.env = pure false := by rfl) :
    BD X G (.Expr (.Call (.Attribute (.Name x p1) "append" apos) [e] [] cpos) pos :: rest) o := by
  refine bd_weak (pss_cons (ps_expr (pe_bm PySem.F.plainAttrs_list PySem.F.slot_list_append PySem.F.type_list_append mt_append (pe_var hi hv hd hcd) (pa_cons he pa_nil hs) hbase hfew hline hs rfl) hsw) hr) fun D σ H ⟨B, O, Oc, hB, E, k⟩ => ?_
  obtain ⟨l, vs, g1, g2, g3, g4⟩ := E.own i ds h0
  refine ⟨_, g1, .inl ⟨rfl, vs, SqL.of g3⟩, O, Oc, E, fun v H1 s1 r1 => ?_⟩
  have E1 := E.mono s1
  have r0 : Da (Hm H1 (O ++ Oc)) v d := r1
  have g5 := s1 _ _ g3
  refine ⟨l, vs, v, rfl, rfl, g5, by rw [daa_len g4]; exact sz100L hz, B, O, Oc, ?_, E1.put_own h0 g1 (daa_app (daa_mono (same_hm s1 fun _ h => h) g4) (.cons r0 .nil)), k⟩
  rw [hm_upd g2]
  exact hB.trans (same_hm s1 fun _ h => h)
theorem bd_ret {pos : Pos} {d : PyData} (he : ED X G e (.d d)) (hd : o.rt d) : BD X G (.Return (some e) pos :: rest) o := by
  refine bd_weak (pss_cons (ps_ret he) (pss_never (sts := rest))) fun D σ H ⟨B, O, Oc, hB, E, k1, k2, k3, k4⟩ => ⟨O, Oc, E, fun v H1 s1 r1 => k2 v H1 d hd ?_ ?_⟩
  · exact hB.trans ((same_hm s1 fun _ h => h).trans same_out)
  · exact da_mono (same_hm (Same.refl H1) fun a h => List.mem_append_right _ h) r1
theorem bd_retN {pos : Pos} (hd : o.rt .none) : BD X G (.Return none pos :: rest) o := by
  refine bd_weak (pss_cons ps_retN (pss_never (sts := rest))) fun D σ H ⟨B, O, Oc, hB, E, k1, k2, k3, k4⟩ => k2 .non H .none hd (hB.trans same_out) .non
/-- if c: body else: orelse; N: what the ways leave that go on -/
theorem bd_if (N : List En → Prop) {c : Expr} {body orelse : List Stmt} {pos : Pos} (hc : TD X G c b) (h1 : b = true → BD X G body { o with nx := N }) (h2 : b = false → BD X G orelse { o with nx := N }) (hr : ∀ G', N G' → BD X G' rest o) : BD X G (.If c body orelse pos :: rest) o := by
  refine bd_cons (N := N) ?_ hr
  cases b with
  | true => exact sd_weak (ps_if hc (h1 rfl) (pss_never (sts := orelse))) fun D σ H ⟨B, O, Oc, hB, E, k⟩ => ⟨O, Oc, E, fun H1 s1 => iteT ⟨B, O, Oc, hB.trans (same_hm s1 fun _ h => h), E.mono s1, k⟩⟩
  | false => exact sd_weak (ps_if hc (pss_never (sts := body)) (h2 rfl)) fun D σ H ⟨B, O, Oc, hB, E, k⟩ => ⟨O, Oc, E, fun H1 s1 => iteF ⟨B, O, Oc, hB.trans (same_hm s1 fun _ h => h), E.mono s1, k⟩⟩
/-- .. whose test is known to be true | false -/
theorem bd_ifT {c : Expr} {body orelse : List Stmt} {pos : Pos} (N : List En → Prop) (hc : TD X G c true) (h1 : BD X G body { o with nx := N }) (hr : ∀ G', N G' → BD X G' rest o) : BD X G (.If c body orelse pos :: rest) o := bd_if N hc (fun _ => h1) (fun z => by cases z) hr
theorem bd_ifF {c : Expr} {body : List Stmt} {pos : Pos} (hc : TD X G c false) (hr : BD X G rest o) : BD X G (.If c body [] pos :: rest) o := bd_if (fun G' => G' = G) hc (fun z => by cases z) (fun _ => bd_nil rfl) fun _ q => q ▸ hr
/-- a body that leaves in each way -/
theorem bd_ifR {c : Expr} {body : List Stmt} {pos : Pos} (hc : TD X G c b) (h1 : b = true → BD X G body { o with nx := fun _ => False }) (hr : b = false → BD X G rest o) : BD X G (.If c body [] pos :: rest) o :=
  bd_if (fun G' => b = false ∧ G' = G) hc (fun z => bd_weak (h1 z) fun D σ H ⟨B, O, Oc, hB, E, k1, k2⟩ => ⟨B, O, Oc, hB, E, fun _ _ _ _ n => n.elim, k2⟩) (fun z => bd_nil ⟨z, rfl⟩) fun _ q => q.2 ▸ hr q.1
theorem bd_nx {N : List En → Prop} {sts : List Stmt} (h : BD X G sts { o with nx := fun _ => False }) : BD X G sts { o with nx := N } := bd_weak h fun D σ H ⟨B, O, Oc, hB, E, k1, k2⟩ => ⟨B, O, Oc, hB, E, fun _ _ _ _ n => n.elim, k2⟩
theorem bd_try {body : List Stmt} {h0 : ExceptHandler} {hs : List ExceptHandler} {pos : Pos} (N : List En → Prop) (h : PSs X.nox body (tS X.K G { o with nx := N })) (hr : ∀ G', N G' → BD X G' rest o) : BD X G (.Try body (h0 :: hs) [] [] pos :: rest) o := bd_cons (N := N) (ps_try_thru0 h) hr
/-- an expression whose value is dropped -/
theorem bd_drop {pos : Pos} {m : Dm} (he : ED X G e m) (hr : BD X G rest o) (hs : swapsWith e none pos.line X.env = pure false := by rfl) : BD X G (.Expr e pos :: rest) o :=
  bd_weak (pss_cons (ps_expr he hs) hr) fun D σ H ⟨B, O, Oc, hB, E, k⟩ => ⟨O, Oc, E, fun v H1 s1 r1 => ⟨B, O, Oc, hB.trans (same_hm s1 fun _ h => h), E.mono s1, k⟩⟩

/-! ### the def -/
def envN (N : List Str) (ms : List Dm) : List En := ms.map En.val ++ List.replicate (N.length - ms.length) .no
theorem env_start {K : PySem.W.Frag} {N : List Str} {W : List Addr} {H : Hp} {vs : List V} {ms : List Dm} (hW : ∀ a ∈ W, H a ≠ none) (r : RmAll K W W H vs ms) : EnvR K [] W (L2.start N vs) H (envN N ms) := by
  have hl := rma_len r
  refine ⟨(by unfold L2.start envN; simp [hl]), hW, (fun a h => (nomatch h)), fun i m h => ?_, fun i ds h => ?_, fun i j ds es ne h => ?_, fun i n f h => ?_⟩
  · have hi : i < ms.length := by
      rcases Nat.lt_or_ge i ms.length with h' | h'
      · exact h'
      · unfold envN at h
        rw [List.getElem?_append_right (by simpa using h'), List.getElem?_replicate] at h
        split at h <;> cases h
    have e : ms[i]? = some m := by
      unfold envN at h
      rw [List.getElem?_append_left (by simpa using hi), List.getElem?_map] at h
      cases q : ms[i]? with
      | none => rw [q] at h; cases h
      | some a => rw [q] at h; cases h; rfl
    obtain ⟨v, h1, h2⟩ := rma_get r e
    refine ⟨v, ?_, h2⟩
    unfold L2.start
    rw [List.getElem?_append_left (by simpa [hl] using hi), List.getElem?_map, h1] <;> rfl
  all_goals
    unfold envN at h
    rcases Nat.lt_or_ge i ms.length with h' | h'
    · rw [List.getElem?_append_left (by simpa using h'), List.getElem?_map] at h
      cases q : ms[i]? with
      | none => rw [q] at h; cases h
      | some a => rw [q] at h; cases h
    · rw [List.getElem?_append_right (by simpa using h'), List.getElem?_replicate] at h
      split at h <;> cases h
end
abbrev XC (P : Program) (w : World) (K : PySem.W.Frag) (mg : Str → Option Value) (base : Heap) (N : List Str) (qual : Str) (scope : Scope) (f : Addr) (cdv : Value) (A : Around) (outer : List Env) (s : Shared) (H : Hp) (E : XK) : Cx := (cxOf CX0 P w K mg base N qual scope f cdv A outer s H E).nox
theorem body_run {K : PySem.W.Frag} {N : List Str} {W : List Addr} {H : Hp} {vs : List V} {ms : List Dm} {d : PyData} {Q : VK} (hW : ∀ a ∈ W, H a ≠ none) (r : RmAll K W W H vs ms) (k : ∀ v H', Same H H' → Da (Hm H' W) v d → Q v H') :
    tS K (envN N ms) (.ret d) { nx := fun _ H' => Q .non H', rt := Q } (L2.start N vs) H :=
  ⟨H, [], W, fun a o h => hm_mk (fun z => (nomatch z)) h, env_start hW r, fun σ' H' G' O' n hB E => by
    have n' : d = .none := n
    subst n'
    exact k .non H' (hB.trans same_out) .non, fun v H' e n hB q => by
    have n' : e = d := n
    subst n'
    exact k v H' hB q, fun _ _ _ _ n => n.elim, fun _ _ _ _ n => n.elim⟩
/-- a def keeps its promise -/
theorem fn_mk {P : Program} {w : World} {K : PySem.W.Frag} {mg : Str → Option Value} {base : Heap} {x qual : Str} {params : Arguments} {body : List Stmt} {scope : Scope} {f : Addr} {fd : FuncData} {N ps : List Str} {k : Nat} {R : List Dm → PyData → Prop}
    (F : FunD K x qual params body scope [] [] f fd) (S : FnScope N ps scope) (hl : ∀ ms d, R ms d → ms.length = ps.length)
    (hbody : ∀ (cdv : Value) (A : Around) (outer : List Env) (s : Shared) (H : Hp) (E : XK) (ms : List Dm) (d : PyData), Room k (A.deeper (envOfC qual scope s.heap.objs.size f cdv)) → R ms d →
      BD (XC P w K mg base N qual scope f cdv A outer s H E) (envN N ms) body (.ret d)) : FnOk P w K mg base CX0 (k + 1) f fd ps (spD K R) := by
  refine F.ok S (fun vs H Q E ⟨W, ms, d, hW, r, hR, q⟩ => (rma_len r).trans (hl ms d hR)) fun cdv A outer s H vs Q E hr ⟨W, ms, d, hW, r, hR, q⟩ => ?_
  exact ⟨_, (hbody cdv A outer s H E ms d hr hR).nox, body_run hW r q⟩
end Tw

set_option maxHeartbeats 4000000
namespace Tw
open PySem PySem.Spec L2
open PyProof.Rows hiding St

/-! ### what is walked -/
/-- what stands at turn i: the datum Y i, wherever the things put aside are others -/
def YOk (T : Hp) (Y : Nat → PyData) (i : Nat) (H2 : Hp) (v : V) (H3 : Hp) : Prop := Same H2 H3 ∧ ∀ W : List Addr, (∀ a ∈ W, H2 a ≠ none) → Same T (Hm H2 W) → Da (Hm H3 W) v (Y i)
def ItD (X : Cx) (G : List En) (tg it : Expr) (n : Nat) (Y : Nat → PyData) : Prop := ∃ wi, PI X tg it wi ∧ ∀ O Oc σ H R, EnvR X.K O Oc σ H G →
  (∀ J H1, Same H H1 → Walk J n (fun H2 => Same (Hm H1 (O ++ Oc)) H2) (YOk (Hm H1 (O ++ Oc)) Y) → R J H1) → wi σ H R
def nthP (ds : List PyData) (i : Nat) : PyData := ds.getD i .none
theorem nthP_get {ds : List PyData} {i : Nat} {d : PyData} (h : ds[i]? = some d) : nthP ds i = d := by unfold nthP; rw [List.getD_eq_getElem?_getD, h] <;> rfl
section
variable {X : Cx} {G : List En} {e : Expr} {tg : Expr}
theorem it_l {ds : List PyData} (he : ED X G e (.d (.list ds))) : ItD X G tg e ds.length (nthP ds) := by
  refine ⟨_, pi_list he, fun O Oc σ H R E k => ⟨O, Oc, E, fun v H1 s1 r1 => ?_⟩⟩
  cases r1 with
  | @lst a vs _ h1 h2 =>
    refine ⟨a, rfl, ⟨vs, SqL.of (hm_get h1).2⟩, k _ H1 s1 ?_⟩
    rw [← daa_len h2]
    refine (walk_list (K := X.K) (a := a) (xs := vs)).mono (fun H2 s2 => SqL.of (s2 _ _ h1)) fun i H2 v H3 hi s2 y => ?_
    obtain ⟨rfl, hv⟩ := y
    obtain ⟨d, h3, h4⟩ := daa_get' h2 hv
    refine ⟨Same.refl _, fun W hW sW => ?_⟩
    rw [nthP_get h3]
    exact da_mono sW h4
theorem it_t {ds : List PyData} (he : ED X G e (.d (.tuple ds))) : ItD X G tg e ds.length (nthP ds) := by
  refine ⟨_, pi_tup he, fun O Oc σ H R E k => ⟨O, Oc, E, fun v H1 s1 r1 => ?_⟩⟩
  cases r1 with
  | @tup a vs _ h1 h2 =>
    refine ⟨a, rfl, ⟨vs, SqT.of (hm_get h1).2⟩, k _ H1 s1 ?_⟩
    rw [← daa_len h2]
    refine (walk_tup (K := X.K) (a := a) (xs := vs)).mono (fun H2 s2 => SqT.of (s2 _ _ h1)) fun i H2 v H3 hi s2 y => ?_
    obtain ⟨rfl, hv⟩ := y
    obtain ⟨d, h3, h4⟩ := daa_get' h2 hv
    refine ⟨Same.refl _, fun W hW sW => ?_⟩
    rw [nthP_get h3]
    exact da_mono sW h4
/-- the script -/
theorem it_s {ns : List Int} (he : ED X G e (.scr ns)) : ItD X G tg e ns.length (fun i => .int (ns.getD i 0)) := by
  refine ⟨_, pi_list he, fun O Oc σ H R E k => ⟨O, Oc, E, fun v H1 s1 r1 => ?_⟩⟩
  obtain ⟨a, rfl, h1⟩ := r1
  refine ⟨a, rfl, ⟨_, Same.seq same_out h1⟩, k _ H1 s1 ?_⟩
  rw [← List.length_map (as := ns) V.int]
  refine (walk_list (K := X.K) (a := a) (xs := ns.map V.int)).mono (fun H2 s2 => s2.seq h1) fun i H2 v H3 hi s2 y => ?_
  obtain ⟨rfl, hv⟩ := y
  refine ⟨Same.refl _, fun W hW sW => ?_⟩
  rw [List.getElem?_map] at hv
  cases q : ns[i]? with
  | none =>
    rw [q] at hv
    cases hv
  | some n =>
    rw [q] at hv
    cases hv
    show Da _ _ (.int (ns.getD i 0))
    rw [List.getD_eq_getElem?_getD, q]
    exact .int n
/-- a text, sign by sign -/
theorem it_z {z : Str} (he : ED X G e (.d (.str z))) : ItD X G tg e z.cps.size (fun i => .str ⟨#[z.cps.getD i 0]⟩) := by
  refine ⟨_, pi_str he, fun O Oc σ H R E k => ⟨O, Oc, E, fun v H1 s1 r1 => ?_⟩⟩
  cases r1
  refine ⟨z, rfl, k _ H1 s1 ?_⟩
  refine walk_str.mono (fun H2 s2 => trivial) fun i H2 v H3 hi s2 y => ?_
  obtain ⟨rfl, c, hc, rfl⟩ := y
  refine ⟨Same.refl _, fun W hW sW => ?_⟩
  have e1 : z.cps.getD i 0 = c := by rw [Array.getD_eq_getD_getElem?, hc] <;> rfl
  show Da _ _ (.str ⟨#[z.cps.getD i 0]⟩)
  rw [e1]
  exact .str _
/-- range(n) -/
theorem it_r {n : Int} {p pos : Pos} (ha : ED X G e (.d (.int n))) (hm : X.mg "range" = none) (h1 : -(2 ^ 62) ≤ n) (h2 : n < 2 ^ 62) (hg : Gl X "range" := by rfl) (hs : starEach [e] X.env = [(false, eval e X.env)] := by rfl) :
    ItD X G tg (.Call (.Name "range" p) [e] [] pos) n.toNat (fun i => .int (i : Nat)) := by
  refine ⟨_, pi_range1 hg hm (pa_cons ha pa_nil hs) hs, fun O Oc σ H R E k => ⟨O, Oc, E, fun v H1 s1 r1 => ?_⟩⟩
  cases r1
  refine ⟨n, rfl, h1, h2, k _ H1 s1 ?_⟩
  refine walk_range.mono (fun H2 s2 => trivial) fun i H2 v H3 hi s2 y => ?_
  obtain ⟨rfl, rfl⟩ := y
  refine ⟨Same.refl _, fun W hW sW => ?_⟩
  show Da _ (.int (0 + (i : Nat))) (.int (i : Nat))
  rw [Int.zero_add]
  exact .int _
/-- range(a, b) -/
theorem it_r2 {e2 : Expr} {a n : Int} {p pos : Pos} (ha : ED X G e (.d (.int a))) (hb : ED X G e2 (.d (.int n))) (hm : X.mg "range" = none) (h0 : 0 ≤ a) (h3 : a < 2 ^ 62) (h1 : -(2 ^ 62) ≤ n) (h2 : n < 2 ^ 62) (hg : Gl X "range" := by rfl)
    (hs : starEach [e, e2] X.env = [(false, eval e X.env), (false, eval e2 X.env)] := by rfl) (hs2 : starEach [e2] X.env = [(false, eval e2 X.env)] := by rfl) :
    ItD X G tg (.Call (.Name "range" p) [e, e2] [] pos) (n - a).toNat (fun i => .int (a + (i : Nat))) := by
  have hs1 : starEach (e :: [e2]) X.env = (false, eval e X.env) :: starEach [e2] X.env := by rw [hs2]; exact hs
  refine ⟨_, pi_range2 hg hm (pa_cons ha (pa_cons hb pa_nil hs2) hs1) hs hs2, fun O Oc σ H R E k => ⟨O, Oc, E, fun v H1 s1 r1 => ⟨O, Oc, E.mono s1, fun v2 H2 s2 r2 => ?_⟩⟩⟩
  cases r1
  cases r2
  refine ⟨a, n, rfl, ⟨by omega, h3, h1, h2⟩, k _ H2 (s1.trans s2) ?_⟩
  refine walk_range.mono (fun H2 s2 => trivial) fun i H2 v H3 hi s2 y => ?_
  obtain ⟨rfl, rfl⟩ := y
  exact ⟨Same.refl _, fun W hW sW => .int _⟩
/-- enumerate(xs), a list -/
theorem it_el {ds : List PyData} {elts : List Expr} {kk : Nat} {tpos p pos : Pos} (ha : ED X G e (.d (.list ds))) (hm : X.mg "enumerate" = none) (hg : Gl X "enumerate" := by rfl) (hs : starEach [e] X.env = [(false, eval e X.env)] := by rfl) :
    ItD X G (.Tuple elts kk tpos) (.Call (.Name "enumerate" p) [e] [] pos) ds.length (fun i => .tuple [.int (i : Nat), nthP ds i]) := by
  refine ⟨_, pi_enum hg hm (pa_cons ha pa_nil hs) hs, fun O Oc σ H R E k => ⟨O, Oc, E, fun v H1 s1 r1 => ?_⟩⟩
  cases r1 with
  | @lst a vs _ h1 h2 =>
    refine ⟨a, vs, rfl, SqL.of (hm_get h1).2, k _ H1 s1 ?_⟩
    rw [← daa_len h2]
    refine (walk_enum (K := X.K) (a := a) (xs := vs)).mono (fun H2 s2 => SqL.of (s2 _ _ h1)) fun i H2 v H3 hi s2 y => ?_
    obtain ⟨T, x, y, rfl, hT, rfl, hx, hy⟩ := y
    cases hx
    obtain ⟨d, h3, h4⟩ := daa_get' h2 hy
    refine ⟨same_new hT, fun W hW sW => ?_⟩
    show Da _ _ (.tuple [.int (i : Nat), nthP ds i])
    rw [nthP_get h3]
    exact da_newT hT hW (.cons (.int _) (.cons (da_mono sW h4) .nil))
end

/-! ### targets -/
def TgD (X : Cx) (g : TG) (y : PyData) (F : List En → List En) : Prop := ∀ O Oc σ H G v (Q : St → Hp → Prop), EnvR X.K O Oc σ H G → Da (Hm H (O ++ Oc)) v y → (∀ σ', EnvR X.K O Oc σ' H (F G) → Q σ' H) → g v σ H Q
section
variable {X : Cx} {G : List En}
theorem tg_n (j : Nat) {y : PyData} : TgD X (gName j) y (fun G => G.set j (.val (.d y))) := fun O Oc σ H G v Q E r k => k _ (E.set_val (m := .d y) r)
def TgsD (X : Cx) (u : TGs) (ys : List PyData) (F : List En → List En) : Prop := ∀ O Oc σ H G vs (Q : St → Hp → Prop), EnvR X.K O Oc σ H G → DaAll (Hm H (O ++ Oc)) vs ys → (∀ σ', EnvR X.K O Oc σ' H (F G) → Q σ' H) → u vs σ H Q
theorem tgs_nil : TgsD X gNil [] id := fun O Oc σ H G vs Q E r k => by
  cases r
  exact ⟨rfl, k _ E⟩
theorem tgs_cons {g : TG} {u : TGs} {y : PyData} {ys : List PyData} {F F2 : List En → List En} (h : TgD X g y F) (h2 : TgsD X u ys F2) : TgsD X (gCons g u) (y :: ys) (fun G => F2 (F G)) := fun O Oc σ H G vs Q E r k => by
  cases r with
  | cons r1 r2 => exact ⟨_, _, rfl, h O Oc σ H G _ _ E r1 fun σ' E' => h2 O Oc σ' H _ _ Q E' r2 k⟩
theorem tg_tup {u : TGs} {ys : List PyData} {F : List En → List En} {n : Nat} (h : TgsD X u ys F) (hn : ys.length = n := by rfl) : TgD X (gTup X.K n u) (.tuple ys) F := fun O Oc σ H G v Q E r k => by
  cases r with
  | tup h1 h2 => exact ⟨_, _, rfl, SqT.of (hm_get h1).2, (daa_len h2).trans hn, h O Oc σ H G _ Q E h2 k⟩
/-- a name of the body's -/
theorem pgN (j : Nat) {x : Str} {pos : Pos} (hN : X.N.Nodup) (hi : X.N[j]? = some x := by rfl) (hx : Loc X.env.scope x := by first | exact Or.inl rfl | exact Or.inr rfl) (hf : X.fn x = true ∨ X.env.scope.names.lookup x = some .local := by first | exact .inl rfl | exact .inr rfl) : PG X (.Name x pos) (gName j) := pg_name hN hi hx hf
end

/-! ### for -/
section
variable {X : Cx} {G : List En} {o : Ou} {rest : List Stmt}
theorem same_WW {H1 H2 : Hp} {O O' Oc : List Addr} (h : Same (Hm H1 O) (Hm H2 O')) : Same (Hm H1 (O ++ Oc)) (Hm H2 (O' ++ Oc)) := fun a u q => by
  obtain ⟨n, e⟩ := hm_get q
  obtain ⟨n2, e2⟩ := hm_get (h a u (hm_mk (fun z => n (List.mem_append_left _ z)) e))
  refine hm_mk (fun z => ?_) e2
  rcases List.mem_append.mp z with z | z
  · exact n2 z
  · exact n (List.mem_append_right _ z)
def tForB (K : PySem.W.Frag) (n : Nat) (F : Nat → List En → List En) (N : Nat → List En → Prop) (o : Ou) : TS := fun D σ H => ∃ a : { p : Nat × List En // p.1 < n ∧ N p.1 p.2 }, tS K (F a.1.1 a.1.2) { o with nx := N (a.1.1 + 1), ct := N (a.1.1 + 1), bk := fun _ => False } D σ H
def tFam (K : PySem.W.Frag) (N : List En → Prop) (o : Ou) : TS := fun D σ H => ∃ a : { G' : List En // N G' }, tS K a.1 o D σ H
/-- for target in it: N by the turn; F i: what the target stores -/
theorem bd_for {tg it : Expr} {body : List Stmt} {pos : Pos} {n : Nat} {Y : Nat → PyData} {g : TG} (F : Nat → List En → List En) (N : Nat → List En → Prop) (hI : ItD X G tg it n Y) (hg : PG X tg g) (hT : ∀ i, i < n → TgD X g (Y i) (F i)) (h0 : N 0 G)
    (hs : ∀ i G', i < n → N i G' → BD X (F i G') body { o with nx := N (i + 1), ct := N (i + 1), bk := fun _ => False }) (hr : ∀ G', N n G' → BD X G' rest o)
    (hp : PassesOwn (model X.prog X.w) X.A X.env X.xe := by exact PassesOwn.never) (hc : X.calm = true := by rfl) (hfs : ∀ x, foldedSetIterable it X.env x = pure x := by intro _; rfl) : BD X G (.For tg it body [] pos :: rest) o := by
  obtain ⟨wi, hI1, hI2⟩ := hI
  have hb : PSs X body (tForB X.K n F N o) := bd_fam fun a => hs a.1.1 a.1.2 a.2.1 a.2.2
  have h2 : PSs X rest (tFam X.K (N n) o) := bd_fam fun a => hr a.1 a.2
  refine bd_weak (pss_cons (ps_for hp hc hI1 hg hb hfs) h2) fun D σ H ⟨B, O, Oc, hB, E, k1, k2, k3, k4⟩ => ?_
  refine hI2 O Oc σ H _ E fun J H1 s1 wk => ?_
  have E1 := E.mono s1
  have hB1 : Same B (Hm H1 O) := hB.trans (same_hm s1 fun _ h => h)
  refine for_it wk (fun i σ' H' => ∃ G' O', N i G' ∧ Same (Hm H1 O) (Hm H' O') ∧ EnvR X.K O' Oc σ' H' G') ⟨G, O, h0, Same.refl _, E1⟩ (fun i σ' H' _ ⟨G', O', _, q, _⟩ => (same_WW (Oc := Oc) q).trans same_out) ?_ ?_
  · rintro i v σ' H' H'' hi ⟨G', O', hN, q, E'⟩ ⟨s2, y⟩
    have r := y (O' ++ Oc) E'.inW (same_WW q)
    have q2 : Same (Hm H1 O) (Hm H'' O') := q.trans (same_hm s2 fun _ h => h)
    refine hT i hi O' Oc σ' H'' G' v _ (E'.mono s2) r fun σ2 E2 => ?_
    exact ⟨⟨(i, G'), hi, hN⟩, Hm H1 O, O', Oc, q2, E2, fun σ3 H3 G3 O3 n3 q3 E3 => ⟨G3, O3, n3, q3, E3⟩, fun v3 H3 d3 n3 q3 r3 => k2 v3 H3 d3 n3 (hB1.trans q3) r3, fun _ _ _ _ z => z.elim, fun σ3 H3 G3 O3 n3 q3 E3 => ⟨G3, O3, n3, q3, E3⟩⟩
  · rintro σ' H' ⟨G', O', hN, q, E'⟩
    exact ⟨⟨G', hN⟩, B, O', Oc, hB1.trans q, E', k1, k2, k3, k4⟩

/-! ### comprehensions over one name -/
theorem env_D {O Oc : List Addr} {σ : St} {H1 H' : Hp} {D : Addr} {acc : List V} (E : EnvR X.K O Oc σ H1 G) (hD : H1 D = none) (s : Same H1 H') (h' : H' D = some (.lst acc)) : EnvR X.K O (D :: Oc) σ H' G := by
  have nD : ∀ a ∈ O ++ Oc, a ≠ D := fun a h z => E.inW a h (z ▸ hD)
  have sW : Same (Hm H1 (O ++ Oc)) (Hm H' (O ++ D :: Oc)) := fun a u q => by
    obtain ⟨n1, e1⟩ := hm_get q
    refine hm_mk (fun z => ?_) (s a u e1)
    rcases List.mem_append.mp z with z | z
    · exact n1 (List.mem_append_left _ z)
    · rcases List.mem_cons.mp z with z | z
      · subst z
        rw [hD] at e1
        cases e1
      · exact n1 (List.mem_append_right _ z)
  refine ⟨E.len, fun a h z => ?_, fun a h z => ?_, fun i m h => ?_, fun i ds h => ?_, E.apart, fun i n f h => ?_⟩
  · rcases List.mem_append.mp h with h | h
    · exact (E.mono s).inW a (List.mem_append_left _ h) z
    · rcases List.mem_cons.mp h with h | h
      · subst h
        rw [h'] at z
        cases z
      · exact (E.mono s).inW a (List.mem_append_right _ h) z
  · rcases List.mem_cons.mp z with z | z
    · exact nD a (List.mem_append_left _ h) z
    · exact E.dis a h z
  · obtain ⟨v, h1, h2⟩ := E.val i m h
    refine ⟨v, h1, ?_⟩
    cases m with
    | d x => exact da_mono sW h2
    | bor xs =>
      obtain ⟨l, vs, g1, g2, g3, g4⟩ := h2
      exact ⟨l, vs, g1, List.mem_cons_of_mem _ g2, s _ _ g3, daa_mono sW g4⟩
    | scr ns =>
      obtain ⟨a, g1, g2⟩ := h2
      exact ⟨a, g1, sW.seq g2⟩
    | sig ss => exact sig_mono sW h2
    | der l p ss => exact der_mono sW h2
    | raw u => exact h2
  · obtain ⟨l, vs, h1, h2, h3, h4⟩ := E.own i ds h
    exact ⟨l, vs, h1, h2, s _ _ h3, daa_mono sW h4⟩
  · obtain ⟨t, kvs, h1, h2, h3, h4, h5⟩ := E.tab i n f h
    exact ⟨t, kvs, h1, h2, s _ _ h3, h4, fun x => tab_mono sW (h5 x)⟩
theorem env_no {O Oc : List Addr} {σ : St} {H : Hp} {j : Nat} (E : EnvR X.K O Oc σ H G) : EnvR X.K O Oc (σ.set j none) H (G.set j .no) := by
  refine ⟨by rw [List.length_set, List.length_set]; exact E.len, E.inW, E.dis, fun i m h => ?_, fun i ds h => ?_, fun i k ds es ne h1 h2 => ?_, fun i n f h => ?_⟩
  · rcases set_look h with ⟨rfl, e⟩ | ⟨ne, h2⟩
    · cases e
    · obtain ⟨v, g1, g2⟩ := E.val i m h2
      exact ⟨v, by rw [List.getElem?_set_ne ne]; exact g1, g2⟩
  · rcases set_look h with ⟨rfl, e⟩ | ⟨ne, h2⟩
    · cases e
    · obtain ⟨l, vs, g1, g2⟩ := E.own i ds h2
      exact ⟨l, vs, by rw [List.getElem?_set_ne ne]; exact g1, g2⟩
  · rcases set_look h1 with ⟨rfl, e⟩ | ⟨n1, h3⟩
    · cases e
    · rcases set_look h2 with ⟨rfl, e⟩ | ⟨n2, h4⟩
      · cases e
      · rw [List.getElem?_set_ne n1, List.getElem?_set_ne n2]
        exact E.apart i k ds es ne h3 h4
  · rcases set_look h with ⟨rfl, e⟩ | ⟨ne, h2⟩
    · cases e
    · obtain ⟨t, kvs, g1, g2⟩ := E.tab i n f h2
      exact ⟨t, kvs, by rw [List.getElem?_set_ne ne]; exact g1, g2⟩
/-- the environment of the element at turn i -/
def envJ (G : List En) (j : Nat) (y : PyData) : List En := (G.set j .no).set j (.val (.d y))
abbrev XB (X : Cx) (s : Shared) (H : Hp) (scope : Scope) (C : Addr) (cl : List (Str × Addr)) (fp : List Addr) : Cx := X.blk s H scope (compEnvC scope cl C X.env) fp
def tsB (K : PySem.W.Frag) (G : List En) (j : Nat) (n : Nat) (Y : Nat → PyData) (zs : Nat → Option PyData) : TT := fun σ H Q => ∃ a : { i : Nat // i < n }, tB1 K (envJ G j (Y a.1)) (zs a.1).isSome σ H Q
def tsE (K : PySem.W.Frag) (G : List En) (j : Nat) (n : Nat) (Y : Nat → PyData) (zs : Nat → Option PyData) : TE := fun σ H Q => ∃ a : { p : Nat × PyData // p.1 < n ∧ zs p.1 = some p.2 }, tD K (envJ G j (Y a.1.1)) (.d a.1.2) σ H Q
/-- the reading of a comprehension's walk -/
theorem lc_run {tg it : Expr} {n : Nat} {Y : Nat → PyData} {wi : TI} {j : Nat} {zs : Nat → Option PyData} (hz : n < 100000) (hI2 : ∀ O Oc σ H R, EnvR X.K O Oc σ H G → (∀ J H1, Same H H1 → Walk J n (fun H2 => Same (Hm H1 (O ++ Oc)) H2) (YOk (Hm H1 (O ++ Oc)) Y) → R J H1) → wi σ H R) :
    ∀ O Oc σ H Q, EnvR X.K O Oc σ H G → (∀ v H', Same H H' → Rm X.K (O ++ Oc) (O ++ Oc) H' v (.d (.list ((List.range n).filterMap zs))) → Q v H') → tLc wi (gName j) (tsB X.K G j n Y zs) (tsE X.K G j n Y zs) [j] σ H Q := by
  intro O Oc σ H Q E k
  refine hI2 O Oc σ H _ E fun J H1 s1 wk D hD => ?_
  have E1 := E.mono s1
  have nDW : D ∉ O ++ Oc := fun h => E1.inW D h hD
  have ew : ∀ τ : St, wipe τ [j] = τ.set j none := fun τ => rfl
  refine lc_it wk (fun i H' => Same H1 H' ∧ ∃ acc, H' D = some (.lst acc) ∧ DaAll (Hm H' (O ++ D :: Oc)) acc ((List.range i).filterMap zs)) ⟨same_new hD, [], upd_same, .nil⟩ (fun i H' _ ⟨q, _⟩ => same_out.trans q) ?_ ?_
  · rintro i v H2 H3 hi ⟨q, acc, hacc, hda⟩ ⟨s2, y⟩
    have q3 := q.trans s2
    have h3 := s2 _ _ hacc
    have E2 : EnvR X.K O (D :: Oc) σ H2 G := env_D E1 hD q hacc
    have E3 := E2.mono s2
    have sT : Same (Hm H1 (O ++ Oc)) (Hm H2 (O ++ D :: Oc)) := fun a u z => by
      obtain ⟨n1, e1⟩ := hm_get z
      refine hm_mk (fun w => ?_) (q a u e1)
      rcases List.mem_append.mp w with w | w
      · exact n1 (List.mem_append_left _ w)
      · rcases List.mem_cons.mp w with w | w
        · subst w
          rw [hD] at e1
          cases e1
        · exact n1 (List.mem_append_right _ w)
    have r := y (O ++ D :: Oc) E2.inW sT
    have hda3 := daa_mono (same_hm s2 fun _ h => h) hda
    have E4 : EnvR X.K O (D :: Oc) ((σ.set j none).set j (some v)) H3 (envJ G j (Y i)) := (env_no E3).set_val (m := .d (Y i)) r
    refine ⟨(by show ((σ.set j none).set j (some v)).set j none = σ.set j none; simp only [List.set_set]), ⟨i, hi⟩, O, D :: Oc, E4, fun H5 s5 => ?_⟩
    have hr : (List.range (i + 1)).filterMap zs = (List.range i).filterMap zs ++ (zs i).toList := by
      rw [List.range_succ, List.filterMap_append]
      cases h : zs i <;> simp [h]
    cases hzi : zs i with
    | none =>
      refine iteF ⟨q3.trans s5, acc, s5 _ _ h3, ?_⟩
      rw [hr, hzi]
      simp only [Option.toList, List.append_nil]
      exact daa_mono (same_hm s5 fun _ h => h) hda3
    | some z =>
      refine iteT ⟨⟨(i, z), hi, hzi⟩, O, D :: Oc, E4.mono s5, fun v6 H6 s6 r6 => ⟨acc, s6 _ _ (s5 _ _ h3), ?_, ?_, acc ++ [v6], upd_same, ?_⟩⟩
      · rw [daa_len hda]
        have := List.length_filterMap_le zs (List.range i)
        rw [List.length_range] at this
        exact sz100L (by omega)
      · intro a u z
        by_cases e : a = D
        · subst e
          rw [hD] at z
          cases z
        · rw [upd_ne e]
          exact s6 _ _ (s5 _ _ (q3 _ _ z))
      · rw [hr, hzi, hm_upd (List.mem_append_right _ List.mem_cons_self)]
        exact daa_app (daa_mono (same_hm (s5.trans s6) fun _ h => h) hda3) (.cons r6 .nil)
  · rintro H2 ⟨q, acc, hacc, hda⟩
    refine k _ H2 (s1.trans q) (.lst (hm_mk nDW hacc) (daa_mono (same_hm (Same.refl H2) fun a h => ?_) hda))
    rcases List.mem_append.mp h with h | h
    · exact List.mem_append_left _ h
    · exact List.mem_append_right _ (List.mem_cons_of_mem _ h)
section
variable {tg it elt : Expr} {ifs : List Expr} {scope : Scope} {pos : Pos} {n : Nat} {Y : Nat → PyData} {zs : Nat → Option PyData} {x : Str} {px : Pos}
/-- the tests and the elements of a comprehension -/
structure LcD (X : Cx) (G : List En) (x : Str) (px : Pos) (j : Nat) (elt : Expr) (ifs : List Expr) (scope : Scope) (n : Nat) (Y : Nat → PyData) (zs : Nat → Option PyData) : Prop where
  g : ∀ (s : Shared) (H : Hp) (C : Addr) (cl : List (Str × Addr)) (fp : List Addr), PG (XB X s H scope C cl fp) (.Name x px) (gName j)
  t : ∀ (s : Shared) (H : Hp) (C : Addr) (cl : List (Str × Addr)) (fp : List Addr), PTs (XB X s H scope C cl fp) ifs (tsB X.K G j n Y zs)
  e : ∀ (s : Shared) (H : Hp) (C : Addr) (cl : List (Str × Addr)) (fp : List Addr), PE (XB X s H scope C cl fp) elt (tsE X.K G j n Y zs)
theorem lc_noif (j : Nat) {zs : Nat → PyData} (hN : X.N.Nodup) (hi : X.N[j]? = some x) (hx : scope.names.lookup x = some .local) (he : ∀ i, i < n → ∀ (s : Shared) (H : Hp) (C : Addr) (cl : List (Str × Addr)) (fp : List Addr), ED (XB X s H scope C cl fp) (envJ G j (Y i)) elt (.d (zs i)))
    (hl : ∀ (s : Shared) (H : Hp) (C : Addr) (cl : List (Str × Addr)) (fp : List Addr), (XB X s H scope C cl fp).env.scope.names.lookup x = some .local := by exact fun _ _ _ _ _ => rfl) : LcD X G x px j elt [] scope n Y (fun i => some (zs i)) where
  g := fun s H C cl fp => pg_name hN hi (.inl (hl s H C cl fp)) (.inr (hl s H C cl fp))
  t := fun s H C cl fp => ⟨fun pins s' σ H' Q I ⟨a, O, Oc, E, k⟩ => pts_nil.run pins s' σ H' Q I (k H' (Same.refl H'))⟩
  e := fun s H C cl fp => ⟨fun pins s' σ H' Q I ⟨⟨⟨i, z⟩, hi, hz⟩, q⟩ => by
    have e : zs i = z := Option.some.inj hz
    subst e
    exact (he i hi s H C cl fp).run pins s' σ H' Q I q⟩
theorem lc_if (j : Nat) {c : Expr} (hN : X.N.Nodup) (hi : X.N[j]? = some x) (ht : ∀ i, i < n → ∀ (s : Shared) (H : Hp) (C : Addr) (cl : List (Str × Addr)) (fp : List Addr), TD (XB X s H scope C cl fp) (envJ G j (Y i)) c (zs i).isSome)
    (he : ∀ i z, i < n → zs i = some z → ∀ (s : Shared) (H : Hp) (C : Addr) (cl : List (Str × Addr)) (fp : List Addr), ED (XB X s H scope C cl fp) (envJ G j (Y i)) elt (.d z))
    (hl : ∀ (s : Shared) (H : Hp) (C : Addr) (cl : List (Str × Addr)) (fp : List Addr), (XB X s H scope C cl fp).env.scope.names.lookup x = some .local := by exact fun _ _ _ _ _ => rfl) : LcD X G x px j elt [c] scope n Y zs where
  g := fun s H C cl fp => pg_name hN hi (.inl (hl s H C cl fp)) (.inr (hl s H C cl fp))
  t := fun s H C cl fp => by
    have z : PT (XB X s H scope C cl fp) c (tsB X.K G j n Y zs) := ⟨fun pins s' σ H' Q I ⟨a, q⟩ => (ht a.1 a.2 s H C cl fp).run pins s' σ H' Q I q⟩
    exact pts_one z
  e := fun s H C cl fp => ⟨fun pins s' σ H' Q I ⟨⟨⟨i, z⟩, hi, hz⟩, q⟩ => (he i z hi hz s H C cl fp).run pins s' σ H' Q I q⟩
theorem ed_lc (j : Nat) (hI : ItD X G (.Name x px) it n Y) (hL : LcD X G x px j elt ifs scope n Y zs) (hN : X.N.Nodup) (hb : blkC X.N X.env.scope scope [(x, j)] = true) (hz : n < 100000) {ys : List PyData} (hy : (List.range n).filterMap zs = ys) (hc : X.calm = true := by rfl)
    (hs : ∀ x, foldedSetIterable it X.env x = pure x := by intro _; rfl) : ED X G (.ListComp elt [⟨.Name x px, it, ifs, 0⟩] scope pos) (.d (.list ys)) := by
  obtain ⟨wi, hI1, hI2⟩ := hI
  subst hy
  exact ed_of (pe_lc (own := [(x, j)]) hc hN hI1 (blkOk_by hb) hL.g hL.t hL.e hs) (lc_run (tg := .Name x px) (it := it) hz hI2)
/-- y = [..] -/
theorem bd_setLc (i j : Nat) {y : Str} {py spos : Pos} (hI : ItD X G (.Name x px) it n Y) (hL : LcD X G x px j elt ifs scope n Y zs) (hN : X.N.Nodup) (hb : blkC X.N X.env.scope scope [(x, j)] = true) (hz : n < 100000) {ys : List PyData} (hys : (List.range n).filterMap zs = ys)
    (hr : BD X (G.set i (.val (.d (.list ys)))) rest o) (hsw : swapsWith (.ListComp elt [⟨.Name x px, it, ifs, 0⟩] scope pos) (some (.Name y py)) spos.line X.env = pure true) (hi : X.N[i]? = some y := by rfl) (hyl : X.env.scope.names.lookup y = some .local := by rfl) (hc : X.calm = true := by rfl)
    (hs : ∀ x, foldedSetIterable it X.env x = pure x := by intro _; rfl) : BD X G (.Assign [.Name y py] (.ListComp elt [⟨.Name x px, it, ifs, 0⟩] scope pos) spos :: rest) o := by
  obtain ⟨wi, hI1, hI2⟩ := hI
  subst hys
  refine bd_weak (pss_cons (ps_setLc (own := [(x, j)]) hc hN hi hyl hsw hI1 (blkOk_by hb) hL.g hL.t hL.e hs) hr) fun D σ H ⟨B, O, Oc, hB, E, k⟩ => ?_
  refine lc_run (tg := .Name x px) (it := it) (Q := fun v H1 => tS X.K (G.set i (.val (.d (.list ((List.range n).filterMap zs))))) o D (σ.set i (some v)) H1) hz hI2 O Oc σ H E fun v H1 s1 r1 => ?_
  exact ⟨B, O, Oc, hB.trans (same_hm s1 fun _ h => h), (E.mono s1).set_val (m := .d _) r1, k⟩
end
end
end Tw

set_option maxHeartbeats 4000000
namespace Tw
open PySem PySem.Spec L2
open PyProof.Rows hiding St

section
variable {X : Cx} {G : List En} {o : Ou} {rest : List Stmt} {e : Expr} {es : List Expr} {ms : List Dm}
/-! ### lists of the body's own -/
/-- y = x.pop(e), x the body's own -/
theorem bd_setPop (i j : Nat) {x y : Str} {ds : List PyData} {k : Nat} {d : PyData} {p1 py apos cpos pos : Pos} (he : ED X G e (.d (.int k))) (hd : ds[k]? = some d) (hz : ds.length ≤ 100000) (hr : BD X ((G.set j (.own (ds.eraseIdx k))).set i (.val (.d d))) rest o) (hN : X.N.Nodup) (h0 : G[j]? = some (.own ds) := by rfl)
    (hi : X.N[i]? = some y := by rfl) (hx : Loc X.env.scope y := by first | exact Or.inl rfl | exact Or.inr rfl) (hf : X.fn y = true ∨ X.env.scope.names.lookup y = some .local := by first | exact .inl rfl | exact .inr rfl | assumption) (hj : X.N[j]? = some x := by rfl)
    (hv : Vis X.env.scope x := by first | exact Or.inl rfl | exact Or.inr (Or.inl rfl) | exact Or.inr (Or.inr rfl)) (hd1 : (x == ("__debug__" : Str)) = false := by decide) (hcd : (x == ("__classdict__" : Str)) = false := by decide)
    (hbase : attributeBase (.Name x p1) "pop" X.env (eval (.Name x p1) X.env) = eval (.Name x p1) X.env := by rfl)
    (hfew : ((backTo cpos (starEach [e] X.env)).all (fun x => !x.1) && (backToKw cpos (keywordEach [] X.env)).all (fun x => x.1.isSome) && decide (([e] : List Expr).length + ([] : List Keyword).length + (if ([] : List Keyword).isEmpty then 0 else 1) < 30)) = true := by rfl)
    (hline : (apos.endLine == cpos.line) = true := by rfl) (hs : starEach [e] X.env = [(false, eval e X.env)] := by rfl) (hsw : swapsWith (.Call (.Attribute (.Name x p1) "pop" apos) [e] [] cpos) (some (.Name y py)) pos.line X.env = pure false := by rfl) :
    BD X G (.Assign [.Name y py] (.Call (.Attribute (.Name x p1) "pop" apos) [e] [] cpos) pos :: rest) o := by
  refine bd_weak (pss_cons (ps_set hN hi hx (pe_bm PySem.F.plainAttrs_list PySem.F.slot_list_pop PySem.F.type_list_pop mt_popAt (pe_var hj hv hd1 hcd) (pa_cons he pa_nil hs) hbase hfew hline hs rfl) hsw hf) hr) fun D σ H ⟨B, O, Oc, hB, E, k1⟩ => ?_
  obtain ⟨l, vs, g1, g2, g3, g4⟩ := E.own j ds h0
  refine ⟨_, g1, .inl ⟨rfl, vs, SqL.of g3⟩, O, Oc, E, fun v H1 s1 r1 => ?_⟩
  have E1 := E.mono s1
  have g5 := s1 _ _ g3
  have g6 := daa_mono (same_hm (W := O ++ Oc) s1 fun _ h => h) g4
  obtain ⟨u, hu, ru⟩ := daa_get g6 hd
  have hk : k < ds.length := (List.getElem?_eq_some_iff.mp hd).1
  cases r1
  refine ⟨l, vs, (k : Int), k, u, rfl, rfl, g5, by omega, by omega, PySem.StrLaws.seqIndex_nonneg (by omega) (by rw [daa_len g6]; omega), hu, B, O, Oc, ?_, ?_, k1⟩
  · rw [hm_upd g2]
    exact hB.trans (same_hm s1 fun _ h => h)
  · refine (E1.put_own h0 g1 (daa_erase k g6)).set_val (m := .d d) ?_
    show Da (Hm _ _) u d
    rw [hm_upd (List.mem_append_left _ g2)]
    exact ru
/-- x = list(e): the body's own -/
theorem bd_setL (i : Nat) {x y : Str} {ds : List PyData} {p p1 pos cpos : Pos} (he : ED X G e (.d (.tuple ds))) (hr : BD X (G.set i (.own ds)) rest o) (hm : X.mg "list" = none) (hN : X.N.Nodup) (hi : X.N[i]? = some x := by rfl) (hx : Loc X.env.scope x := by first | exact Or.inl rfl | exact Or.inr rfl)
    (hg : Gl X "list" := by rfl) (hst : starEach [e] X.env = [(false, eval e X.env)] := by rfl) (hs : swapsWith (.Call (.Name "list" p1) [e] [] cpos) (some (.Name x p)) pos.line X.env = pure false := by rfl) (hf : X.fn x = true ∨ X.env.scope.names.lookup x = some .local := by first | exact .inl rfl | exact .inr rfl | assumption) :
    BD X G (.Assign [.Name x p] (.Call (.Name "list" p1) [e] [] cpos) pos :: rest) o := by
  refine bd_weak (pss_cons (ps_set hN hi hx (pe_callTy call_list_of hg hm PyProof.Rows.boot_list (pa_cons he pa_nil hst) (by decide) (by decide) hst rfl) hs hf) hr) fun D σ H ⟨B, O, Oc, hB, E, k⟩ => ⟨O, Oc, E, fun v H1 s1 r1 => ?_⟩
  cases r1 with
  | tup h1 h2 =>
    refine ⟨_, _, rfl, .inr (SqT.of (hm_get h1).2), fun p hp => ⟨B, p :: O, Oc, ?_, (E.mono s1).set_own hp h2, k⟩⟩
    rw [hm_cons hp]
    exact hB.trans (same_hm s1 fun _ h => h)
/-- x[a] = e, x the body's own -/
theorem bd_put (j : Nat) {x : Str} {a : Expr} {ds : List PyData} {k : Nat} {d : PyData} {p1 p2 pos : Pos} (he : ED X G e (.d d)) (hpg : PG X (.Subscript (.Name x p1) a p2) (gSub (tVar j) (tD X.K G (.d (.int k))) rSetL)) (hk : k < ds.length) (hr : BD X (G.set j (.own (ds.set k d))) rest o) (h0 : G[j]? = some (.own ds) := by rfl)
    (hs : swapsWithSole [.Subscript (.Name x p1) a p2] e pos.line X.env = pure false := by rfl) (hw : swappedStores [.Subscript (.Name x p1) a p2] e X.env = pure none := by rfl) : BD X G (.Assign [.Subscript (.Name x p1) a p2] e pos :: rest) o := by
  refine bd_weak (pss_cons (ps_asg he hpg hs hw) hr) fun D σ H ⟨B, O, Oc, hB, E, k1⟩ => ⟨O, Oc, E, fun v H1 s1 r1 => ?_⟩
  have E1 := E.mono s1
  obtain ⟨l, vs, g1, g2, g3, g4⟩ := E1.own j ds h0
  refine ⟨_, g1, O, Oc, E1, fun w H2 s2 r2 => ?_⟩
  cases r2
  have g5 := s2 _ _ g3
  have g6 := daa_mono (same_hm (W := O ++ Oc) s2 fun _ h => h) g4
  refine ⟨l, vs, (k : Int), k, rfl, rfl, g5, ?_, B, O, Oc, ?_, (E1.mono s2).put_own h0 g1 (daa_set k g6 (rm_mono (m := .d d) s2 r1)), k1⟩
  · unfold ixN
    rw [daa_len g6, if_pos (by omega), if_pos (by omega)]
    simp
  · rw [hm_upd g2]
    exact hB.trans (same_hm (s1.trans s2) fun _ h => h)
/-! ### truth of a tuple -/
theorem td_truT {ds : List PyData} (he : ED X G e (.d (.tuple ds))) (hw : ∀ whole, isTrue e X.env whole = (do let v ← whole; standAt e.pos; holding [v] (truthy v)) := by intro _; rfl) : TD X G e (!ds.isEmpty) :=
  td_of (pt_truth he hw) fun O Oc σ H Q E k => ⟨O, Oc, E, fun v H1 s1 r1 => by
    cases r1 with
    | @tup a vs _ h1 h2 =>
      refine ⟨!ds.isEmpty, .inr (.inl ⟨vs, SqT.of (hm_get h1).2, ?_⟩), k H1 s1⟩
      cases h2 <;> rfl⟩
/-! ### match upon a text -/
/-- the cases, the text known -/
def CD (X : Cx) (G : List En) (z : Str) (cs : List MatchCase) (o : Ou) : Prop := ∀ (pins : List (Addr × Obj)) (s : Shared) (σ : St) (H : Hp) (D : Ends) (t : Tok) (first : Bool), Inv X pins σ H s → tS X.K G o D σ H →
  wpAny (model X.prog X.w) X.A (matchCases cs X.env (.str z t) first) (SP X pins D) X.xe s
theorem eq_strs {pins : List (Addr × Obj)} {s : Shared} {σ : St} {H : Hp} {x y : Str} {t u : Tok} (I : Inv X pins σ H s) {Q : Value → Shared → Prop} (h : ∀ s', Inv X pins σ H s' → Q (.bool (decide (x = y))) s') : wpAny (model X.prog X.w) X.A (compareOp .Eq (.str x t) (.str y u)) Q X.xe s := by
  refine thn (op_eq pins s σ H (.str x) (.str y) _ _ (fun v H' => H' = H ∧ v = .bl (decide (x = y))) I ⟨t, rfl⟩ ⟨u, rfl⟩ ⟨rfl, rfl, ?_⟩) fun c s' ⟨v, H', I', r, e1, e2⟩ => ?_
  · simp
  · subst e1 e2
    cases r
    exact h s' I'
theorem pat_run {pins : List (Addr × Obj)} {s : Shared} {σ : St} {H : Hp} {x z : Str} {j : Nat} {t : Tok} {p pos : Pos} {Q : Option (List (Str × Value)) → Shared → Prop} (I : Inv X pins σ H s) (h : ∀ s', Inv X pins σ H s' → Q (if z = x then some [] else none) s') :
    wpAny (model X.prog X.w) X.A (matchPattern (.MatchValue (.Constant (.str x) j p) pos) X.env (.str z t)) Q X.xe s := by
  refine wpAny_matchPattern_Value (thn (pe_str.run pins s σ H (fun v H' => v = .str x ∧ H' = H) I ⟨rfl, rfl⟩) fun u s1 ⟨v, H1, I1, r, e1, e2⟩ => ?_)
  subst e1 e2
  obtain ⟨tu, rfl⟩ := r
  refine eq_strs I1 fun s2 I2 => wpAny_truthy_bool ?_
  have q := h s2 I2
  by_cases c : z = x
  · rw [if_pos c] at q
    rw [decide_eq_true c]
    exact q
  · rw [if_neg c] at q
    rw [decide_eq_false c]
    exact q
theorem cd_no {x z : Str} {g : Option Expr} {body : List Stmt} {cs : List MatchCase} {j : Nat} {p pos : Pos} (hn : z ≠ x) (h : CD X G z cs o) : CD X G z (⟨.MatchValue (.Constant (.str x) j p) pos, g, body⟩ :: cs) o := fun pins s σ H D t first I q => by
  refine wpAny_matchCases_cons (pat_run I fun s1 I1 => ?_)
  rw [if_neg hn]
  exact h pins s1 σ H D t false I1 q
theorem cd_yes {z : Str} {g : Expr} {body : List Stmt} {cs : List MatchCase} {j : Nat} {p pos : Pos} (hg : TD X G g true) (h : BD X G body o) : CD X G z (⟨.MatchValue (.Constant (.str z) j p) pos, some g, body⟩ :: cs) o := fun pins s σ H D t first I ⟨B, O, Oc, hB, E, k⟩ => by
  refine wpAny_matchCases_cons (pat_run I fun s1 I1 => ?_)
  rw [if_pos rfl]
  refine wpAny_assignInOrder_none (thn (hg.run pins s1 σ H (fun b H' => b = true ∧ Same H H') I1 ⟨O, Oc, E, fun H' s' => ⟨rfl, s'⟩⟩) fun b s2 ⟨H2, I2, e, s'⟩ => ?_)
  subst e
  exact h.run pins s2 σ H2 D I2 ⟨B, O, Oc, hB.trans (same_hm s' fun _ h => h), E.mono s', k⟩
theorem bd_match {z : Str} {cs : List MatchCase} {pos : Pos} (he : ED X G e (.d (.str z))) (h : CD X G z cs { o with nx := fun _ => False }) : BD X G (.Match e cs pos :: rest) o := by
  refine bd_cons (N := fun _ => False) ?_ fun _ n => n.elim
  refine ⟨fun pins s σ H D I ⟨B, O, Oc, hB, E, k⟩ => wpAny_Match ?_⟩
  refine thn (he.run pins s σ H (fun v H' => v = .str z ∧ Same H H') I ⟨O, Oc, E, fun v H' s' r => ?_⟩) fun u s1 ⟨v, H1, I1, r, e1, s'⟩ => ?_
  · cases r
    exact ⟨rfl, s'⟩
  · subst e1
    obtain ⟨t, rfl⟩ := r
    exact h pins s1 σ H1 D t true I1 ⟨B, O, Oc, hB.trans (same_hm s' fun _ h => h), E.mono s', k⟩
/-! ### a, *b = a tuple -/
def gStar (K : PySem.W.Frag) (t : TGs) : TG := fun v σ H Q => ∃ a x xs, v = .ref a ∧ SqT K H a (x :: xs) ∧ xs.length ≤ 1000 ∧ ∀ D, H D = none → t [x, .ref D] σ (upd H D (.lst xs)) Q
theorem pg_star {e1 e2 : Expr} {k : Nat} {pos : Pos} {t : TGs} (hc : X.calm = true) (h : PGs X [e1, e2] t) (hst : (assignEach [e1, e2] X.env).findIdx? (·.1) = some 1 := by rfl) (hlen : (assignEach [e1, e2] X.env).length = 2 := by rfl) : PG X (.Tuple [e1, e2] k pos) (gStar X.K t) := by
  refine ⟨fun pins s σ H v u Q I r hw => ?_⟩
  obtain ⟨a, x, xs, e1, hq, hl, hw⟩ := hw
  subst e1
  cases r
  obtain ⟨its, rv, ht, hz⟩ := I.tuple hq
  obtain ⟨m, F⟩ := I.fr
  cases rv with
  | @cons _ u0 _ us r0 rs =>
  have hus : us.length ≤ 1000 := by rw [← rs.length]; exact hl
  refine PySem.W.kun_assignT (i := 1) (n := 2) (first := [u0]) (mids := us) (lasts := []) F news_all ht (I.ok.hd hc) hlen hst (by omega) (by simp) (by simp; omega) (by simp) (by simp) (by simp) fun D h' tk F' N' l1 => ?_
  have kp : ∀ b ob, b ≠ X.env.locals → s.heap.get? b = some ob → h'.get? b = some ob := fun b ob n1 q => by
    cases z : X.base.get? b with
    | some v =>
      have := I.bk b v z
      rw [q] at this
      cases this
      exact F'.keep b _ z
    | none => exact (N' (b, ob) (List.mem_cons_of_mem _ (mem_allNews n1 z q))).1
  obtain ⟨hD1, hD2, hD3⟩ := N' (D, PySem.W.listOf us.toArray 0) List.mem_cons_self
  have noD : ∀ ob, s.heap.get? D ≠ some ob := fun ob q => by
    have := l1 (D, ob) (mem_allNews hD2 hD3 q)
    exact Nat.lt_irrefl _ this
  have hHD : H D = none := by
    cases q : H D with
    | none => rfl
    | some w =>
      have := I.hok.lt q
      cases z : s.heap.get? D with
      | some ob => exact absurd z (noD ob)
      | none =>
        rcases I.hok D w q with hh
        exfalso
        have : ∃ ob, s.heap.get? D = some ob := by
          cases w with
          | lst _ => obtain ⟨_, _, _, _, e⟩ := hh; exact ⟨_, e⟩
          | tup _ => obtain ⟨_, _, _, ob, e, _⟩ := hh; exact ⟨_, e⟩
          | dK _ => obtain ⟨_, _, _, _, ob, _, _, e, _⟩ := hh; exact ⟨_, e⟩
          | dT _ => obtain ⟨_, _, _, _, ob, _, _, e, _⟩ := hh; exact ⟨_, e⟩
          | set _ _ => obtain ⟨ob, _, _, _, e, _⟩ := hh; exact ⟨_, e⟩
          | ins _ _ _ => obtain ⟨_, _, _, e, _⟩ := hh; exact ⟨_, e⟩
          | own _ => exact hh
          | xd _ => obtain ⟨_, ⟨ob, _, _, e, _⟩, _⟩ := hh; exact ⟨_, e⟩
          | rng _ _ => obtain ⟨_, _, _, e⟩ := hh; exact ⟨_, e⟩
          | frz _ _ => obtain ⟨e, _⟩ := hh; exact ⟨_, e⟩
          | tbl _ => exact ⟨_, hh⟩
          | met _ _ => exact ⟨_, hh⟩
          | ext _ => obtain ⟨_, e, _⟩ := hh; exact e
        obtain ⟨ob, e⟩ := this
        exact noD ob e
  have I2 : Inv X pins σ (upd H D (.lst xs)) { s with heap := h', toks := tk } := by
    have tr : ∀ b w, H b = some w → b ≠ D := fun b w q z => by rw [z, hHD] at q; cases q
    have fl : H X.env.locals = none := I.free
    refine I.step (g' := s.gens) (d' := s.drawn) (ch := []) (fun _ z => nomatch z) (fun b ob n1 _ _ q _ => kp b ob n1 q) (fun b ob n1 _ _ q _ => ⟨ob.slots, kp b ob n1 q⟩) (fun b ob _ q n => ?_) (fun b ob _ q => ?_) (fun b ys q => by rw [upd_ne (tr b _ q)]; exact q) (fun b ob w q => by rw [upd_ne (tr b _ q)]; exact q) (fun b ps q => ⟨#[], by rw [upd_ne (tr b _ q), q]; simp⟩) (fun m' hm => ?_) ?_ I.bare
    · rw [upd_ne (show b ≠ D from fun z => noD ob (by rw [← z]; exact q))]
      exact n
    · by_cases z : b = X.env.locals
      · subst z
        obtain ⟨ob', _, _, e, _⟩ := F'.ns
        exact ⟨ob', e⟩
      · exact ⟨ob, kp b ob z q⟩
    · have : m' = m := funext fun x => hm.agree F.ns x
      rw [this]
      exact F'.ns
    · intro b w q
      by_cases z : b = D
      · subst z
        rw [upd_same] at q
        cases q
        exact ⟨sz100 (by omega), us, 0, rs, hD1⟩
      · rw [upd_ne z] at q
        refine (I.hok b w q).stay (fun c ob hc qc => kp c ob ?_ qc) (fun c qc => by rw [upd_ne (tr c _ qc)]; exact qc) fun c ys qc => by rw [upd_ne (tr c _ qc)]; exact qc
        rintro rfl
        rcases hc with rfl | hc
        · rw [fl] at q
          cases q
        · rw [fl] at hc
          cases hc
  refine thn (h.run pins _ σ _ [x, .ref D] _ Q I2 (.cons r0 (.cons rfl .nil)) (hw D hHD)) fun _ s' q => q
theorem pgs_last {e : Expr} {p : Pos} {t : TG} (h1 : PG X e t) (hs : (assignEach [.Starred e p] X.env).map (·.2) = [assign e X.env] := by rfl) : PGs X [.Starred e p] (gCons t gNil) := by
  refine ⟨fun pins s σ H vs us Q I r h => ?_⟩
  obtain ⟨v, vr, e1, h⟩ := h
  subst e1
  cases r with
  | cons r0 rr =>
    rw [hs]
    refine assignInOrder_cons (thn (h1.run pins s σ H _ _ _ I r0 h) fun _ s1 ⟨σ1, H1, I1, q1⟩ => ?_)
    obtain ⟨q2, q3⟩ := q1
    subst q2
    cases rr
    exact assignInOrder_nil ⟨σ1, H1, I1, q3⟩
/-- word, *items = e -/
theorem bd_setStar (i j : Nat) {x y : Str} {d : PyData} {ds : List PyData} {k : Nat} {px py ps pt pos : Pos} (he : ED X G e (.d (.tuple (d :: ds)))) (hz : ds.length ≤ 1000) (hr : BD X ((G.set i (.val (.d d))).set j (.val (.d (.list ds)))) rest o) (hN : X.N.Nodup) (hi : X.N[i]? = some x := by rfl) (hj : X.N[j]? = some y := by rfl)
    (hx : Loc X.env.scope x := by first | exact Or.inl rfl | exact Or.inr rfl) (hy : Loc X.env.scope y := by first | exact Or.inl rfl | exact Or.inr rfl)
    (hfx : X.fn x = true ∨ X.env.scope.names.lookup x = some .local := by first | exact .inl rfl | exact .inr rfl) (hfy : X.fn y = true ∨ X.env.scope.names.lookup y = some .local := by first | exact .inl rfl | exact .inr rfl)
    (hs1 : (assignEach [.Name x px, .Starred (.Name y py) ps] X.env).map (·.2) = assign (.Name x px) X.env :: (assignEach [.Starred (.Name y py) ps] X.env).map (·.2) := by rfl) (hs2 : (assignEach [.Starred (.Name y py) ps] X.env).map (·.2) = [assign (.Name y py) X.env] := by rfl)
    (hst : (assignEach [.Name x px, .Starred (.Name y py) ps] X.env).findIdx? (·.1) = some 1 := by rfl) (hlen : (assignEach [.Name x px, .Starred (.Name y py) ps] X.env).length = 2 := by rfl) (hc : X.calm = true := by rfl)
    (hs : swapsWithSole [.Tuple [.Name x px, .Starred (.Name y py) ps] k pt] e pos.line X.env = pure false := by rfl) (hw : swappedStores [.Tuple [.Name x px, .Starred (.Name y py) ps] k pt] e X.env = pure none := by rfl) :
    BD X G (.Assign [.Tuple [.Name x px, .Starred (.Name y py) ps] k pt] e pos :: rest) o := by
  refine bd_weak (pss_cons (ps_asg he (pg_star hc (pgs_cons (pg_name hN hi hx hfx) (pgs_last (pg_name hN hj hy hfy) hs2) hs1) hst hlen) hs hw) hr) fun D σ H ⟨B, O, Oc, hB, E, k1⟩ => ⟨O, Oc, E, fun v H1 s1 r1 => ?_⟩
  have E1 := E.mono s1
  cases r1 with
  | @tup a vs _ h1 h2 =>
    cases h2 with
    | @cons v0 vr _ _ r0 rr =>
    refine ⟨a, v0, vr, rfl, SqT.of (hm_get h1).2, by rw [daa_len rr]; exact hz, fun L hL => ?_⟩
    have E2 := E1.mono (same_new (o := .lst vr) hL)
    refine ⟨_, _, rfl, _, _, rfl, rfl, ?_⟩
    refine ⟨B, O, Oc, hB.trans (same_hm (s1.trans (same_new hL)) fun _ h => h), ?_, k1⟩
    exact (E2.set_val (m := .d d) (da_mono (same_hm (same_new hL) fun _ h => h) r0)).set_val (m := .d (.list ds)) (da_newL hL E1.inW rr)
end
end Tw

set_option maxHeartbeats 4000000
namespace Tw
open PySem PySem.Spec L2
open PyProof.Rows hiding St

/-! ### enumerate over a tuple -/
abbrev tupItO (t : Addr) : Obj := { cls := .type "tuple_iterator", data := .fields #[.ref t, .int 0 0] }
abbrev enumO (it : Addr) : Obj := { cls := .type "enumerate", data := .fields #[.none, .bool false, .ref it, rawInt 0, .none, .none] }
set_option maxHeartbeats 8000000 in
theorem enum_newT (t : Addr) (items : Array Value) : Meets (Builtin.«enumerate.__new__» ⟨[.type "enumerate", .ref t], []⟩)
    (fun _ R s => s.heap.IsTuple t items ∧ R (.ok (.ret (.ref (s.heap.push (tupItO t)).objs.size))) { s with heap := (s.heap.push (tupItO t)).push (enumO s.heap.objs.size) }) :=
  .of_wp fun prog w A R s ⟨ht, q⟩ => by
    obtain ⟨hp, g, d, tk, os⟩ := s
    have sub0 := sub_enumerate
    have it0 : ∀ {A' : Around} {E Q : Value → Shared → Prop}, Q (.ref hp.objs.size) ⟨hp.push (tupItO t), g, d, tk, os⟩ → wpAny (model prog w) A' (pyIter (.ref t)) Q E ⟨hp, g, d, tk, os⟩ := fun k => wpAny_pyIter_tuple ht k
    wp_walk using it0
    refine wpAny_stack_any fun st => wpAny_pure ?_
    split
    · next c _ _ _ _ _ =>
      cases (c == Value.type "enumerate") <;> (wp_walk using it0; exact ⟨_, rfl, q⟩)
    · wp_walk using it0
      exact ⟨_, rfl, q⟩
section
variable {prog : Program} {w : World} {A : Around} {E : Value → Shared → Prop} {s : Shared}
theorem enum_callT {t : Addr} {items : Array Value} {Q : Value → Shared → Prop} (ht : s.heap.IsTuple t items)
    (k : ∀ h', IsEnum h' (s.heap.objs.size + 1) s.heap.objs.size 0 .none → h'.IsTupleIter s.heap.objs.size t 0 → (∀ b o, s.heap.get? b = some o → h'.get? b = some o) → Q (.ref (s.heap.objs.size + 1)) { s with heap := h' }) :
    wpAny (model prog w) A (call (.type "enumerate") [.ref t]) Q E s := by
  refine callType_new F.called_enumerate (by decide) (F.typeCall_enumerate_1 _) (F.newCall_enumerate_1 _) (fun obj => F.args_object_init_2 obj _) F.entry_enumerate_new (enum_newT t items) ⟨ht, ?_⟩
  have z : (s.heap.push (tupItO t)).objs.size = s.heap.objs.size + 1 := Heap.size_push ..
  have en : IsEnum ((s.heap.push (tupItO t)).push (enumO s.heap.objs.size)) (s.heap.objs.size + 1) s.heap.objs.size 0 .none := by
    have q := Heap.get?_push_size (s.heap.push (tupItO t)) (o := enumO s.heap.objs.size) rfl
    rw [z] at q
    exact q
  show _ ∧ _
  rw [z]
  exact ⟨⟨_, en, rfl⟩, k _ en ⟨_, Heap.get?_push_of_some _ (Heap.get?_push_size _ rfl), rfl, rfl⟩ fun b o q => Heap.get?_push_of_some _ (Heap.get?_push_of_some _ q)⟩
end
/-- the tuple at a, each item in a new pair -/
def ItT (K : PySem.W.Frag) (a : Addr) : It :=
  ⟨fun i H => ∃ (xs : List V) (x : V), SqT K H a xs ∧ xs[i]? = some x, fun i H v H' => ∃ T x, v = .ref T ∧ H T = none ∧ H' = upd H T (.tup [.int (i : Nat), x]) ∧ ∀ xs, SqT K H a xs → xs[i]? = some x, fun i H => ∃ xs : List V, SqT K H a xs ∧ xs.length = i⟩
theorem walk_enumT {K : PySem.W.Frag} {a : Addr} {xs : List V} : Walk (ItT K a) xs.length (fun H => SqT K H a xs) (YPair (fun i => some (.int (i : Nat))) (fun i => xs[i]?)) := by
  refine ⟨fun i _ hi q => ⟨xs, xs[i], q, by simp [hi]⟩, fun _ q => ⟨xs, q, rfl⟩, fun i H v H' _ q y => ?_⟩
  obtain ⟨T, x, h1, h2, h3, h4⟩ := y
  exact ⟨T, .int (i : Nat), x, h1, h2, h3, rfl, h4 xs q⟩
theorem turn_enumT {P : Program} {w : World} {K : PySem.W.Frag} {elts : List Expr} {kk : Nat} {tpos : Pos} (a e it : Addr) (ha : a ≠ it) :
    Turn P w K (.Tuple elts kk tpos) (ItT K a) [e, it] e (fun i h => (∃ old, IsEnum h e it ((i : Nat) : Int) old) ∧ h.IsTupleIter it a i ∧ e ≠ it ∧ e ≠ a) where
  mem := List.mem_cons_self
  obj := fun i h ⟨⟨old, en⟩, ⟨o, h1, _, h3⟩, _⟩ b hb => by
    rcases List.mem_cons.mp hb with z | z
    · subst z
      exact ⟨_, en, fun v q => nomatch q⟩
    · rw [List.mem_singleton.mp z]
      exact ⟨o, h1, fun v q => by rw [h3] at q; cases q⟩
  keep := fun i h h' ⟨⟨old, en⟩, ⟨o, h1, h2⟩, n⟩ k => ⟨⟨old, k e List.mem_cons_self _ en⟩, ⟨o, k it (List.mem_cons_of_mem _ List.mem_cons_self) _ h1, h2⟩, n⟩
  item := by
    intro X hP hw hK hc i pins s σ H E I hf ⟨⟨old, en⟩, ti, n1, n2⟩ ⟨xs, x, hq, hx⟩
    subst hP hw hK
    obtain ⟨its, rv, p, hz⟩ := I.tuple hq
    obtain ⟨u, hu, ru⟩ := rv.get hx
    have le : e < s.heap.objs.size := Heap.lt_size en
    have li : it < s.heap.objs.size := let ⟨_, q, _⟩ := ti; Heap.lt_size q
    have pT : s.heap.IsTuple a its.toArray := p
    have hi : i < its.toArray.size := by
      rw [List.size_toArray]
      exact (List.getElem?_eq_some_iff.mp hu).1
    refine wpAny_pyNext_enum_itemD (Draws.tuple (A := X.A.in1) (I.ok.hd hc) it a ha its.toArray) en ⟨ti, pT⟩ hi n1 (fun z => ?_) fun x' h' tk px eo st hT hsz hk => ?_
    · rcases List.mem_cons.mp z with z | z
      · exact n1 z
      · exact n2 (List.mem_singleton.mp z)
    have ex : x' = u := by
      have q : its.toArray[i]? = some x' := px
      rw [List.getElem?_toArray, hu] at q
      exact (Option.some.inj q).symm
    subst ex
    refine ⟨_, rfl, wpAny_letOwnedTupleGo_enum (s := { s with heap := h', toks := tk + 1 }) eo fun h2 en2 sb => ?_⟩
    have hT2 : h2.get? s.heap.objs.size = some { cls := .type "tuple", data := .seq #[.int i tk, x'] } := (sb.2 _ (Nat.ne_of_gt le)).trans hT
    have new : ObjOk X.prog X.w (upd H s.heap.objs.size (.tup [.int (i : Nat), x])) h2 s.heap.objs.size (.tup [.int (i : Nat), x]) :=
      ⟨sz100 (by simp), [.int i tk, x'], .cons ⟨_, rfl⟩ (.cons ru .nil), ⟨_, hT2, rfl, _, rfl⟩⟩
    have I1 := I.turnedNew (t' := tk + 1) (ch := [e, it]) (fun b ob hb q => (sb.2 b fun z => hb (z ▸ List.mem_cons_self)).trans (hk b ob (fun z => hb (z ▸ List.mem_cons_self)) (fun z => hb (z ▸ List.mem_cons_of_mem _ List.mem_cons_self)) q)) hf (Nat.le_refl _) new
    refine ⟨.ref s.heap.objs.size, _, I1, rfl, ⟨_, x, rfl, I.hok.fresh (Nat.le_refl _), rfl, fun ys hy => by rw [I.tuple_inj hy hq]; exact hx⟩, ⟨⟨x', ?_⟩, ?_, n1, n2⟩, fun b hb => ?_⟩
    · rw [show ((i + 1 : Nat) : Int) = (i : Int) + 1 from by omega]
      exact en2
    · obtain ⟨o, q1, q2⟩ := st.1
      exact ⟨o, (sb.2 it (Ne.symm n1)).trans q1, q2⟩
    · have lb : b < s.heap.objs.size := by
        rcases List.mem_cons.mp hb with z | z
        · rw [z]; exact le
        · rw [List.mem_singleton.mp z]; exact li
      rw [upd_ne (Nat.ne_of_lt lb)]
      exact (hf b hb).1
  done := by
    intro X hP hw hK hc i pins s σ H E I hf ⟨⟨old, en⟩, ti, n1, n2⟩ ⟨xs, hq, hx⟩
    subst hP hw hK
    obtain ⟨its, rv, p, hz⟩ := I.tuple hq
    have pT : s.heap.IsTuple a its.toArray := p
    obtain ⟨f0, f1, f2, f3, f4, f5⟩ := hf it (List.mem_cons_of_mem _ List.mem_cons_self)
    have ei : i = its.toArray.size := by rw [List.size_toArray, ← rv.length, hx]
    subst ei
    exact wpAny_pyNext_enum_endD (Draws.tuple (A := X.A.in1) (I.ok.hd hc) it a ha its.toArray) en ⟨ti, pT⟩ fun h' eb => ⟨rfl, I.turned (t' := s.toks) (fun b o hb q => eb b o hb q) f0 f1 f3 f4 f5⟩
  self := fun A i s Q E ⟨⟨old, en⟩, _⟩ k => wpAny_pyIter_enum en k
def iEnumT (K : PySem.W.Frag) (ta : TA) : TI := fun σ H R => ta σ H fun vs H1 => ∃ a xs, vs = [.ref a] ∧ SqT K H1 a xs ∧ R (ItT K a) H1
theorem pi_enumT {X : Cx} {e : Expr} {ta : TA} {p pos tpos : Pos} {elts : List Expr} {kk : Nat} (hg : Gl X "enumerate") (hm : X.mg "enumerate" = none) (ha : PA X [e] ta) (hs : starEach [e] X.env = [(false, eval e X.env)] := by rfl) :
    PI X (.Tuple elts kk tpos) (.Call (.Name "enumerate" p) [e] [] pos) (iEnumT X.K ta) := by
  refine ⟨fun pins s σ H R I q => ?_⟩
  refine PyProof.Rows.Call_ (ld_blt I hg hm PyProof.Rows.boot_enumerate (PyProof.Rows.callWith_type1 (thn (ha.run pos pins s σ H _ I q) fun us s1 ⟨vs, H1, I1, r1, a, xs, ex, hq, k⟩ => ?_) hs rfl))
  subst ex
  obtain ⟨u, rfl, r⟩ := vals1 r1
  cases r
  obtain ⟨its, rv, p', hz⟩ := I1.tuple hq
  have pT : s1.heap.IsTuple a its.toArray := p'
  have la : a < s1.heap.objs.size := let ⟨_, z, _⟩ := p'; Heap.lt_size z
  refine enum_callT pT fun h' en ti hk => wpAny_pyIter_enum en ?_
  have I2 : Inv X pins σ H1 { s1 with heap := h' } := I1.kept (t' := s1.toks) hk
  refine ⟨s1.heap.objs.size + 1, [s1.heap.objs.size + 1, s1.heap.objs.size], _, _, H1, rfl, I2, turn_enumT a (s1.heap.objs.size + 1) s1.heap.objs.size (Nat.ne_of_lt la), ⟨⟨.none, en⟩, ti, Nat.succ_ne_self _, Nat.ne_of_gt (Nat.lt_succ_of_lt la)⟩, fun b hb => ?_, k⟩
  have le : s1.heap.objs.size ≤ b := by
    rcases List.mem_cons.mp hb with z | z
    · rw [z]
      exact Nat.le_succ _
    · rw [List.mem_singleton.mp z]
      exact Nat.le_refl _
  exact I1.fpOk le (I1.hok.fresh le)
section
variable {X : Cx} {G : List En} {e : Expr}
theorem it_et {ds : List PyData} {elts : List Expr} {kk : Nat} {tpos p pos : Pos} (ha : ED X G e (.d (.tuple ds))) (hm : X.mg "enumerate" = none) (hg : Gl X "enumerate" := by rfl) (hs : starEach [e] X.env = [(false, eval e X.env)] := by rfl) :
    ItD X G (.Tuple elts kk tpos) (.Call (.Name "enumerate" p) [e] [] pos) ds.length (fun i => .tuple [.int (i : Nat), nthP ds i]) := by
  refine ⟨_, pi_enumT hg hm (pa_cons ha pa_nil hs) hs, fun O Oc σ H R E k => ⟨O, Oc, E, fun v H1 s1 r1 => ?_⟩⟩
  cases r1 with
  | @tup a vs _ h1 h2 =>
    refine ⟨a, vs, rfl, SqT.of (hm_get h1).2, k _ H1 s1 ?_⟩
    rw [← daa_len h2]
    refine (walk_enumT (K := X.K) (a := a) (xs := vs)).mono (fun H2 s2 => SqT.of (s2 _ _ h1)) fun i H2 v H3 hi s2 y => ?_
    obtain ⟨T, x, y, rfl, hT, rfl, hx, hy⟩ := y
    cases hx
    obtain ⟨d, h3, h4⟩ := daa_get' h2 hy
    refine ⟨same_new hT, fun W hW sW => ?_⟩
    show Da _ _ (.tuple [.int (i : Nat), nthP ds i])
    rw [nthP_get h3]
    exact da_newT hT hW (.cons (.int _) (.cons (da_mono sW h4) .nil))
end
end Tw

set_option maxHeartbeats 4000000
/-! Terms, plain. -/
namespace Tw
open PySem

inductive Tm where
  | v (x : Str)
  | c (f : Str)
  | u (f : Str) (t : Tm)
  | b (f : Str) (s t : Tm)
  deriving DecidableEq
namespace Tm
def d : Tm → PyData
  | v x => .str x
  | c f => .tuple [.str f]
  | u f t => .tuple [.str f, t.d]
  | b f s t => .tuple [.str f, s.d, t.d]
def dep : Tm → Nat
  | v _ => 0
  | c _ => 1
  | u _ t => t.dep + 1
  | b _ s t => max s.dep t.dep + 1
def sz : Tm → Nat
  | v _ => 1
  | c _ => 1
  | u _ t => t.sz + 1
  | b _ s t => s.sz + t.sz + 1
end Tm
theorem depth_d : ∀ t : Tm, t.d.depth = t.dep
  | .v x => rfl
  | .c f => rfl
  | .u f t => by simp [Tm.d, Tm.dep, PyData.depth, PyData.depthAll, depth_d t]
  | .b f s t => by simp [Tm.d, Tm.dep, PyData.depth, PyData.depthAll, depth_d s, depth_d t]
theorem str_beq (x y : Str) : (x == y) = decide (x = y) := by
  by_cases h : x = y <;> simp [h]
theorem eqv_d : ∀ s t : Tm, PyData.eqv s.d t.d = decide (s = t)
  | .v x, .v y => by simp [Tm.d, PyData.eqv, str_beq]
  | .c f, .c g => by simp [Tm.d, PyData.eqv, PyData.eqvAll, str_beq]
  | .u f s, .u g t => by simp [Tm.d, PyData.eqv, PyData.eqvAll, str_beq, eqv_d s t]
  | .b f s t, .b g p q => by simp [Tm.d, PyData.eqv, PyData.eqvAll, str_beq, eqv_d s p, eqv_d t q]
  | .v x, .c g => by simp [Tm.d, PyData.eqv, str_beq]
  | .v x, .u g t => by simp [Tm.d, PyData.eqv, str_beq]
  | .v x, .b g p q => by simp [Tm.d, PyData.eqv, str_beq]
  | .c f, .v y => by simp [Tm.d, PyData.eqv, str_beq]
  | .u f s, .v y => by simp [Tm.d, PyData.eqv, str_beq]
  | .b f s t, .v y => by simp [Tm.d, PyData.eqv, str_beq]
  | .c f, .u g t => by simp [Tm.d, PyData.eqv, PyData.eqvAll, str_beq]
  | .c f, .b g p q => by simp [Tm.d, PyData.eqv, PyData.eqvAll, str_beq]
  | .u f s, .c g => by simp [Tm.d, PyData.eqv, PyData.eqvAll, str_beq]
  | .u f s, .b g p q => by simp [Tm.d, PyData.eqv, PyData.eqvAll, str_beq]
  | .b f s t, .c g => by simp [Tm.d, PyData.eqv, PyData.eqvAll, str_beq]
  | .b f s t, .u g p => by simp [Tm.d, PyData.eqv, PyData.eqvAll, str_beq]
theorem d_inj {s t : Tm} (h : s.d = t.d) : s = t := by
  have e := eqv_d s t
  have e2 := eqv_d s s
  rw [h] at e2
  rw [h] at e
  rw [e] at e2
  simpa using e2

/-! ### names -/
def vNames : List Str := ["X", "Y1", "X10010", "X1", "Y", "X2", "X01", "X10011"]
def sNames : List Str := ["g", "g2h2g2h1", "hg", "g1", "g2h2g2h2", "gg", "h1", "h2", "g2", "h", "m0", "m1", "m2", "m3", "m4", "m5", "m6", "m7", "m8", "m9", "m10", "m11"]
/-- a name: its signs, none of them a quote; what repr makes of it -/
structure NameOk (x : Str) : Prop where
  q : ∀ n ∈ x.cps.toList, n ≠ 39
  r : (reprText x).cps.toList = 39 :: (x.cps.toList ++ [39])
  ok : PyData.strOk x = true
  len : x.length ≤ 8
  pos : 1 ≤ x.length
def nameB (x : Str) : Bool := (x.cps.toList.all fun n => decide (n ≠ 39)) && decide ((reprText x).cps.toList = 39 :: (x.cps.toList ++ [39])) && PyData.strOk x && decide (x.length ≤ 8) && decide (1 ≤ x.length)
theorem nameB_ok {x : Str} (h : nameB x = true) : NameOk x := by
  unfold nameB at h
  simp only [Bool.and_eq_true, decide_eq_true_eq, List.all_eq_true] at h
  obtain ⟨⟨⟨⟨h1, h2⟩, h3⟩, h4⟩, h5⟩ := h
  exact ⟨h1, h2, h3, h4, h5⟩
theorem vNames_ok : ∀ x ∈ vNames, NameOk x := fun x hx => nameB_ok (List.all_eq_true.mp (show vNames.all nameB = true by decide +kernel) x hx)
theorem sNames_ok : ∀ x ∈ sNames, NameOk x := fun x hx => nameB_ok (List.all_eq_true.mp (show sNames.all nameB = true by decide +kernel) x hx)

/-! ### signatures -/
namespace Sg
def rk (ss : Sg) (f : Str) : Nat := ss.findIdx fun s => decide (s.n = f)
def ar (ss : Sg) (f : Str) : Nat := ((ss.find? fun s => decide (s.n = f)).map Sy.ar).getD 9
def tw (ss : Sg) (f : Str) : Bool := ((ss.find? fun s => decide (s.n = f)).map Sy.tw).getD false
/-- the two-way symbols' names -/
def two (ss : Sg) : List Str := (ss.filter (·.tw)).map (·.n)
structure Good (ss : Sg) : Prop where
  nd : (ss.map (·.n)).Nodup
  nm : ∀ s ∈ ss, s.n ∈ sNames
  ar : ∀ s ∈ ss, s.ar ≤ 2
  tw : ∀ s ∈ ss, s.tw = true → s.ar = 2
  len : ss.length ≤ 12
end Sg
theorem find_of {ss : Sg} (nd : (ss.map (·.n)).Nodup) {s : Sy} (h : s ∈ ss) : ss.find? (fun t => decide (t.n = s.n)) = some s := by
  induction ss with
  | nil => cases h
  | cons a r ih =>
    rw [List.map_cons, List.nodup_cons] at nd
    rcases List.mem_cons.mp h with e | h
    · subst e
      simp
    · have ne : a.n ≠ s.n := fun e => nd.1 (e ▸ List.mem_map.mpr ⟨s, h, rfl⟩)
      rw [List.find?_cons]
      simp only [ne, decide_false]
      exact ih nd.2 h
theorem Sg.Good.find {ss : Sg} (g : ss.Good) {s : Sy} (h : s ∈ ss) : ss.ar s.n = s.ar ∧ ss.tw s.n = s.tw ∧ ss[ss.rk s.n]? = some s := by
  have e := find_of g.nd h
  refine ⟨by unfold Sg.ar; rw [e]; rfl, by unfold Sg.tw; rw [e]; rfl, ?_⟩
  unfold Sg.rk
  have hlt : ss.findIdx (fun t => decide (t.n = s.n)) < ss.length := List.findIdx_lt_length_of_exists ⟨s, h, by simp⟩
  have h2 := List.findIdx_getElem (w := hlt) (p := fun t : Sy => decide (t.n = s.n))
  rw [List.getElem?_eq_getElem hlt]
  have hm : ss[ss.findIdx fun t => decide (t.n = s.n)] ∈ ss := List.getElem_mem hlt
  have e2 := find_of g.nd hm
  have e3 : (ss[ss.findIdx fun t => decide (t.n = s.n)]).n = s.n := by simpa using h2
  rw [e3, e] at e2
  exact e2.symm
/-- a term of the signature -/
def Ok (ss : Sg) : Tm → Prop
  | .v x => x ∈ vNames
  | .c f => ∃ s ∈ ss, s.n = f ∧ s.ar = 0
  | .u f t => (∃ s ∈ ss, s.n = f ∧ s.ar = 1) ∧ Ok ss t
  | .b f s t => (∃ y ∈ ss, y.n = f ∧ y.ar = 2) ∧ Ok ss s ∧ Ok ss t
theorem sy_eq {ss : Sg} (g : ss.Good) {s t : Sy} (hs : s ∈ ss) (ht : t ∈ ss) (e : s.n = t.n) : s = t := by
  have h1 := find_of g.nd hs
  have h2 := find_of g.nd ht
  rw [e, h2] at h1
  exact (Option.some.inj h1).symm
theorem rk_inj {ss : Sg} (g : ss.Good) {s t : Sy} (hs : s ∈ ss) (ht : t ∈ ss) (e : ss.rk s.n = ss.rk t.n) : s = t := by
  have h1 := (g.find hs).2.2
  have h2 := (g.find ht).2.2
  rw [e, h2] at h1
  exact (Option.some.inj h1).symm

theorem eqvI (i j : Int) : PyData.eqv (.int i) (.int j) = (i == j) := rfl
theorem eqvS (x y : Str) : PyData.eqv (.str x) (.str y) = (x == y) := rfl
theorem eqvT (xs ys : List PyData) : PyData.eqv (.tuple xs) (.tuple ys) = PyData.eqvAll xs ys := rfl
/-! ### the order of terms -/
/-- what term_order gives -/
def key (ss : Sg) : Tm → PyData
  | .v x => .tuple [.int 0, .int x.length, .str x]
  | .c f => .tuple [.int 1, .int (ss.rk f)]
  | .u f t => .tuple [.int 1, .int (ss.rk f), key ss t]
  | .b f s t => .tuple [.int 1, .int (ss.rk f), key ss s, key ss t]
def Tm.hd : Tm → Str
  | .v x => x
  | .c f => f
  | .u f _ => f
  | .b f _ _ => f
def Tm.lt (ss : Sg) : Tm → Tm → Bool
  | .v x, .v y => if x.length = y.length then (if x = y then false else decide (x.cps.toList < y.cps.toList)) else decide ((x.length : Int) < y.length)
  | .v _, _ => true
  | _, .v _ => false
  | .u f s, .u g t => if ss.rk f = ss.rk g then (if s = t then false else Tm.lt ss s t) else decide ((ss.rk f : Int) < ss.rk g)
  | .b f s t, .b g p q => if ss.rk f = ss.rk g then (if s = p then (if t = q then false else Tm.lt ss t q) else Tm.lt ss s p) else decide ((ss.rk f : Int) < ss.rk g)
  | s, t => decide ((ss.rk s.hd : Int) < ss.rk t.hd)
theorem depth_key (ss : Sg) : ∀ t : Tm, (key ss t).depth ≤ t.dep + 1
  | .v x => by simp [key, Tm.dep, PyData.depth, PyData.depthAll]
  | .c f => by simp [key, Tm.dep, PyData.depth, PyData.depthAll]
  | .u f t => by
    have := depth_key ss t
    simp only [key, Tm.dep, PyData.depth, PyData.depthAll]
    omega
  | .b f s t => by
    have h1 := depth_key ss s
    have h2 := depth_key ss t
    simp only [key, Tm.dep, PyData.depth, PyData.depthAll]
    omega
section
variable {ss : Sg} (g : ss.Good)
include g
theorem rk_beq {s t : Sy} {f h : Str} (hs : s ∈ ss) (ht : t ∈ ss) (e1 : s.n = f) (e2 : t.n = h) : ((ss.rk f : Int) == ss.rk h) = decide (f = h) := by
  subst e1 e2
  by_cases e : s.n = t.n
  · simp [e]
  · have z : ¬ ss.rk s.n = ss.rk t.n := fun z => e (congrArg Sy.n (rk_inj g hs ht z))
    have z2 : ¬ ((ss.rk s.n : Nat) : Int) = (ss.rk t.n : Nat) := fun w => z (Int.ofNat.inj w)
    rw [decide_eq_false e]
    exact beq_eq_false_iff_ne.mpr z2
theorem eqv_key : ∀ s t : Tm, Ok ss s → Ok ss t → PyData.eqv (key ss s) (key ss t) = decide (s = t)
  | .v x, .v y, _, _ => by
    by_cases e : x = y
    · subst e
      simp [key, eqvT, eqvI, eqvS, PyData.eqvAll, str_beq]
    · simp [key, eqvT, eqvI, eqvS, PyData.eqvAll, e, str_beq]
  | .c f, .c h, ⟨s, hs, e1, _⟩, ⟨t, ht, e2, _⟩ => by
    have z : ((ss.rk f : Int) == ss.rk h) = decide (f = h) := rk_beq g hs ht e1 e2
    simp only [key, eqvT, eqvI, eqvS, PyData.eqvAll, z, Tm.c.injEq, Bool.and_true, beq_self_eq_true, Bool.true_and]
  | .u f p, .u h q, ⟨⟨s, hs, e1, _⟩, hp⟩, ⟨⟨t, ht, e2, _⟩, hq⟩ => by
    have z : ((ss.rk f : Int) == ss.rk h) = decide (f = h) := rk_beq g hs ht e1 e2
    have ih := eqv_key p q hp hq
    simp [key, eqvT, eqvI, eqvS, PyData.eqvAll, z, ih]
  | .b f p q, .b h p' q', ⟨⟨s, hs, e1, _⟩, hp, hq⟩, ⟨⟨t, ht, e2, _⟩, hp', hq'⟩ => by
    have z : ((ss.rk f : Int) == ss.rk h) = decide (f = h) := rk_beq g hs ht e1 e2
    have ih1 := eqv_key p p' hp hp'
    have ih2 := eqv_key q q' hq hq'
    simp [key, eqvT, eqvI, eqvS, PyData.eqvAll, z, ih1, ih2]
  | .v x, .c h, _, _ => by simp [key, eqvT, eqvI, eqvS, PyData.eqvAll]
  | .v x, .u h t, _, _ => by simp [key, eqvT, eqvI, eqvS, PyData.eqvAll]
  | .v x, .b h p q, _, _ => by simp [key, eqvT, eqvI, eqvS, PyData.eqvAll]
  | .c f, .v y, _, _ => by simp [key, eqvT, eqvI, eqvS, PyData.eqvAll]
  | .u f s, .v y, _, _ => by simp [key, eqvT, eqvI, eqvS, PyData.eqvAll]
  | .b f s t, .v y, _, _ => by simp [key, eqvT, eqvI, eqvS, PyData.eqvAll]
  | .c f, .u h t, _, _ => by simp [key, eqvT, eqvI, eqvS, PyData.eqvAll]
  | .c f, .b h p q, _, _ => by simp [key, eqvT, eqvI, eqvS, PyData.eqvAll]
  | .u f s, .c h, _, _ => by simp [key, eqvT, eqvI, eqvS, PyData.eqvAll]
  | .u f s, .b h p q, _, _ => by simp [key, eqvT, eqvI, eqvS, PyData.eqvAll]
  | .b f s t, .c h, _, _ => by simp [key, eqvT, eqvI, eqvS, PyData.eqvAll]
  | .b f s t, .u h p, _, _ => by simp [key, eqvT, eqvI, eqvS, PyData.eqvAll]
end
end Tw

set_option maxHeartbeats 4000000
namespace Tw
open PySem
theorem cps_ne {x y : Str} (h : x ≠ y) : x.cps.toList ≠ y.cps.toList := fun e => h (by
  cases x
  cases y
  congr
  exact Array.toList_inj.mp e)
theorem strLt_tot {x y : Str} (h : x ≠ y) : x.cps.toList < y.cps.toList ∨ y.cps.toList < x.cps.toList := by
  by_cases h1 : x.cps.toList < y.cps.toList
  · exact .inl h1
  · by_cases h2 : y.cps.toList < x.cps.toList
    · exact .inr h2
    · exact absurd (List.le_antisymm (List.not_lt.mp h2) (List.not_lt.mp h1)) (cps_ne h)
theorem strLt_asym {x y : Str} (h : x.cps.toList < y.cps.toList) : ¬ y.cps.toList < x.cps.toList := List.lt_asymm h
section
variable {ss : Sg} (g : ss.Good)
include g
theorem hd_ne {s t : Sy} (hs : s ∈ ss) (ht : t ∈ ss) (h : s ≠ t) : ss.rk s.n ≠ ss.rk t.n := fun e => h (rk_inj g hs ht e)
theorem rk_or {a b : Bool} {i j : Nat} (n : i ≠ j) (h1 : a = decide ((i : Int) < j)) (h2 : b = decide ((j : Int) < i)) : a = true ∨ b = true := by
  subst h1 h2
  rcases Nat.lt_or_gt_of_ne n with h | h
  · exact .inl (decide_eq_true (by omega))
  · exact .inr (decide_eq_true (by omega))
theorem lt_tot : ∀ s t : Tm, Ok ss s → Ok ss t → s ≠ t → s.lt ss t = true ∨ t.lt ss s = true
  | .v x, .v y, _, _, n => by
    have n2 : x ≠ y := fun e => n (e ▸ rfl)
    unfold Tm.lt
    by_cases e : x.length = y.length
    · rw [if_pos e, if_pos e.symm, if_neg n2, if_neg (Ne.symm n2)]
      rcases strLt_tot n2 with h | h
      · exact .inl (decide_eq_true h)
      · exact .inr (decide_eq_true h)
    · rw [if_neg e, if_neg (Ne.symm e)]
      rcases Nat.lt_or_gt_of_ne e with h | h
      · exact .inl (decide_eq_true (by omega))
      · exact .inr (decide_eq_true (by omega))
  | .v x, .c h, _, _, _ => .inl rfl
  | .v x, .u h t, _, _, _ => .inl rfl
  | .v x, .b h p q, _, _, _ => .inl rfl
  | .c f, .v y, _, _, _ => .inr rfl
  | .u f s, .v y, _, _, _ => .inr rfl
  | .b f s t, .v y, _, _, _ => .inr rfl
  | .c f, .c h, ⟨s, hs, e1, a1⟩, ⟨t, ht, e2, a2⟩, n => by
    have := hd_ne g hs ht fun e => n (by rw [← e1, ← e2, e])
    subst e1 e2
    exact rk_or g this rfl rfl
  | .c f, .u h p, ⟨s, hs, e1, a1⟩, ⟨⟨t, ht, e2, a2⟩, _⟩, n => by
    have := hd_ne g hs ht fun e => by rw [e, a2] at a1; cases a1
    subst e1 e2
    exact rk_or g this rfl rfl
  | .c f, .b h p q, ⟨s, hs, e1, a1⟩, ⟨⟨t, ht, e2, a2⟩, _⟩, n => by
    have := hd_ne g hs ht fun e => by rw [e, a2] at a1; cases a1
    subst e1 e2
    exact rk_or g this rfl rfl
  | .u f p, .c h, ⟨⟨s, hs, e1, a1⟩, _⟩, ⟨t, ht, e2, a2⟩, n => by
    have := hd_ne g hs ht fun e => by rw [e, a2] at a1; cases a1
    subst e1 e2
    exact rk_or g this rfl rfl
  | .b f p q, .c h, ⟨⟨s, hs, e1, a1⟩, _⟩, ⟨t, ht, e2, a2⟩, n => by
    have := hd_ne g hs ht fun e => by rw [e, a2] at a1; cases a1
    subst e1 e2
    exact rk_or g this rfl rfl
  | .u f p, .b h p' q', ⟨⟨s, hs, e1, a1⟩, _⟩, ⟨⟨t, ht, e2, a2⟩, _⟩, n => by
    have := hd_ne g hs ht fun e => by rw [e, a2] at a1; cases a1
    subst e1 e2
    exact rk_or g this rfl rfl
  | .b f p q, .u h p', ⟨⟨s, hs, e1, a1⟩, _⟩, ⟨⟨t, ht, e2, a2⟩, _⟩, n => by
    have := hd_ne g hs ht fun e => by rw [e, a2] at a1; cases a1
    subst e1 e2
    exact rk_or g this rfl rfl
  | .u f p, .u h q, ⟨⟨s, hs, e1, a1⟩, hp⟩, ⟨⟨t, ht, e2, a2⟩, hq⟩, n => by
    unfold Tm.lt
    by_cases e : ss.rk f = ss.rk h
    · have ef : f = h := by
        subst e1 e2
        exact congrArg Sy.n (rk_inj g hs ht e)
      have n2 : p ≠ q := fun z => n (by rw [ef, z])
      rw [if_pos e, if_pos e.symm, if_neg n2, if_neg (Ne.symm n2)]
      exact lt_tot p q hp hq n2
    · rw [if_neg e, if_neg (Ne.symm e)]
      rcases Nat.lt_or_gt_of_ne e with z | z
      · exact .inl (decide_eq_true (by omega))
      · exact .inr (decide_eq_true (by omega))
  | .b f p q, .b h p' q', ⟨⟨s, hs, e1, a1⟩, hp, hq⟩, ⟨⟨t, ht, e2, a2⟩, hp', hq'⟩, n => by
    unfold Tm.lt
    by_cases e : ss.rk f = ss.rk h
    · have ef : f = h := by
        subst e1 e2
        exact congrArg Sy.n (rk_inj g hs ht e)
      rw [if_pos e, if_pos e.symm]
      by_cases ep : p = p'
      · have n2 : q ≠ q' := fun z => n (by rw [ef, ep, z])
        rw [if_pos ep, if_pos ep.symm, if_neg n2, if_neg (Ne.symm n2)]
        exact lt_tot q q' hq hq' n2
      · rw [if_neg ep, if_neg (Ne.symm ep)]
        exact lt_tot p p' hp hp' ep
    · rw [if_neg e, if_neg (Ne.symm e)]
      rcases Nat.lt_or_gt_of_ne e with z | z
      · exact .inl (decide_eq_true (by omega))
      · exact .inr (decide_eq_true (by omega))
end
theorem lt_asym (ss : Sg) : ∀ s t : Tm, s.lt ss t = true → t.lt ss s = false
  | .v x, .v y, h => by
    unfold Tm.lt at h ⊢
    by_cases e : x.length = y.length
    · rw [if_pos e] at h
      rw [if_pos e.symm]
      by_cases n : x = y
      · rw [if_pos n] at h
        cases h
      · rw [if_neg n] at h
        rw [if_neg (Ne.symm n)]
        exact decide_eq_false (strLt_asym (of_decide_eq_true h))
    · rw [if_neg e] at h
      rw [if_neg (Ne.symm e)]
      have := of_decide_eq_true h
      exact decide_eq_false (by omega)
  | .v x, .c h, _ => rfl
  | .v x, .u h t, _ => rfl
  | .v x, .b h p q, _ => rfl
  | .c f, .v y, z => by cases z
  | .u f s, .v y, z => by cases z
  | .b f s t, .v y, z => by cases z
  | .c f, .c h, z => by
    have := of_decide_eq_true z
    exact decide_eq_false (by omega)
  | .c f, .u h p, z => by
    have := of_decide_eq_true z
    exact decide_eq_false (by omega)
  | .c f, .b h p q, z => by
    have := of_decide_eq_true z
    exact decide_eq_false (by omega)
  | .u f p, .c h, z => by
    have := of_decide_eq_true z
    exact decide_eq_false (by omega)
  | .b f p q, .c h, z => by
    have := of_decide_eq_true z
    exact decide_eq_false (by omega)
  | .u f p, .b h p' q', z => by
    have := of_decide_eq_true z
    exact decide_eq_false (by omega)
  | .b f p q, .u h p', z => by
    have := of_decide_eq_true z
    exact decide_eq_false (by omega)
  | .u f p, .u h q, z => by
    unfold Tm.lt at z ⊢
    by_cases e : ss.rk f = ss.rk h
    · rw [if_pos e] at z
      rw [if_pos e.symm]
      by_cases n : p = q
      · rw [if_pos n] at z
        cases z
      · rw [if_neg n] at z
        rw [if_neg (Ne.symm n)]
        exact lt_asym ss p q z
    · rw [if_neg e] at z
      rw [if_neg (Ne.symm e)]
      have := of_decide_eq_true z
      exact decide_eq_false (by omega)
  | .b f p q, .b h p' q', z => by
    unfold Tm.lt at z ⊢
    by_cases e : ss.rk f = ss.rk h
    · rw [if_pos e] at z
      rw [if_pos e.symm]
      by_cases n : p = p'
      · rw [if_pos n] at z
        rw [if_pos n.symm]
        by_cases n2 : q = q'
        · rw [if_pos n2] at z
          cases z
        · rw [if_neg n2] at z
          rw [if_neg (Ne.symm n2)]
          exact lt_asym ss q q' z
      · rw [if_neg n] at z
        rw [if_neg (Ne.symm n)]
        exact lt_asym ss p p' z
    · rw [if_neg e] at z
      rw [if_neg (Ne.symm e)]
      have := of_decide_eq_true z
      exact decide_eq_false (by omega)

/-! ### a < b of these keys, in the machine -/
section
open SeqAt Builtin
open MeetsSeq MeetsSeq2 MeetsSeq3
open AutoSeq1 (wpAny_loadPart')
/-- two tuples whose first items are ints that differ -/
theorem tup_lt_first (l b : Addr) (y2 x2 : List Value) (n n2 : Nat) (dd dd2 : Option Addr) (sl sl2 : Array (Option Value)) (i j : Int) (t u : Tok) (hij : i ≠ j) :
    Meets (Builtin.«tuple.__lt__» ⟨[.ref l, .ref b], []⟩) (fun A R s => s.heap.get? l = some { cls := .type "tuple", dict := dd, data := .seq (.int i t :: y2).toArray n, slots := sl } ∧
      s.heap.get? b = some { cls := .type "tuple", dict := dd2, data := .seq (.int j u :: x2).toArray n2, slots := sl2 } ∧ R (.ok (.ret (.bool (decide (i < j))))) s) :=
  .of_wp fun prog w A R s ⟨hl, hb, hR⟩ => by
    obtain ⟨hp, g, d, tk, os⟩ := s
    have sub1 := AutoSeq1.sub_tuple_tuple
    have eI := SeqAt.EqAt.int_int (A := A.in1) (s := ⟨hp, g, d, tk, os⟩) i t j u
    have eF : (i == j) = false := beq_eq_false_iff_ne.mpr hij
    rw [eF] at eI
    have lI : ∀ (E : Value → Shared → Prop) (Q : Value → Shared → Prop), Q (.bool (decide (i < j))) ⟨hp, g, d, tk, os⟩ → wpAny (model prog w) A.in1 (richCompare .Lt (.int i t) (.int j u)) Q E ⟨hp, g, d, tk, os⟩ :=
      fun E Q q => HT.rcLt_int A.in1 ⟨hp, g, d, tk, os⟩ i t j u prog w E Q q
    wp_walk using wpAny_loadPart' hl, wpAny_loadPart' hb, wpAny_forIn_list _ (fun rest z s' => z.1 = none ∧ s' = ⟨hp, g, d, tk, os⟩ ∧ rest = (Value.int i t, Value.int j u) :: y2.zip x2) _
    case turn =>
      rintro ⟨y, x⟩ rest z s' ⟨_, rfl, hz⟩
      cases hz
      refine wpAny_bind (eI prog w _ _ ?_)
      wp_walk using lI _ _
      exact ⟨_, rfl, hR⟩
    case fin =>
      rintro z s' ⟨_, _, hz⟩
      cases hz
    case h => exact ⟨rfl, rfl, by simp⟩
end
end Tw

set_option maxHeartbeats 4000000
namespace Tw
open PySem PySem.Spec L2
open PyProof.Rows hiding St
open SeqAt
theorem reads_at {h : Heap} : ∀ {vs : List Value} {xs : List PyData} {as : List Addr} (j : Nat), ReadsAll h vs xs as → (hj : j < vs.length) → ∃ bs, Reads h vs[j] (xs.getD j .none) bs
  | _, _, _, _, .nil, hj => absurd hj (Nat.not_lt_zero _)
  | _, _, _, 0, .cons r _, _ => ⟨_, r⟩
  | _, _, _, j + 1, .cons _ t, hj => reads_at j t (Nat.lt_of_succ_lt_succ hj)
theorem rc_tup {A : Around} {st : Shared} {v u : Value} {xs ys : List PyData} {as bs : List Addr} (ra : Reads st.heap v (.tuple xs) as) (rb : Reads st.heap u (.tuple ys) bs) (cx : PyData.canLayAll0 xs = true) (cy : PyData.canLayAll0 ys = true)
    (hu : A.units + PyData.depthAll xs + 1 < cLine) (r : Nat → Bool) (hr : ∀ j v' u' as' bs', j < xs.length → j < ys.length → pairEq xs ys j = false → Reads st.heap v' (xs.getD j .none) as' → Reads st.heap u' (ys.getD j .none) bs' → RcLt A.in1 st v' u' (r j)) :
    RcLt A st v u (firstLt (pairEq xs ys) r (decide (xs.length < ys.length)) (List.range (min xs.length ys.length))) := by
  cases ra with
  | @tuple a o vs n _ _ h1 h2 h3 h4 =>
    cases rb with
    | @tuple a' o' vs' n' _ _ k1 k2 k3 k4 =>
      have hl : st.heap.IsTuple a vs := ⟨o, h1, h2, n, h3⟩
      have hb : st.heap.IsTuple a' vs' := ⟨o', k1, k2, n', k3⟩
      have n1 : vs.size = xs.length := by simpa using ReadsAll.length _ _ _ h4
      have n2 : vs'.size = ys.length := by simpa using ReadsAll.length _ _ _ k4
      have hin : A.in1.units + min (PyData.depthAll xs) (PyData.depthAll ys) < cLine := by
        have : A.in1.units = A.units + 1 := rfl
        omega
      have q := RcLt.tuples (A := A) (e := pairEq xs ys) (r := r) hl hb (by omega) (fun j j1 j2 => by
        have := eqAt_readsAll xs ys A.in1 st vs.toList vs'.toList _ _ h4 k4 cx cy hin j (by simpa using j1) (by simpa using j2)
        simpa using this) (fun j j1 j2 he => by
        obtain ⟨p, hp⟩ := reads_at j h4 (by simpa using j1)
        obtain ⟨p2, hp2⟩ := reads_at j k4 (by simpa using j2)
        exact hr j _ _ p p2 (n1 ▸ j1) (n2 ▸ j2) he (by simpa using hp) (by simpa using hp2))
      rw [n1, n2] at q
      exact q
theorem rc_first {A : Around} {st : Shared} {v u : Value} {xs ys : List PyData} {as bs : List Addr} {i j : Int} (ra : Reads st.heap v (.tuple (.int i :: xs)) as) (rb : Reads st.heap u (.tuple (.int j :: ys)) bs) (hij : i ≠ j) (hu : A.units < cLine) :
    RcLt A st v u (decide (i < j)) := fun prog w E Q q => by
  cases ra with
  | @tuple a o vs n _ _ h1 h2 h3 h4 =>
    cases rb with
    | @tuple a' o' vs' n' _ _ k1 k2 k3 k4 =>
      obtain ⟨c, dd, data, sl⟩ := o
      obtain ⟨c2, dd2, data2, sl2⟩ := o'
      simp only at h2 h3 k2 k3
      subst h2 h3 k2 k3
      obtain ⟨vl⟩ := vs
      obtain ⟨vl2⟩ := vs'
      simp only at h4 k4
      cases h4 with
      | cons r1 r2 =>
        cases k4 with
        | cons s1 s2 =>
          cases r1
          cases s1
          exact richCompare_meets_room (op := .Lt) ⟨_, h1, rfl⟩ ⟨_, k1, rfl⟩ F.slot_tuple_lt F.entry_tuple_lt (F.args_tuple_lt_2 _ _) (tup_lt_first a a' _ _ n n' dd dd2 sl sl2 i j _ _ hij)
            ⟨h1, k1, show Value.bool _ ≠ Value.notImplemented ∧ Q _ st from ⟨(fun x => nomatch x), q⟩⟩ hu
theorem rc_int {A : Around} {st : Shared} {v u : Value} {i j : Int} {as bs : List Addr} (ra : Reads st.heap v (.int i) as) (rb : Reads st.heap u (.int j) bs) : RcLt A st v u (decide (i < j)) := fun prog w E Q q => by
  cases ra
  cases rb
  exact lt_int q
theorem rc_str {A : Around} {st : Shared} {v u : Value} {x y : Str} {as bs : List Addr} (ra : Reads st.heap v (.str x) as) (rb : Reads st.heap u (.str y) bs) : RcLt A st v u (decide (x.cps.toList < y.cps.toList)) := fun prog w E Q q => by
  cases ra
  cases rb
  exact lt_str q
theorem lay_key {ss : Sg} : ∀ t : Tm, Ok ss t → (key ss t).canLay0 = true
  | .v x, h => by
    have := (vNames_ok x h).ok
    simp [key, PyData.canLay0, PyData.canLayAll0, this]
  | .c f, _ => rfl
  | .u f t, h => by
    have := lay_key t h.2
    simp [key, PyData.canLay0, PyData.canLayAll0, this]
  | .b f s t, h => by
    have h1 := lay_key s h.2.1
    have h2 := lay_key t h.2.2
    simp [key, PyData.canLay0, PyData.canLayAll0, h1, h2]
theorem fl_y {e r : Nat → Bool} {fin : Bool} {j : Nat} {t : List Nat} : firstLt e r fin (j :: t) = if e j = true then firstLt e r fin t else r j := rfl
theorem rg2 : List.range 2 = [0, 1] := rfl
theorem rg3 : List.range 3 = [0, 1, 2] := rfl
theorem rg4 : List.range 4 = [0, 1, 2, 3] := rfl
section
variable {ss : Sg} (g : ss.Good)
include g
theorem rc_key : ∀ (s t : Tm), Ok ss s → Ok ss t → ∀ (A : Around) (st : Shared) (v u : Value) (as bs : List Addr), Reads st.heap v (key ss s) as → Reads st.heap u (key ss t) bs → A.units + s.dep + 3 < cLine → RcLt A st v u (s.lt ss t)
  | .v x, .v y, hx, hy, A, st, v, u, as, bs, ra, rb, hu => by
    have q := rc_tup (A := A) ra rb (by simp [PyData.canLayAll0, PyData.canLay0, (vNames_ok x hx).ok]) (by simp [PyData.canLayAll0, PyData.canLay0, (vNames_ok y hy).ok]) (by simp [PyData.depthAll, PyData.depth]; omega)
      (fun j => if j = 1 then decide ((x.length : Int) < y.length) else decide (x.cps.toList < y.cps.toList)) (fun j v' u' as' bs' h1 h2 he r1 r2 => by
        match j, h1 with
        | 0, _ => simp [pairEq, eqvI] at he
        | 1, _ => exact rc_int r1 r2
        | 2, _ => exact rc_str r1 r2)
    have e : Tm.lt ss (.v x) (.v y) = firstLt (pairEq [.int 0, .int x.length, .str x] [.int 0, .int y.length, .str y]) (fun j => if j = 1 then decide ((x.length : Int) < y.length) else decide (x.cps.toList < y.cps.toList)) false (List.range 3) := by
      rw [rg3, fl_y, fl_y, fl_y]
      by_cases e1 : x.length = y.length
      · by_cases e2 : x = y
        · subst e2
          simp [pairEq, eqvI, eqvS, str_beq, Tm.lt, firstLt]
        · simp [pairEq, eqvI, eqvS, str_beq, Tm.lt, e1, e2]
      · have e3 : ¬ (x.length : Int) = y.length := by omega
        simp [pairEq, eqvI, eqvS, str_beq, Tm.lt, e1] <;> exact fun z => absurd z (by omega)
    rw [e]
    exact q
  | .v x, .c h, hx, hy, A, st, v, u, as, bs, ra, rb, hu => rc_first ra rb (by decide) (by omega)
  | .v x, .u h t, hx, hy, A, st, v, u, as, bs, ra, rb, hu => rc_first ra rb (by decide) (by omega)
  | .v x, .b h p q, hx, hy, A, st, v, u, as, bs, ra, rb, hu => rc_first ra rb (by decide) (by omega)
  | .c f, .v y, hx, hy, A, st, v, u, as, bs, ra, rb, hu => rc_first ra rb (by decide) (by omega)
  | .u f s, .v y, hx, hy, A, st, v, u, as, bs, ra, rb, hu => rc_first ra rb (by decide) (by omega)
  | .b f s t, .v y, hx, hy, A, st, v, u, as, bs, ra, rb, hu => rc_first ra rb (by decide) (by omega)
  | .c f, .c h, ⟨s, hs, e1, a1⟩, ⟨t, ht, e2, a2⟩, A, st, v, u, as, bs, ra, rb, hu => by
    have q := rc_tup (A := A) ra rb rfl rfl (by simp [PyData.depthAll, PyData.depth]; omega) (fun j => decide ((ss.rk f : Int) < ss.rk h)) (fun j v' u' as' bs' h1 h2 he r1 r2 => by
        match j, h1 with
        | 0, _ => simp [pairEq, eqvI] at he
        | 1, _ => exact rc_int r1 r2)
    have e : Tm.lt ss (.c f) (.c h) = firstLt (pairEq [.int 1, .int (ss.rk f)] [.int 1, .int (ss.rk h)]) (fun j => decide ((ss.rk f : Int) < ss.rk h)) false (List.range 2) := by
      rw [rg2, fl_y, fl_y]
      by_cases e3 : ss.rk f = ss.rk h
      · simp [pairEq, eqvI, Tm.lt, Tm.hd, e3, firstLt]
      · have e4 : ¬ (ss.rk f : Int) = ss.rk h := by omega
        simp [pairEq, eqvI, Tm.lt, Tm.hd, e3] <;> exact fun z => absurd z (by omega)
    rw [e]
    exact q
  | .c f, .u h p, ⟨s, hs, e1, a1⟩, ⟨⟨t, ht, e2, a2⟩, hp⟩, A, st, v, u, as, bs, ra, rb, hu => by
    have ne := hd_ne g hs ht fun e => by rw [e, a2] at a1; cases a1
    have q := rc_tup (A := A) ra rb rfl (by simp [PyData.canLayAll0, PyData.canLay0, lay_key p hp]) (by simp [PyData.depthAll, PyData.depth]; omega) (fun j => decide ((ss.rk f : Int) < ss.rk h)) (fun j v' u' as' bs' h1 h2 he r1 r2 => by
        match j, h1 with
        | 0, _ => simp [pairEq, eqvI] at he
        | 1, _ => exact rc_int r1 r2)
    have e : Tm.lt ss (.c f) (.u h p) = firstLt (pairEq [.int 1, .int (ss.rk f)] [.int 1, .int (ss.rk h), key ss p]) (fun j => decide ((ss.rk f : Int) < ss.rk h)) true (List.range 2) := by
      rw [rg2, fl_y, fl_y]
      subst e1 e2
      simp [pairEq, eqvI, Tm.lt, Tm.hd, ne] <;> exact fun z => absurd z (by omega)
    rw [e]
    exact q
  | .c f, .b h p p', ⟨s, hs, e1, a1⟩, ⟨⟨t, ht, e2, a2⟩, hp, hp'⟩, A, st, v, u, as, bs, ra, rb, hu => by
    have ne := hd_ne g hs ht fun e => by rw [e, a2] at a1; cases a1
    have q := rc_tup (A := A) ra rb rfl (by simp [PyData.canLayAll0, PyData.canLay0, lay_key p hp, lay_key p' hp']) (by simp [PyData.depthAll, PyData.depth]; omega) (fun j => decide ((ss.rk f : Int) < ss.rk h)) (fun j v' u' as' bs' h1 h2 he r1 r2 => by
        match j, h1 with
        | 0, _ => simp [pairEq, eqvI] at he
        | 1, _ => exact rc_int r1 r2)
    have e : Tm.lt ss (.c f) (.b h p p') = firstLt (pairEq [.int 1, .int (ss.rk f)] [.int 1, .int (ss.rk h), key ss p, key ss p']) (fun j => decide ((ss.rk f : Int) < ss.rk h)) true (List.range 2) := by
      rw [rg2, fl_y, fl_y]
      subst e1 e2
      simp [pairEq, eqvI, Tm.lt, Tm.hd, ne] <;> exact fun z => absurd z (by omega)
    rw [e]
    exact q
  | .u f p, .c h, ⟨⟨s, hs, e1, a1⟩, hp⟩, ⟨t, ht, e2, a2⟩, A, st, v, u, as, bs, ra, rb, hu => by
    have ne := hd_ne g hs ht fun e => by rw [e, a2] at a1; cases a1
    have dk := depth_key ss p
    have q := rc_tup (A := A) ra rb (by simp [PyData.canLayAll0, PyData.canLay0, lay_key p hp]) rfl (by simp only [PyData.depthAll, PyData.depth, Tm.dep] at hu ⊢; omega) (fun j => decide ((ss.rk f : Int) < ss.rk h)) (fun j v' u' as' bs' h1 h2 he r1 r2 => by
        match j, h2 with
        | 0, _ => simp [pairEq, eqvI] at he
        | 1, _ => exact rc_int r1 r2)
    have e : Tm.lt ss (.u f p) (.c h) = firstLt (pairEq [.int 1, .int (ss.rk f), key ss p] [.int 1, .int (ss.rk h)]) (fun j => decide ((ss.rk f : Int) < ss.rk h)) false (List.range 2) := by
      rw [rg2, fl_y, fl_y]
      subst e1 e2
      simp [pairEq, eqvI, Tm.lt, Tm.hd, ne] <;> exact fun z => absurd z (by omega)
    rw [e]
    exact q
  | .b f p p', .c h, ⟨⟨s, hs, e1, a1⟩, hp, hp'⟩, ⟨t, ht, e2, a2⟩, A, st, v, u, as, bs, ra, rb, hu => by
    have ne := hd_ne g hs ht fun e => by rw [e, a2] at a1; cases a1
    have dk := depth_key ss p
    have dk' := depth_key ss p'
    have q := rc_tup (A := A) ra rb (by simp [PyData.canLayAll0, PyData.canLay0, lay_key p hp, lay_key p' hp']) rfl (by simp only [PyData.depthAll, PyData.depth, Tm.dep] at hu ⊢; omega) (fun j => decide ((ss.rk f : Int) < ss.rk h)) (fun j v' u' as' bs' h1 h2 he r1 r2 => by
        match j, h2 with
        | 0, _ => simp [pairEq, eqvI] at he
        | 1, _ => exact rc_int r1 r2)
    have e : Tm.lt ss (.b f p p') (.c h) = firstLt (pairEq [.int 1, .int (ss.rk f), key ss p, key ss p'] [.int 1, .int (ss.rk h)]) (fun j => decide ((ss.rk f : Int) < ss.rk h)) false (List.range 2) := by
      rw [rg2, fl_y, fl_y]
      subst e1 e2
      simp [pairEq, eqvI, Tm.lt, Tm.hd, ne] <;> exact fun z => absurd z (by omega)
    rw [e]
    exact q
  | .u f p, .b h p2 p', ⟨⟨s, hs, e1, a1⟩, hp⟩, ⟨⟨t, ht, e2, a2⟩, hp2, hp'⟩, A, st, v, u, as, bs, ra, rb, hu => by
    have ne := hd_ne g hs ht fun e => by rw [e, a2] at a1; cases a1
    have dk := depth_key ss p
    have q := rc_tup (A := A) ra rb (by simp [PyData.canLayAll0, PyData.canLay0, lay_key p hp]) (by simp [PyData.canLayAll0, PyData.canLay0, lay_key p2 hp2, lay_key p' hp']) (by simp only [PyData.depthAll, PyData.depth, Tm.dep] at hu ⊢; omega)
      (fun j => if j = 1 then decide ((ss.rk f : Int) < ss.rk h) else p.lt ss p2) (fun j v' u' as' bs' h1 h2 he r1 r2 => by
        match j, h1 with
        | 0, _ => simp [pairEq, eqvI] at he
        | 1, _ => exact rc_int r1 r2
        | 2, _ => exact rc_key p p2 hp hp2 A.in1 st v' u' as' bs' r1 r2 (by have : A.in1.units = A.units + 1 := rfl; simp only [Tm.dep] at hu; omega))
    have e : Tm.lt ss (.u f p) (.b h p2 p') = firstLt (pairEq [.int 1, .int (ss.rk f), key ss p] [.int 1, .int (ss.rk h), key ss p2, key ss p']) (fun j => if j = 1 then decide ((ss.rk f : Int) < ss.rk h) else p.lt ss p2) true (List.range 3) := by
      rw [rg3, fl_y, fl_y]
      subst e1 e2
      simp [pairEq, eqvI, Tm.lt, Tm.hd, ne] <;> exact fun z => absurd z (by omega)
    rw [e]
    exact q
  | .b f p p', .u h p2, ⟨⟨s, hs, e1, a1⟩, hp, hp'⟩, ⟨⟨t, ht, e2, a2⟩, hp2⟩, A, st, v, u, as, bs, ra, rb, hu => by
    have ne := hd_ne g hs ht fun e => by rw [e, a2] at a1; cases a1
    have dk := depth_key ss p
    have dk' := depth_key ss p'
    have q := rc_tup (A := A) ra rb (by simp [PyData.canLayAll0, PyData.canLay0, lay_key p hp, lay_key p' hp']) (by simp [PyData.canLayAll0, PyData.canLay0, lay_key p2 hp2]) (by simp only [PyData.depthAll, PyData.depth, Tm.dep] at hu ⊢; omega)
      (fun j => if j = 1 then decide ((ss.rk f : Int) < ss.rk h) else p.lt ss p2) (fun j v' u' as' bs' h1 h2 he r1 r2 => by
        match j, h2 with
        | 0, _ => simp [pairEq, eqvI] at he
        | 1, _ => exact rc_int r1 r2
        | 2, _ => exact rc_key p p2 hp hp2 A.in1 st v' u' as' bs' r1 r2 (by have : A.in1.units = A.units + 1 := rfl; simp only [Tm.dep] at hu; omega))
    have e : Tm.lt ss (.b f p p') (.u h p2) = firstLt (pairEq [.int 1, .int (ss.rk f), key ss p, key ss p'] [.int 1, .int (ss.rk h), key ss p2]) (fun j => if j = 1 then decide ((ss.rk f : Int) < ss.rk h) else p.lt ss p2) false (List.range 3) := by
      rw [rg3, fl_y, fl_y]
      subst e1 e2
      simp [pairEq, eqvI, Tm.lt, Tm.hd, ne] <;> exact fun z => absurd z (by omega)
    rw [e]
    exact q
  | .u f p, .u h p2, ⟨⟨s, hs, e1, a1⟩, hp⟩, ⟨⟨t, ht, e2, a2⟩, hp2⟩, A, st, v, u, as, bs, ra, rb, hu => by
    have dk := depth_key ss p
    have q := rc_tup (A := A) ra rb (by simp [PyData.canLayAll0, PyData.canLay0, lay_key p hp]) (by simp [PyData.canLayAll0, PyData.canLay0, lay_key p2 hp2]) (by simp only [PyData.depthAll, PyData.depth, Tm.dep] at hu ⊢; omega)
      (fun j => if j = 1 then decide ((ss.rk f : Int) < ss.rk h) else p.lt ss p2) (fun j v' u' as' bs' h1 h2 he r1 r2 => by
        match j, h2 with
        | 0, _ => simp [pairEq, eqvI] at he
        | 1, _ => exact rc_int r1 r2
        | 2, _ => exact rc_key p p2 hp hp2 A.in1 st v' u' as' bs' r1 r2 (by have : A.in1.units = A.units + 1 := rfl; simp only [Tm.dep] at hu; omega))
    have e : Tm.lt ss (.u f p) (.u h p2) = firstLt (pairEq [.int 1, .int (ss.rk f), key ss p] [.int 1, .int (ss.rk h), key ss p2]) (fun j => if j = 1 then decide ((ss.rk f : Int) < ss.rk h) else p.lt ss p2) false (List.range 3) := by
      rw [rg3, fl_y, fl_y, fl_y]
      have ek := eqv_key g p p2 hp hp2
      by_cases e3 : ss.rk f = ss.rk h
      · by_cases e4 : p = p2
        · subst e4
          simp [pairEq, eqvI, Tm.lt, e3, firstLt, ek]
        · simp [pairEq, eqvI, Tm.lt, e3, e4, ek]
      · have e5 : ¬ (ss.rk f : Int) = ss.rk h := by omega
        simp [pairEq, eqvI, Tm.lt, e3] <;> exact fun z => absurd z (by omega)
    rw [e]
    exact q
  | .b f p p', .b h p2 p2', ⟨⟨s, hs, e1, a1⟩, hp, hp'⟩, ⟨⟨t, ht, e2, a2⟩, hp2, hp2'⟩, A, st, v, u, as, bs, ra, rb, hu => by
    have dk := depth_key ss p
    have dk' := depth_key ss p'
    have q := rc_tup (A := A) ra rb (by simp [PyData.canLayAll0, PyData.canLay0, lay_key p hp, lay_key p' hp']) (by simp [PyData.canLayAll0, PyData.canLay0, lay_key p2 hp2, lay_key p2' hp2']) (by simp only [PyData.depthAll, PyData.depth, Tm.dep] at hu ⊢; omega)
      (fun j => if j = 1 then decide ((ss.rk f : Int) < ss.rk h) else if j = 2 then p.lt ss p2 else p'.lt ss p2') (fun j v' u' as' bs' h1 h2 he r1 r2 => by
        match j, h2 with
        | 0, _ => simp [pairEq, eqvI] at he
        | 1, _ => exact rc_int r1 r2
        | 2, _ => exact rc_key p p2 hp hp2 A.in1 st v' u' as' bs' r1 r2 (by have : A.in1.units = A.units + 1 := rfl; simp only [Tm.dep] at hu; omega)
        | 3, _ => exact rc_key p' p2' hp' hp2' A.in1 st v' u' as' bs' r1 r2 (by have : A.in1.units = A.units + 1 := rfl; simp only [Tm.dep] at hu; omega))
    have e : Tm.lt ss (.b f p p') (.b h p2 p2') = firstLt (pairEq [.int 1, .int (ss.rk f), key ss p, key ss p'] [.int 1, .int (ss.rk h), key ss p2, key ss p2']) (fun j => if j = 1 then decide ((ss.rk f : Int) < ss.rk h) else if j = 2 then p.lt ss p2 else p'.lt ss p2') false (List.range 4) := by
      rw [rg4, fl_y, fl_y, fl_y, fl_y]
      have ek := eqv_key g p p2 hp hp2
      have ek' := eqv_key g p' p2' hp' hp2'
      by_cases e3 : ss.rk f = ss.rk h
      · by_cases e4 : p = p2
        · subst e4
          by_cases e6 : p' = p2'
          · subst e6
            simp [pairEq, eqvI, Tm.lt, e3, firstLt, ek, ek']
          · simp [pairEq, eqvI, Tm.lt, e3, e6, ek, ek']
        · simp [pairEq, eqvI, Tm.lt, e3, e4, ek]
      · have e5 : ¬ (ss.rk f : Int) = ss.rk h := by omega
        simp [pairEq, eqvI, Tm.lt, e3] <;> exact fun z => absurd z (by omega)
    rw [e]
    exact q
/-- key < key -/
theorem cmp_ltKey {X : Cx} {s t : Tm} (hs : Ok ss s) (ht : Ok ss t) (hu : X.A.units + s.dep + 3 < cLine) : CmpD X .Lt (.d (key ss s)) (.d (key ss t)) (s.lt ss t) := by
  refine ⟨fun v w H Q => Da H v (key ss s) ∧ Da H w (key ss t) ∧ Q (.bl (s.lt ss t)) H, fun pins st σ H x y v u Q I rx ry ⟨h1, h2, q⟩ => ?_, fun W H v w Q hW r1 r2 k => ⟨da_mono same_out r1, da_mono same_out r2, k _ H (Same.refl H) (.bl _)⟩⟩
  obtain ⟨as, r1⟩ := Dp.reads I _ x v (da_p X.K h1) rx
  obtain ⟨bs, r2⟩ := Dp.reads I _ y u (da_p X.K h2) ry
  exact rc_key g s t hs ht X.A st v u as bs r1 r2 hu X.prog X.w X.xe _ ⟨.bl _, H, I, rfl, q⟩
end
end Tw

set_option maxHeartbeats 4000000
namespace Tw
open PySem
def Tm.isV : Tm → Bool
  | .v _ => true
  | _ => false
def Tm.args : Tm → List Tm
  | .v _ => []
  | .c _ => []
  | .u _ t => [t]
  | .b _ s t => [s, t]
theorem d_ap {t : Tm} (h : t.isV = false) : t.d = .tuple (.str t.hd :: t.args.map Tm.d) := by
  cases t with
  | v x => cases h
  | _ => rfl
theorem d_v {t : Tm} (h : t.isV = true) : ∃ x, t = .v x := by
  cases t with
  | v x => exact ⟨x, rfl⟩
  | _ => cases h
theorem ok_ap {ss : Sg} {t : Tm} (h : t.isV = false) (o : Ok ss t) : ∃ (i : Nat) (s : Sy), ss[i]? = some s ∧ s.n = t.hd ∧ s.ar = t.args.length := by
  have key : ∀ {f : Str} {k : Nat}, (∃ s ∈ ss, s.n = f ∧ s.ar = k) → ∃ (i : Nat) (s : Sy), ss[i]? = some s ∧ s.n = f ∧ s.ar = k := fun ⟨s, hs, h1, h2⟩ => by
    obtain ⟨i, hi, e⟩ := List.mem_iff_getElem.mp hs
    exact ⟨i, s, by rw [List.getElem?_eq_getElem hi, e], h1, h2⟩
  cases t with
  | v x => cases h
  | c f => exact key o
  | u f t => exact key o.1
  | b f s t => exact key o.1
theorem ok_arg {ss : Sg} {t a : Tm} (o : Ok ss t) (h : a ∈ t.args) : Ok ss a ∧ a.dep + 1 ≤ t.dep ∧ a.sz + 1 ≤ t.sz := by
  cases t with
  | v x => cases h
  | c f => cases h
  | u f t =>
    rw [List.mem_singleton.mp h]
    exact ⟨o.2, by simp [Tm.dep], by simp [Tm.sz]⟩
  | b f s t =>
    rcases List.mem_cons.mp h with e | h
    · subst e
      exact ⟨o.2.1, by simp only [Tm.dep]; omega, by simp only [Tm.sz]; omega⟩
    · rw [List.mem_singleton.mp h]
      exact ⟨o.2.2, by simp only [Tm.dep]; omega, by simp only [Tm.sz]; omega⟩
theorem dep_ap {t : Tm} (h : t.isV = false) : 1 ≤ t.dep := by
  cases t with
  | v x => cases h
  | _ => simp [Tm.dep]
theorem args_le (t : Tm) : t.args.length ≤ 2 := by cases t <;> simp [Tm.args]
theorem rk_of {ss : Sg} (g : ss.Good) {i : Nat} {s : Sy} (h : ss[i]? = some s) : ss.rk s.n = i := by
  have hm := List.mem_of_getElem? h
  have h2 := (g.find hm).2.2
  have hi := (List.getElem?_eq_some_iff.mp h).1
  have hj := (List.getElem?_eq_some_iff.mp h2).1
  have nd := g.nd
  rw [List.nodup_iff_pairwise_ne] at nd
  rcases Nat.lt_trichotomy (ss.rk s.n) i with q | q | q
  · exfalso
    have := List.pairwise_iff_getElem.mp nd (ss.rk s.n) i (by simpa using hj) (by simpa using hi) q
    rw [List.getElem_map, List.getElem_map] at this
    rw [List.getElem?_eq_getElem hj] at h2
    rw [List.getElem?_eq_getElem hi] at h
    rw [Option.some.inj h2, Option.some.inj h] at this
    exact this rfl
  · exact q
  · exfalso
    have := List.pairwise_iff_getElem.mp nd i (ss.rk s.n) (by simpa using hi) (by simpa using hj) q
    rw [List.getElem_map, List.getElem_map] at this
    rw [List.getElem?_eq_getElem hj] at h2
    rw [List.getElem?_eq_getElem hi] at h
    rw [Option.some.inj h2, Option.some.inj h] at this
    exact this rfl
theorem lay_d {ss : Sg} : ∀ t : Tm, ss.Good → Ok ss t → t.d.canLay0 = true
  | .v x, g, h => by
    have := (vNames_ok x h).ok
    simp [Tm.d, PyData.canLay0, this]
  | .c f, g, ⟨s, hs, e, _⟩ => by
    have := (sNames_ok _ (g.nm s hs)).ok
    rw [e] at this
    simp [Tm.d, PyData.canLay0, PyData.canLayAll0, this]
  | .u f t, g, ⟨⟨s, hs, e, _⟩, h⟩ => by
    have := (sNames_ok _ (g.nm s hs)).ok
    rw [e] at this
    have q := lay_d t g h
    simp [Tm.d, PyData.canLay0, PyData.canLayAll0, this, q]
  | .b f s t, g, ⟨⟨y, hs, e, _⟩, h1, h2⟩ => by
    have := (sNames_ok _ (g.nm y hs)).ok
    rw [e] at this
    have q1 := lay_d s g h1
    have q2 := lay_d t g h2
    simp [Tm.d, PyData.canLay0, PyData.canLayAll0, this, q1, q2]
theorem shaped_d {ss : Sg} {t : Tm} (g : ss.Good) (h : Ok ss t) (hd : t.dep ≤ 64) : SeqAt.shaped t.d = true := by
  unfold SeqAt.shaped
  rw [lay_d t g h, depth_d, decide_eq_true hd]
  rfl
theorem hd_name {ss : Sg} {t : Tm} (g : ss.Good) (h : t.isV = false) (o : Ok ss t) : t.hd ∈ sNames := by
  obtain ⟨i, s, h1, h2, _⟩ := ok_ap h o
  rw [← h2]
  exact g.nm s (List.mem_of_getElem? h1)
end Tw

set_option maxHeartbeats 4000000
namespace Tw
open PySem
/-- the least writing -/
def lw (ss : Sg) : Tm → Tm
  | .v x => .v x
  | .c f => .c f
  | .u f t => .u f (lw ss t)
  | .b f s t => if (ss.tw f && (lw ss t).lt ss (lw ss s)) = true then .b f (lw ss t) (lw ss s) else .b f (lw ss s) (lw ss t)
section
variable {ss : Sg}
theorem lw_b (f : Str) (s t : Tm) : lw ss (.b f s t) = if (ss.tw f && (lw ss t).lt ss (lw ss s)) = true then .b f (lw ss t) (lw ss s) else .b f (lw ss s) (lw ss t) := rfl
theorem dep_lw : ∀ t : Tm, (lw ss t).dep = t.dep
  | .v x => rfl
  | .c f => rfl
  | .u f t => by simp [lw, Tm.dep, dep_lw t]
  | .b f s t => by
    rw [lw_b]
    split <;> simp only [Tm.dep, dep_lw s, dep_lw t, Nat.max_comm]
theorem sz_lw : ∀ t : Tm, (lw ss t).sz = t.sz
  | .v x => rfl
  | .c f => rfl
  | .u f t => by simp [lw, Tm.sz, sz_lw t]
  | .b f s t => by
    rw [lw_b]
    split <;> simp only [Tm.sz, sz_lw s, sz_lw t] <;> omega
theorem ok_lw : ∀ t : Tm, Ok ss t → Ok ss (lw ss t)
  | .v x, h => h
  | .c f, h => h
  | .u f t, h => ⟨h.1, ok_lw t h.2⟩
  | .b f s t, h => by
    rw [lw_b]
    split
    · exact ⟨h.1, ok_lw t h.2.2, ok_lw s h.2.1⟩
    · exact ⟨h.1, ok_lw s h.2.1, ok_lw t h.2.2⟩
theorem lw_args {t : Tm} (h : t.isV = false) (n : (ss.tw t.hd = true → False) ∨ ∃ f p q, t = .b f p q ∧ (lw ss q).lt ss (lw ss p) = false) : (lw ss t).d = .tuple (.str t.hd :: t.args.map fun a => (lw ss a).d) := by
  cases t with
  | v x => cases h
  | c f => rfl
  | u f t => rfl
  | b f s t =>
    rw [lw_b, if_neg]
    · rfl
    · rcases n with n | ⟨f', p, q, e, n⟩
      · intro z
        rw [Bool.and_eq_true] at z
        exact n z.1
      · cases e
        rw [n]
        simp
theorem tw_b {t : Tm} (g : ss.Good) (o : Ok ss t) (h : t.isV = false) (w : ss.tw t.hd = true) : ∃ f p q, t = .b f p q := by
  obtain ⟨i, s, h1, h2, h3⟩ := ok_ap h o
  have hm := List.mem_of_getElem? h1
  have h4 := (g.find hm).2.1
  rw [h2, w] at h4
  have h5 := g.tw s hm h4.symm
  rw [h3] at h5
  cases t with
  | b f p q => exact ⟨f, p, q, rfl⟩
  | v x => cases h
  | c f => simp [Tm.args] at h5
  | u f t => simp [Tm.args] at h5
end
end Tw

set_option maxHeartbeats 4000000
namespace Tw
open PySem
/-- a line of a derivation -/
inductive Ln where
  | same (t : Tm)
  | turn (f : Str) (p q : Tm)
  | chain (i j : Nat)
  | within (f : Str) (ns : List Nat)
def Ln.d : Ln → PyData
  | .same t => .tuple [.str "same", t.d]
  | .turn f p q => .tuple [.str "turn", .str f, p.d, q.d]
  | .chain i j => .tuple [.str "chain", .int (i : Nat), .int (j : Nat)]
  | .within f ns => .tuple (.str "within" :: .str f :: ns.map fun n : Nat => .int (n : Nat))
abbrev Pr := Tm × Tm
def Pr.d (c : Pr) : PyData := .tuple [c.1.d, c.2.d]
def mkT (f : Str) : List Tm → Tm
  | [] => .c f
  | [a] => .u f a
  | a :: b :: _ => .b f a b
theorem mkT_d {f : Str} {as : List Tm} (h : as.length ≤ 2) : (mkT f as).d = .tuple (.str f :: as.map Tm.d) := by
  match as, h with
  | [], _ => rfl
  | [a], _ => rfl
  | [a, b], _ => rfl
  | a :: b :: c :: r, h => simp at h
/-- what a line concludes behind the pairs `done`; terms no deeper than n -/
inductive Co (ss : Sg) (n : Nat) (done : List Pr) : Ln → Pr → Prop
  | same (t : Tm) : Ok ss t → t.dep ≤ n → Co ss n done (.same t) (t, t)
  | turn (i : Nat) (y : Sy) (p q : Tm) : ss[i]? = some y → y.tw = true → Ok ss p → Ok ss q → p.dep ≤ n → q.dep ≤ n → Co ss n done (.turn y.n p q) (.b y.n p q, .b y.n q p)
  | chain (i j : Nat) (a b c : Tm) : Ok ss b → b.dep ≤ n → done[i]? = some (a, b) → done[j]? = some (b, c) → Co ss n done (.chain i j) (a, c)
  | within (i : Nat) (y : Sy) (ns : List Nat) (qs : List Pr) : ss[i]? = some y → qs.length = y.ar → ns.length = y.ar → y.ar ≤ 2 → (∀ (k m : Nat), ns[k]? = some m → ∃ q : Pr, qs[k]? = some q ∧ done[m]? = some q) → Co ss n done (.within y.n ns) (mkT y.n (qs.map (·.1)), mkT y.n (qs.map (·.2)))
/-- a whole derivation: lines and what they conclude -/
inductive Dv (ss : Sg) (n : Nat) : List Ln → List Pr → Prop
  | nil : Dv ss n [] []
  | snoc {ls : List Ln} {cs : List Pr} {l : Ln} {c : Pr} : Dv ss n ls cs → Co ss n cs l c → Dv ss n (ls ++ [l]) (cs ++ [c])
theorem Dv.len {ss : Sg} {n : Nat} {ls : List Ln} {cs : List Pr} (h : Dv ss n ls cs) : ls.length = cs.length := by
  induction h with
  | nil => rfl
  | snoc _ _ ih => simp [ih]
theorem Dv.at {ss : Sg} {n : Nat} {ls : List Ln} {cs : List Pr} (h : Dv ss n ls cs) : ∀ (i : Nat) (l : Ln), ls[i]? = some l → ∃ c : Pr, cs[i]? = some c ∧ Co ss n (cs.take i) l c := by
  induction h with
  | nil => intro i l h; simp at h
  | @snoc ls cs l c h hc ih =>
    intro i l' hi
    have hl := h.len
    rcases Nat.lt_trichotomy i ls.length with q | q | q
    · rw [List.getElem?_append_left q] at hi
      obtain ⟨c', h1, h2⟩ := ih i l' hi
      refine ⟨c', by rw [List.getElem?_append_left (by omega)]; exact h1, ?_⟩
      rw [List.take_append_of_le_length (by omega)]
      exact h2
    · subst q
      rw [List.getElem?_append_right (Nat.le_refl _)] at hi
      simp at hi
      subst hi
      refine ⟨c, by rw [hl, List.getElem?_append_right (Nat.le_refl _)]; simp, ?_⟩
      rw [hl, List.take_left]
      exact hc
    · have : (ls ++ [l]).length ≤ i := by simp; omega
      rw [List.getElem?_eq_none this] at hi
      cases hi
end Tw

set_option maxHeartbeats 4000000
namespace Tw
open PySem
/-! ### normal forms by an order -/
def nf (ss : Sg) (lt : Tm → Tm → Bool) : Tm → Tm
  | .v x => .v x
  | .c f => .c f
  | .u f t => .u f (nf ss lt t)
  | .b f s t => if (ss.tw f && lt (nf ss lt t) (nf ss lt s)) = true then .b f (nf ss lt t) (nf ss lt s) else .b f (nf ss lt s) (nf ss lt t)
theorem nf_b (ss : Sg) (lt : Tm → Tm → Bool) (f : Str) (s t : Tm) : nf ss lt (.b f s t) = if (ss.tw f && lt (nf ss lt t) (nf ss lt s)) = true then .b f (nf ss lt t) (nf ss lt s) else .b f (nf ss lt s) (nf ss lt t) := rfl
theorem lw_nf (ss : Sg) : ∀ t : Tm, lw ss t = nf ss (Tm.lt ss) t
  | .v x => rfl
  | .c f => rfl
  | .u f t => by simp only [lw, nf, lw_nf ss t]
  | .b f s t => by rw [lw_b, nf_b, lw_nf ss s, lw_nf ss t]
/-- alike, by the rules -/
inductive Alk (ss : Sg) : Tm → Tm → Prop
  | v (x : Str) : Alk ss (.v x) (.v x)
  | c (f : Str) : Alk ss (.c f) (.c f)
  | u (f : Str) {s t : Tm} : Alk ss s t → Alk ss (.u f s) (.u f t)
  | b (f : Str) {s t p q : Tm} : Alk ss s p → Alk ss t q → Alk ss (.b f s t) (.b f p q)
  | x (f : Str) {s t p q : Tm} : ss.tw f = true → Alk ss s q → Alk ss t p → Alk ss (.b f s t) (.b f p q)
section
variable {ss : Sg} {lt : Tm → Tm → Bool}
theorem ok_nf : ∀ t : Tm, Ok ss t → Ok ss (nf ss lt t)
  | .v x, h => h
  | .c f, h => h
  | .u f t, h => ⟨h.1, ok_nf t h.2⟩
  | .b f s t, h => by
    rw [nf_b]
    split
    · exact ⟨h.1, ok_nf t h.2.2, ok_nf s h.2.1⟩
    · exact ⟨h.1, ok_nf s h.2.1, ok_nf t h.2.2⟩
theorem dep_nf : ∀ t : Tm, (nf ss lt t).dep = t.dep
  | .v x => rfl
  | .c f => rfl
  | .u f t => by simp [nf, Tm.dep, dep_nf t]
  | .b f s t => by
    rw [nf_b]
    split <;> simp only [Tm.dep, dep_nf s, dep_nf t, Nat.max_comm]
theorem sz_nf : ∀ t : Tm, (nf ss lt t).sz = t.sz
  | .v x => rfl
  | .c f => rfl
  | .u f t => by simp [nf, Tm.sz, sz_nf t]
  | .b f s t => by
    rw [nf_b]
    split <;> simp only [Tm.sz, sz_nf s, sz_nf t] <;> omega
/-- two forms of two-place terms that are the same -/
theorem nf_two {f g : Str} {s t p q : Tm} (h : nf ss lt (.b f s t) = nf ss lt (.b g p q)) :
    f = g ∧ ((nf ss lt s = nf ss lt p ∧ nf ss lt t = nf ss lt q) ∨ (ss.tw f = true ∧ nf ss lt s = nf ss lt q ∧ nf ss lt t = nf ss lt p)) := by
  rw [nf_b, nf_b] at h
  split at h
  · next c1 =>
    split at h
    · next c2 =>
      injection h with h1 h2 h3
      exact ⟨h1, .inl ⟨h3, h2⟩⟩
    · next c2 =>
      injection h with h1 h2 h3
      rw [Bool.and_eq_true] at c1
      exact ⟨h1, .inr ⟨c1.1, h3, h2⟩⟩
  · next c1 =>
    split at h
    · next c2 =>
      injection h with h1 h2 h3
      rw [Bool.and_eq_true] at c2
      exact ⟨h1, .inr ⟨h1 ▸ c2.1, h2, h3⟩⟩
    · next c2 =>
      injection h with h1 h2 h3
      exact ⟨h1, .inl ⟨h2, h3⟩⟩
theorem nf_bb (f : Str) (s t : Tm) : ∃ p q, nf ss lt (.b f s t) = .b f p q := by
  rw [nf_b]
  split <;> exact ⟨_, _, rfl⟩
theorem alk_of : ∀ s t : Tm, nf ss lt s = nf ss lt t → Alk ss s t
  | .v x, .v y, h => by
    cases h
    exact .v x
  | .c x, .c y, h => by
    cases h
    exact .c x
  | .u f s, .u g t, h => by
    injection h with h1 h2
    subst h1
    exact .u f (alk_of s t h2)
  | .b f s t, .b g p q, h => by
    obtain ⟨e, h'⟩ := nf_two h
    subst e
    rcases h' with ⟨h1, h2⟩ | ⟨h0, h1, h2⟩
    · exact .b f (alk_of s p h1) (alk_of t q h2)
    · exact .x f h0 (alk_of s q h1) (alk_of t p h2)
  | .v x, .c y, h => by cases h
  | .v x, .u g t, h => by cases h
  | .v x, .b g p q, h => by
    obtain ⟨p', q', e⟩ := nf_bb (ss := ss) (lt := lt) g p q
    rw [e] at h
    cases h
  | .c x, .v y, h => by cases h
  | .c x, .u g t, h => by cases h
  | .c x, .b g p q, h => by
    obtain ⟨p', q', e⟩ := nf_bb (ss := ss) (lt := lt) g p q
    rw [e] at h
    cases h
  | .u x s, .v y, h => by cases h
  | .u x s, .c t, h => by cases h
  | .u x s, .b g p q, h => by
    obtain ⟨p', q', e⟩ := nf_bb (ss := ss) (lt := lt) g p q
    rw [e] at h
    cases h
  | .b f s t, .v y, h => by
    obtain ⟨p', q', e⟩ := nf_bb (ss := ss) (lt := lt) f s t
    rw [e] at h
    cases h
  | .b f s t, .c y, h => by
    obtain ⟨p', q', e⟩ := nf_bb (ss := ss) (lt := lt) f s t
    rw [e] at h
    cases h
  | .b f s t, .u y z, h => by
    obtain ⟨p', q', e⟩ := nf_bb (ss := ss) (lt := lt) f s t
    rw [e] at h
    cases h
/-- the order of the well-made terms is one -/
structure Lin (ss : Sg) (lt : Tm → Tm → Bool) : Prop where
  tot : ∀ s t, Ok ss s → Ok ss t → s ≠ t → lt s t = true ∨ lt t s = true
  asy : ∀ s t, lt s t = true → lt t s = false
theorem alk_ok {s t : Tm} (h : Alk ss s t) : Ok ss s → Ok ss t := by
  induction h with
  | v x => exact id
  | c f => exact id
  | u f _ ih => exact fun o => ⟨o.1, ih o.2⟩
  | b f _ _ ih1 ih2 => exact fun o => ⟨o.1, ih1 o.2.1, ih2 o.2.2⟩
  | x f _ _ _ ih1 ih2 => exact fun o => ⟨o.1, ih2 o.2.2, ih1 o.2.1⟩
theorem nf_of (L : Lin ss lt) {s t : Tm} (h : Alk ss s t) : Ok ss s → nf ss lt s = nf ss lt t := by
  induction h with
  | v x => exact fun _ => rfl
  | c f => exact fun _ => rfl
  | u f _ ih =>
    intro o
    show Tm.u f _ = Tm.u f _
    rw [ih o.2]
  | b f _ _ ih1 ih2 =>
    intro o
    rw [nf_b, nf_b, ih1 o.2.1, ih2 o.2.2]
  | @x f s t p q tw h1 h2 ih1 ih2 =>
    intro o
    have o1 := ok_nf (lt := lt) s o.2.1
    have o2 := ok_nf (lt := lt) t o.2.2
    rw [nf_b, nf_b, ← ih1 o.2.1, ← ih2 o.2.2, tw]
    simp only [Bool.true_and]
    by_cases e : nf ss lt s = nf ss lt t
    · rw [e]
    · rcases L.tot _ _ o1 o2 e with z | z
      · rw [if_pos z, if_neg (by rw [L.asy _ _ z]; exact Bool.false_ne_true)]
      · rw [if_pos z, if_neg (by rw [L.asy _ _ z]; exact Bool.false_ne_true)]
end
theorem lin_lt {ss : Sg} (g : ss.Good) : Lin ss (Tm.lt ss) := ⟨fun s t => lt_tot g s t, lt_asym ss⟩
/-- two orders give the same likeness -/
theorem nf_iff {ss : Sg} {l1 l2 : Tm → Tm → Bool} (L1 : Lin ss l1) (L2 : Lin ss l2) {s t : Tm} (o : Ok ss s) : nf ss l1 s = nf ss l1 t ↔ nf ss l2 s = nf ss l2 t :=
  ⟨fun h => nf_of L2 (alk_of s t h) o, fun h => nf_of L1 (alk_of s t h) o⟩

/-! ### the derivation of a likeness -/
def lik (ss : Sg) : Nat → Tm → Tm → List Ln
  | k, .u f a, .u g b => if Tm.u f a = .u g b then [.same (.u f a)] else lik ss k a b ++ [.within f [k + (lik ss k a b).length - 1]]
  | k, .b f a b, .b g c d => if Tm.b f a b = .b g c d then [.same (.b f a b)]
    else if lw ss a = lw ss c ∧ lw ss b = lw ss d then
      lik ss k a c ++ lik ss (k + (lik ss k a c).length) b d ++ [.within f [k + (lik ss k a c).length - 1, k + (lik ss k a c).length + (lik ss (k + (lik ss k a c).length) b d).length - 1]]
    else [.turn f a b] ++ lik ss (k + 1) b c ++ lik ss (k + 1 + (lik ss (k + 1) b c).length) a d ++
      [.within f [k + 1 + (lik ss (k + 1) b c).length - 1, k + 1 + (lik ss (k + 1) b c).length + (lik ss (k + 1 + (lik ss (k + 1) b c).length) a d).length - 1],
       .chain k (k + 1 + (lik ss (k + 1) b c).length + (lik ss (k + 1 + (lik ss (k + 1) b c).length) a d).length)]
  | _, s, _ => [.same s]
theorem lik_same (ss : Sg) (k : Nat) (s : Tm) : lik ss k s s = [.same s] := by
  cases s with
  | v x => simp [lik]
  | c f => simp [lik]
  | u f t => simp [lik]
  | b f s t => simp [lik]
theorem lik_pos (ss : Sg) (k : Nat) (s t : Tm) : 1 ≤ (lik ss k s t).length := by
  unfold lik
  split
  · split <;> simp
  · split
    · simp
    · split
      · simp only [List.length_append, List.length_cons]
        omega
      · simp only [List.length_append, List.length_cons]
        omega
  · simp
theorem lik_le (ss : Sg) : ∀ (s t : Tm) (k : Nat), (lik ss k s t).length ≤ 3 * s.sz
  | .u f a, .u g b, k => by
    have h1 := lik_le ss a b k
    unfold lik
    split
    · simp [Tm.sz]; omega
    · simp [Tm.sz]; omega
  | .b f a b, .b g c d, k => by
    have h1 := lik_le ss a c k
    have h2 := lik_le ss b d (k + (lik ss k a c).length)
    have h3 := lik_le ss b c (k + 1)
    have h4 := lik_le ss a d (k + 1 + (lik ss (k + 1) b c).length)
    unfold lik
    split
    · simp [Tm.sz]; omega
    · split
      · simp [Tm.sz]; omega
      · simp [Tm.sz]; omega
  | .v x, t, k => by
    have : lik ss k (.v x) t = [.same (.v x)] := by cases t <;> rfl
    rw [this]
    simp [Tm.sz]
  | .c x, t, k => by
    have : lik ss k (.c x) t = [.same (.c x)] := by cases t <;> rfl
    rw [this]
    simp [Tm.sz]
  | .u x s, .v t, k => by simp [lik, Tm.sz]; omega
  | .u x s, .c t, k => by simp [lik, Tm.sz]; omega
  | .u x s, .b t p q, k => by simp [lik, Tm.sz]; omega
  | .b x s z, .v t, k => by simp [lik, Tm.sz]; omega
  | .b x s z, .c t, k => by simp [lik, Tm.sz]; omega
  | .b x s z, .u t p, k => by simp [lik, Tm.sz]; omega
/-- it derives what it should -/
theorem lik_ok {ss : Sg} {n : Nat} (g : ss.Good) : ∀ (s t : Tm), Ok ss s → Ok ss t → s.dep ≤ n → t.dep ≤ n → lw ss s = lw ss t → ∀ (ls : List Ln) (cs : List Pr), Dv ss n ls cs →
    ∃ ds : List Pr, Dv ss n (ls ++ lik ss ls.length s t) (cs ++ ds) ∧ (cs ++ ds)[ls.length + (lik ss ls.length s t).length - 1]? = some (s, t) ∧ ∀ c ∈ ds, c.1.dep ≤ n ∧ c.2.dep ≤ n := by
  have hsame : ∀ (s : Tm), Ok ss s → s.dep ≤ n → ∀ (ls : List Ln) (cs : List Pr), Dv ss n ls cs → ∃ ds : List Pr, Dv ss n (ls ++ [.same s]) (cs ++ ds) ∧ (cs ++ ds)[ls.length + 1 - 1]? = some (s, s) ∧ ∀ c ∈ ds, c.1.dep ≤ n ∧ c.2.dep ≤ n := fun s o hd ls cs h => by
    refine ⟨[(s, s)], h.snoc (.same s o hd), ?_, fun c hc => ?_⟩
    · rw [h.len]
      simp
    · rw [List.mem_singleton.mp hc]
      exact ⟨hd, hd⟩
  intro s
  induction s with
  | v x =>
    intro t o ot hd hdt h ls cs dv
    have e : t = .v x := by
      rw [lw_nf, lw_nf] at h
      cases alk_of _ _ h
      rfl
    subst e
    exact hsame _ o hd ls cs dv
  | c f =>
    intro t o ot hd hdt h ls cs dv
    have e : t = .c f := by
      rw [lw_nf, lw_nf] at h
      cases alk_of _ _ h
      rfl
    subst e
    exact hsame _ o hd ls cs dv
  | u f a ih =>
    intro t o ot hd hdt h ls cs dv
    have e : ∃ b, t = .u f b ∧ lw ss a = lw ss b := by
      rw [lw_nf, lw_nf] at h
      cases alk_of _ _ h with
      | u f hab =>
        refine ⟨_, rfl, ?_⟩
        rw [lw_nf, lw_nf]
        exact nf_of (lin_lt g) hab o.2
    obtain ⟨b, rfl, hab⟩ := e
    by_cases hst : Tm.u f a = .u f b
    · cases hst
      rw [lik_same]
      exact hsame _ o hd ls cs dv
    · simp only [Tm.dep] at hd hdt
      obtain ⟨ds, d1, d2, d5⟩ := ih b o.2 ot.2 (by omega) (by omega) hab ls cs dv
      have hl : lik ss ls.length (.u f a) (.u f b) = lik ss ls.length a b ++ [.within f [ls.length + (lik ss ls.length a b).length - 1]] := by
        conv => lhs; unfold lik
        rw [if_neg hst]
      obtain ⟨i, y, e1, e2, e3⟩ := ok_ap (t := .u f a) rfl o
      refine ⟨ds ++ [(.u f a, .u f b)], ?_, ?_, fun c hc => ?_⟩
      · rw [hl, ← List.append_assoc, ← List.append_assoc]
        refine d1.snoc ?_
        have q := Co.within (ss := ss) (n := n) (done := cs ++ ds) i y [ls.length + (lik ss ls.length a b).length - 1] [(a, b)] e1 (by rw [e3]; rfl) (by rw [e3]; rfl) (by rw [e3]; show 1 ≤ 2; decide) fun k m hk => by
          match k, hk with
          | 0, hk =>
            cases hk
            exact ⟨_, rfl, d2⟩
        rw [e2] at q
        exact q
      · rw [hl, ← List.append_assoc]
        have := d1.len
        simp only [List.length_append, List.length_cons, List.length_nil] at this ⊢
        rw [List.getElem?_append_right (by simp only [List.length_append]; omega)]
        simp only [List.length_append]
        rw [show ls.length + ((lik ss ls.length a b).length + (0 + 1)) - 1 - (cs.length + ds.length) = 0 by omega]
        rfl
      · rcases List.mem_append.mp hc with h | h
        · exact d5 c h
        · rw [List.mem_singleton.mp h]
          exact ⟨by simp only [Tm.dep]; omega, by simp only [Tm.dep]; omega⟩
  | b f a b ih1 ih2 =>
    intro t o ot hd hdt h ls cs dv
    have e : ∃ c d, t = .b f c d ∧ ((lw ss a = lw ss c ∧ lw ss b = lw ss d) ∨ (ss.tw f = true ∧ lw ss a = lw ss d ∧ lw ss b = lw ss c)) := by
      rw [lw_nf, lw_nf] at h
      cases alk_of _ _ h with
      | b f h1 h2 =>
        refine ⟨_, _, rfl, .inl ⟨?_, ?_⟩⟩
        · rw [lw_nf, lw_nf]
          exact nf_of (lin_lt g) h1 o.2.1
        · rw [lw_nf, lw_nf]
          exact nf_of (lin_lt g) h2 o.2.2
      | x f tw h1 h2 =>
        refine ⟨_, _, rfl, .inr ⟨tw, ?_, ?_⟩⟩
        · rw [lw_nf, lw_nf]
          exact nf_of (lin_lt g) h1 o.2.1
        · rw [lw_nf, lw_nf]
          exact nf_of (lin_lt g) h2 o.2.2
    obtain ⟨c, d, rfl, hcd⟩ := e
    obtain ⟨i, y, e1, e2, e3⟩ := ok_ap (t := .b f a b) rfl o
    simp only [Tm.args, List.length_cons, List.length_nil] at e3
    have o' := o
    obtain ⟨o1, oa, ob⟩ := o
    obtain ⟨_, oc, od⟩ := ot
    by_cases hst : Tm.b f a b = .b f c d
    · cases hst
      rw [lik_same]
      exact hsame _ o' hd ls cs dv
    simp only [Tm.dep] at hd hdt
    have two : ∀ (ls : List Ln) (cs : List Pr) (p q r z : Tm) (m1 m2 : Nat), Dv ss n ls cs → cs[m1]? = some (p, q) → cs[m2]? = some (r, z) → Dv ss n (ls ++ [.within f [m1, m2]]) (cs ++ [(.b f p r, .b f q z)]) := fun ls cs p q r z m1 m2 dv h1 h2 => by
      refine dv.snoc ?_
      have w := Co.within (ss := ss) (n := n) (done := cs) i y [m1, m2] [(p, q), (r, z)] e1 (by rw [e3]; rfl) (by rw [e3]; rfl) (by rw [e3]; decide) fun k m hk => by
        match k, hk with
        | 0, hk =>
          cases hk
          exact ⟨_, rfl, h1⟩
        | 1, hk =>
          cases hk
          exact ⟨_, rfl, h2⟩
      rw [e2] at w
      exact w
    by_cases hs : lw ss a = lw ss c ∧ lw ss b = lw ss d
    · obtain ⟨ds1, d1, d2, d5⟩ := ih1 c oa oc (by omega) (by omega) hs.1 ls cs dv
      obtain ⟨ds2, d3, d4, d6⟩ := ih2 d ob od (by omega) (by omega) hs.2 _ _ d1
      rw [List.length_append] at d3 d4
      have hl : lik ss ls.length (.b f a b) (.b f c d) = lik ss ls.length a c ++ lik ss (ls.length + (lik ss ls.length a c).length) b d ++ [.within f [ls.length + (lik ss ls.length a c).length - 1, ls.length + (lik ss ls.length a c).length + (lik ss (ls.length + (lik ss ls.length a c).length) b d).length - 1]] := by
        conv => lhs; unfold lik
        rw [if_neg hst, if_pos hs]
      have p1 := lik_pos ss ls.length a c
      have l1 := d1.len
      have l3 := d3.len
      simp only [List.length_append] at l1 l3
      have d2' : (cs ++ ds1 ++ ds2)[ls.length + (lik ss ls.length a c).length - 1]? = some (a, c) := by
        rw [List.getElem?_append_left (by simp only [List.length_append]; omega)]
        exact d2
      have dv2 := two _ _ _ _ _ _ _ _ d3 d2' d4
      refine ⟨ds1 ++ ds2 ++ [(.b f a b, .b f c d)], ?_, ?_, fun z hz => ?_⟩
      · rw [hl]
        simp only [← List.append_assoc] at dv2 ⊢
        exact dv2
      · rw [hl]
        simp only [← List.append_assoc, List.length_append, List.length_cons, List.length_nil]
        rw [List.getElem?_append_right (by simp only [List.length_append]; omega)]
        simp only [List.length_append]
        rw [show ls.length + ((lik ss ls.length a c).length + (lik ss (ls.length + (lik ss ls.length a c).length) b d).length + (0 + 1)) - 1 - (cs.length + ds1.length + ds2.length) = 0 by omega]
        rfl
      · rcases List.mem_append.mp hz with h | h
        · rcases List.mem_append.mp h with h | h
          · exact d5 z h
          · exact d6 z h
        · rw [List.mem_singleton.mp h]
          exact ⟨by simp only [Tm.dep]; omega, by simp only [Tm.dep]; omega⟩
    · obtain ⟨tw, h1, h2⟩ := hcd.resolve_left hs
      have ytw : y.tw = true := by
        rw [← (g.find (List.mem_of_getElem? e1)).2.1, e2]
        exact tw
      have dv0 : Dv ss n (ls ++ [.turn f a b]) (cs ++ [(.b f a b, .b f b a)]) := by
        refine dv.snoc ?_
        have w := Co.turn (ss := ss) (n := n) (done := cs) i y a b e1 ytw oa ob (by omega) (by omega)
        rw [e2] at w
        exact w
      obtain ⟨ds1, d1, d2, d5⟩ := ih2 c ob oc (by omega) (by omega) h2 _ _ dv0
      obtain ⟨ds2, d3, d4, d6⟩ := ih1 d oa od (by omega) (by omega) h1 _ _ d1
      simp only [List.length_append, List.length_cons, List.length_nil, Nat.zero_add] at d1 d2 d3 d4
      have hl : lik ss ls.length (.b f a b) (.b f c d) = [.turn f a b] ++ lik ss (ls.length + 1) b c ++ lik ss (ls.length + 1 + (lik ss (ls.length + 1) b c).length) a d ++
          [.within f [ls.length + 1 + (lik ss (ls.length + 1) b c).length - 1, ls.length + 1 + (lik ss (ls.length + 1) b c).length + (lik ss (ls.length + 1 + (lik ss (ls.length + 1) b c).length) a d).length - 1],
           .chain ls.length (ls.length + 1 + (lik ss (ls.length + 1) b c).length + (lik ss (ls.length + 1 + (lik ss (ls.length + 1) b c).length) a d).length)] := by
        conv => lhs; unfold lik
        rw [if_neg hst, if_neg hs]
      have p1 := lik_pos ss (ls.length + 1) b c
      have l0 := dv.len
      have l1 := d1.len
      have l3 := d3.len
      simp only [List.length_append, List.length_cons, List.length_nil] at l1 l3
      have d2' : (cs ++ [(Tm.b f a b, Tm.b f b a)] ++ ds1 ++ ds2)[ls.length + 1 + (lik ss (ls.length + 1) b c).length - 1]? = some (b, c) := by
        rw [List.getElem?_append_left (by simp only [List.length_append, List.length_cons, List.length_nil]; omega)]
        exact d2
      have dv2 := two _ _ _ _ _ _ _ _ d3 d2' d4
      have hlast : ∀ (X : List Pr) (z : Pr) (m : Nat), m = X.length → (X ++ [z])[m]? = some z := fun X z m h => by
        subst h
        simp
      have dv3 := dv2.snoc (Co.chain (ss := ss) (n := n) ls.length (ls.length + 1 + (lik ss (ls.length + 1) b c).length + (lik ss (ls.length + 1 + (lik ss (ls.length + 1) b c).length) a d).length) (.b f a b) (.b f b a) (.b f c d) ⟨o1, ob, oa⟩ (by simp only [Tm.dep]; omega)
        (by
          rw [List.append_assoc, List.append_assoc, List.append_assoc, List.getElem?_append_right (by omega), l0]
          simp)
        (hlast _ _ _ (by simp only [List.length_append, List.length_cons, List.length_nil]; omega)))
      refine ⟨[(.b f a b, .b f b a)] ++ ds1 ++ ds2 ++ [(.b f b a, .b f c d)] ++ [(.b f a b, .b f c d)], ?_, ?_, fun z hz => ?_⟩
      · rw [hl]
        simp only [List.append_assoc, List.cons_append, List.nil_append] at dv3 ⊢
        exact dv3
      · rw [hl]
        simp only [← List.append_assoc]
        refine hlast _ _ _ ?_
        simp only [List.length_append, List.length_cons, List.length_nil]
        omega
      · simp only [List.mem_append, List.mem_singleton] at hz
        rcases hz with (((h | h) | h) | h) | h
        · rw [h]
          exact ⟨by simp only [Tm.dep]; omega, by simp only [Tm.dep]; omega⟩
        · exact d5 z h
        · exact d6 z h
        · rw [h]
          exact ⟨by simp only [Tm.dep]; omega, by simp only [Tm.dep]; omega⟩
        · rw [h]
          exact ⟨by simp only [Tm.dep]; omega, by simp only [Tm.dep]; omega⟩
end Tw

set_option maxHeartbeats 4000000
namespace Tw
open PySem
theorem co_same {ss : Sg} {n : Nat} {cs : List Pr} {t : Tm} {z : Pr} (h : Co ss n cs (.same t) z) : z = (t, t) := by
  cases h
  rfl
theorem co_turn {ss : Sg} {n : Nat} {cs : List Pr} {f : Str} {p q : Tm} {z : Pr} (h : Co ss n cs (.turn f p q) z) : z = (.b f p q, .b f q p) := by
  cases h
  rfl
theorem co_chain {ss : Sg} {n : Nat} {cs : List Pr} {i j : Nat} {z : Pr} (h : Co ss n cs (.chain i j) z) : ∃ b, cs[i]? = some (z.1, b) ∧ cs[j]? = some (b, z.2) := by
  cases h with
  | chain _ _ a b c _ _ h1 h2 => exact ⟨b, h1, h2⟩
theorem co_within {ss : Sg} {n : Nat} {cs : List Pr} {f : Str} {ns : List Nat} {z : Pr} (h : Co ss n cs (.within f ns) z) : ∃ qs : List Pr, qs.length = ns.length ∧ (∀ (k m : Nat), ns[k]? = some m → ∃ q, qs[k]? = some q ∧ cs[m]? = some q) ∧ z = (mkT f (qs.map (·.1)), mkT f (qs.map (·.2))) := by
  cases h with
  | within i y ns qs h1 h2 h3 h4 h5 => exact ⟨qs, by omega, h5, rfl⟩
theorem Co.uniq {ss : Sg} {n : Nat} {cs : List Pr} {l : Ln} {c c' : Pr} (h : Co ss n cs l c) (h' : Co ss n cs l c') : c = c' := by
  cases l with
  | same t => rw [co_same h, co_same h']
  | turn f p q => rw [co_turn h, co_turn h']
  | chain i j =>
    obtain ⟨b, h1, h2⟩ := co_chain h
    obtain ⟨b', h3, h4⟩ := co_chain h'
    rw [h1] at h3
    injection h3 with h3
    injection h3 with e1 e2
    subst e2
    rw [h2] at h4
    injection h4 with h4
    injection h4 with e3 e4
    exact Prod.ext e1 e4
  | within f ns =>
    obtain ⟨qs, l1, m1, e1⟩ := co_within h
    obtain ⟨qs', l2, m2, e2⟩ := co_within h'
    have : qs = qs' := by
      apply List.ext_getElem (by omega)
      intro k h1 h2
      have hk : ns[k]? = some ns[k] := List.getElem?_eq_getElem (by omega)
      obtain ⟨q, a1, a2⟩ := m1 k _ hk
      obtain ⟨q', b1, b2⟩ := m2 k _ hk
      rw [List.getElem?_eq_getElem h1] at a1
      rw [List.getElem?_eq_getElem h2] at b1
      rw [a2] at b2
      rw [Option.some.inj a1, Option.some.inj b1, Option.some.inj b2]
    rw [e1, e2, this]
theorem Dv.uniq {ss : Sg} {n : Nat} {ls : List Ln} {cs : List Pr} (h : Dv ss n ls cs) : ∀ {cs' : List Pr}, Dv ss n ls cs' → cs = cs' := by
  induction h with
  | nil =>
    intro cs' h'
    have := h'.len
    exact (List.length_eq_zero_iff.mp this.symm).symm
  | @snoc ls cs l c h hc ih =>
    intro cs' h'
    generalize e : ls ++ [l] = ls' at h'
    cases h' with
    | nil => simp at e
    | @snoc ls2 cs2 l2 c2 h2 hc2 =>
      obtain ⟨e1, e2⟩ := List.append_inj' e rfl
      subst e1
      injection e2 with e2
      subst e2
      have := ih h2
      subst this
      rw [hc.uniq hc2]
theorem Dv.inv {ss : Sg} {n : Nat} {ls : List Ln} {l : Ln} {cs' : List Pr} (h : Dv ss n (ls ++ [l]) cs') : ∃ (cs : List Pr) (c : Pr), cs' = cs ++ [c] ∧ Dv ss n ls cs ∧ Co ss n cs l c := by
  generalize e : ls ++ [l] = ls' at h
  cases h with
  | nil => simp at e
  | @snoc ls2 cs2 l2 c2 h2 hc2 =>
    obtain ⟨e1, e2⟩ := List.append_inj' e rfl
    subst e1
    injection e2 with e2
    subst e2
    exact ⟨cs2, c2, rfl, h2, hc2⟩
theorem Dv.pre {ss : Sg} {n : Nat} {ls : List Ln} : ∀ {ms : List Ln} {cs' : List Pr}, Dv ss n (ls ++ ms) cs' → ∃ cs : List Pr, Dv ss n ls cs := by
  intro ms
  generalize e : ms.length = k
  induction k generalizing ms with
  | zero =>
    intro cs' h
    rw [List.length_eq_zero_iff.mp e, List.append_nil] at h
    exact ⟨_, h⟩
  | succ k ih =>
    intro cs' h
    have ne : ms ≠ [] := fun z => by rw [z] at e; cases e
    rw [← List.dropLast_concat_getLast ne, ← List.append_assoc] at h
    obtain ⟨cs, c, _, h2, _⟩ := h.inv
    exact ih (by rw [List.length_dropLast, e]; rfl) h2
theorem alk_lw {ss : Sg} (g : ss.Good) {s t : Tm} (h : Alk ss s t) (o : Ok ss s) : lw ss s = lw ss t := by
  rw [lw_nf, lw_nf]
  exact nf_of (lin_lt g) h o
theorem lw_alk {ss : Sg} {s t : Tm} (h : lw ss s = lw ss t) : Alk ss s t := by
  rw [lw_nf, lw_nf] at h
  exact alk_of s t h
theorem alk_cases {ss : Sg} (g : ss.Good) {s t : Tm} (h : lw ss s = lw ss t) (o : Ok ss s) : s = t ∨ (∃ f a b, s = .u f a ∧ t = .u f b ∧ lw ss a = lw ss b) ∨ (∃ f a b c e, s = .b f a b ∧ t = .b f c e ∧ lw ss a = lw ss c ∧ lw ss b = lw ss e) ∨
    (∃ f a b c e, s = .b f a b ∧ t = .b f c e ∧ ¬ (lw ss a = lw ss c ∧ lw ss b = lw ss e) ∧ lw ss a = lw ss e ∧ lw ss b = lw ss c) := by
  cases lw_alk h with
  | v x => exact .inl rfl
  | c x => exact .inl rfl
  | u f hab => exact .inr (.inl ⟨f, _, _, rfl, rfl, alk_lw g hab o.2⟩)
  | b f h1 h2 => exact .inr (.inr (.inl ⟨f, _, _, _, _, rfl, rfl, alk_lw g h1 o.2.1, alk_lw g h2 o.2.2⟩))
  | @x f a b c e tw h1 h2 =>
    by_cases hst : lw ss a = lw ss c ∧ lw ss b = lw ss e
    · exact .inr (.inr (.inl ⟨f, _, _, _, _, rfl, rfl, hst.1, hst.2⟩))
    · exact .inr (.inr (.inr ⟨f, _, _, _, _, rfl, rfl, hst, alk_lw g h1 o.2.1, alk_lw g h2 o.2.2⟩))
end Tw

set_option maxHeartbeats 4000000
namespace Tw
open PySem
abbrev cl (x : Str) : List Nat := x.cps.toList
theorem cl_app (a b : Str) : cl (a ++ b) = cl a ++ cl b := by
  show (a ++ b).cps.toList = _
  rw [Str.cps_append, Array.toList_append]
theorem cl_len (a : Str) : (cl a).length = a.length := by
  show a.cps.toList.length = a.cps.size
  simp
/-! ### what repr makes of a term -/
theorem sh_c (f : Str) : (Tm.c f).d.shown = ("(" : Str) ++ reprText f ++ (",)" : String) := rfl
theorem sh_u (f : Str) (t : Tm) : (Tm.u f t).d.shown = ("(" : Str) ++ (reprText f ++ ", " ++ t.d.shown) ++ (")" : String) := rfl
theorem sh_b (f : Str) (s t : Tm) : (Tm.b f s t).d.shown = ("(" : Str) ++ (reprText f ++ ", " ++ (s.d.shown ++ ", " ++ t.d.shown)) ++ (")" : String) := rfl
theorem cs_v {x : Str} (h : NameOk x) : cl (Tm.v x).d.shown = 39 :: (cl x ++ [39]) := h.r
theorem cs_c {f : Str} (h : NameOk f) : cl (Tm.c f).d.shown = 40 :: 39 :: (cl f ++ 39 :: [44, 41]) := by
  rw [sh_c, cl_app, cl_app, show cl (reprText f) = _ from h.r]
  show [40] ++ (39 :: (cl f ++ [39])) ++ [44, 41] = _
  simp
theorem cs_u {f : Str} {t : Tm} (h : NameOk f) : cl (Tm.u f t).d.shown = 40 :: 39 :: (cl f ++ 39 :: 44 :: 32 :: (cl t.d.shown ++ [41])) := by
  rw [sh_u, cl_app, cl_app, cl_app, cl_app, show cl (reprText f) = _ from h.r]
  show [40] ++ (39 :: (cl f ++ [39]) ++ [44, 32] ++ _) ++ [41] = _
  simp
theorem cs_b {f : Str} {s t : Tm} (h : NameOk f) : cl (Tm.b f s t).d.shown = 40 :: 39 :: (cl f ++ 39 :: 44 :: 32 :: (cl s.d.shown ++ 44 :: 32 :: (cl t.d.shown ++ [41]))) := by
  rw [sh_b, cl_app, cl_app, cl_app, cl_app, cl_app, cl_app, show cl (reprText f) = _ from h.r]
  show [40] ++ (39 :: (cl f ++ [39]) ++ [44, 32] ++ (_ ++ [44, 32] ++ _)) ++ [41] = _
  simp
theorem qfree : ∀ {a b r1 r2 : List Nat}, (∀ n ∈ a, n ≠ 39) → (∀ n ∈ b, n ≠ 39) → a ++ 39 :: r1 = b ++ 39 :: r2 → a = b ∧ r1 = r2
  | [], [], r1, r2, _, _, h => by
    injection h with _ h
    exact ⟨rfl, h⟩
  | [], y :: b, r1, r2, _, hb, h => by
    injection h with h _
    exact absurd h.symm (hb y List.mem_cons_self)
  | x :: a, [], r1, r2, ha, _, h => by
    injection h with h _
    exact absurd h (ha x List.mem_cons_self)
  | x :: a, y :: b, r1, r2, ha, hb, h => by
    injection h with h1 h2
    obtain ⟨e1, e2⟩ := qfree (fun n hn => ha n (List.mem_cons_of_mem _ hn)) (fun n hn => hb n (List.mem_cons_of_mem _ hn)) h2
    exact ⟨by rw [h1, e1], e2⟩
theorem cl_inj {x y : Str} (h : cl x = cl y) : x = y := Classical.byContradiction fun n => cps_ne n h
section
variable {ss : Sg} (g : ss.Good)
include g
theorem nm_c {f : Str} {k : Nat} (h : ∃ s ∈ ss, s.n = f ∧ s.ar = k) : NameOk f := by
  obtain ⟨s, hs, e, _⟩ := h
  rw [← e]
  exact sNames_ok _ (g.nm s hs)
theorem sh_inj : ∀ s t : Tm, Ok ss s → Ok ss t → ∀ r1 r2 : List Nat, cl s.d.shown ++ r1 = cl t.d.shown ++ r2 → s = t ∧ r1 = r2
  | .v x, .v y, hx, hy, r1, r2, h => by
    have nx := vNames_ok x hx
    have ny := vNames_ok y hy
    rw [cs_v nx, cs_v ny] at h
    simp only [List.cons_append, List.append_assoc, List.nil_append, List.cons.injEq, true_and] at h
    obtain ⟨e1, e2⟩ := qfree nx.q ny.q h
    exact ⟨by rw [cl_inj e1], e2⟩
  | .c f, .c k, hf, hk, r1, r2, h => by
    have nf := nm_c g hf
    have nk := nm_c g hk
    rw [cs_c nf, cs_c nk] at h
    simp only [List.cons_append, List.append_assoc, List.nil_append, List.cons.injEq, true_and] at h
    obtain ⟨e1, e2⟩ := qfree nf.q nk.q h
    simp only [List.cons.injEq, true_and] at e2
    exact ⟨by rw [cl_inj e1], e2⟩
  | .u f s, .u k t, hf, hk, r1, r2, h => by
    have nf := nm_c g hf.1
    have nk := nm_c g hk.1
    rw [cs_u nf, cs_u nk] at h
    simp only [List.cons_append, List.append_assoc, List.nil_append, List.cons.injEq, true_and] at h
    obtain ⟨e1, e2⟩ := qfree nf.q nk.q h
    simp only [List.cons.injEq, true_and] at e2
    obtain ⟨e3, e4⟩ := sh_inj s t hf.2 hk.2 _ _ e2
    simp only [List.cons.injEq, true_and] at e4
    exact ⟨by rw [cl_inj e1, e3], e4⟩
  | .b f s t, .b k p q, hf, hk, r1, r2, h => by
    have nf := nm_c g hf.1
    have nk := nm_c g hk.1
    rw [cs_b nf, cs_b nk] at h
    simp only [List.cons_append, List.append_assoc, List.nil_append, List.cons.injEq, true_and] at h
    obtain ⟨e1, e2⟩ := qfree nf.q nk.q h
    simp only [List.cons.injEq, true_and] at e2
    obtain ⟨e3, e4⟩ := sh_inj s p hf.2.1 hk.2.1 _ _ e2
    simp only [List.cons.injEq, true_and] at e4
    obtain ⟨e5, e6⟩ := sh_inj t q hf.2.2 hk.2.2 _ _ e4
    simp only [List.cons.injEq, true_and] at e6
    exact ⟨by rw [cl_inj e1, e3, e5], e6⟩
  | .c f, .u k t, hf, hk, r1, r2, h => by
    have nf := nm_c g hf
    have nk := nm_c g hk.1
    rw [cs_c nf, cs_u nk] at h
    simp only [List.cons_append, List.append_assoc, List.nil_append, List.cons.injEq, true_and] at h
    obtain ⟨e1, e2⟩ := qfree nf.q nk.q h
    simp at e2
  | .c f, .b k p q, hf, hk, r1, r2, h => by
    have nf := nm_c g hf
    have nk := nm_c g hk.1
    rw [cs_c nf, cs_b nk] at h
    simp only [List.cons_append, List.append_assoc, List.nil_append, List.cons.injEq, true_and] at h
    obtain ⟨e1, e2⟩ := qfree nf.q nk.q h
    simp at e2
  | .u f s, .c k, hf, hk, r1, r2, h => by
    have nf := nm_c g hf.1
    have nk := nm_c g hk
    rw [cs_u nf, cs_c nk] at h
    simp only [List.cons_append, List.append_assoc, List.nil_append, List.cons.injEq, true_and] at h
    obtain ⟨e1, e2⟩ := qfree nf.q nk.q h
    simp at e2
  | .b f s t, .c k, hf, hk, r1, r2, h => by
    have nf := nm_c g hf.1
    have nk := nm_c g hk
    rw [cs_b nf, cs_c nk] at h
    simp only [List.cons_append, List.append_assoc, List.nil_append, List.cons.injEq, true_and] at h
    obtain ⟨e1, e2⟩ := qfree nf.q nk.q h
    simp at e2
  | .u f s, .b k p q, hf, hk, r1, r2, h => by
    have nf := nm_c g hf.1
    have nk := nm_c g hk.1
    rw [cs_u nf, cs_b nk] at h
    simp only [List.cons_append, List.append_assoc, List.nil_append, List.cons.injEq, true_and] at h
    obtain ⟨e1, e2⟩ := qfree nf.q nk.q h
    simp only [List.cons.injEq, true_and] at e2
    obtain ⟨e3, e4⟩ := sh_inj s p hf.2 hk.2.1 _ _ e2
    simp at e4
  | .b f s t, .u k p, hf, hk, r1, r2, h => by
    have nf := nm_c g hf.1
    have nk := nm_c g hk.1
    rw [cs_b nf, cs_u nk] at h
    simp only [List.cons_append, List.append_assoc, List.nil_append, List.cons.injEq, true_and] at h
    obtain ⟨e1, e2⟩ := qfree nf.q nk.q h
    simp only [List.cons.injEq, true_and] at e2
    obtain ⟨e3, e4⟩ := sh_inj s p hf.2.1 hk.2 _ _ e2
    simp at e4
  | .v x, .c k, hx, hk, r1, r2, h => by
    rw [cs_v (vNames_ok x hx), cs_c (nm_c g hk)] at h
    simp at h
  | .v x, .u k t, hx, hk, r1, r2, h => by
    rw [cs_v (vNames_ok x hx), cs_u (nm_c g hk.1)] at h
    simp at h
  | .v x, .b k p q, hx, hk, r1, r2, h => by
    rw [cs_v (vNames_ok x hx), cs_b (nm_c g hk.1)] at h
    simp at h
  | .c k, .v x, hk, hx, r1, r2, h => by
    rw [cs_v (vNames_ok x hx), cs_c (nm_c g hk)] at h
    simp at h
  | .u k t, .v x, hk, hx, r1, r2, h => by
    rw [cs_v (vNames_ok x hx), cs_u (nm_c g hk.1)] at h
    simp at h
  | .b k p q, .v x, hk, hx, r1, r2, h => by
    rw [cs_v (vNames_ok x hx), cs_b (nm_c g hk.1)] at h
    simp at h
theorem len_rep {x : Str} (h : NameOk x) : (reprText x).length ≤ 10 := by
  rw [← cl_len, show cl (reprText x) = _ from h.r]
  have := h.len
  simp only [List.length_cons, List.length_append, List.length_nil]
  rw [show x.cps.toList.length = x.length from cl_len x]
  omega
theorem len_sh : ∀ t : Tm, Ok ss t → t.d.shown.length ≤ 16 * t.sz
  | .v x, h => by
    have := len_rep g (vNames_ok x h)
    show (reprText x).length ≤ 16 * 1
    omega
  | .c f, h => by
    have := (nm_c g h).len
    rw [← cl_len, cs_c (nm_c g h)]
    simp only [List.length_cons, List.length_append, List.length_nil, Tm.sz]
    rw [show (cl f).length = f.length from cl_len f]
    omega
  | .u f t, h => by
    have h1 := (nm_c g h.1).len
    have h2 := len_sh t h.2
    rw [← cl_len, cs_u (nm_c g h.1)]
    simp only [List.length_cons, List.length_append, List.length_nil, Tm.sz]
    rw [show (cl f).length = f.length from cl_len f, show (cl t.d.shown).length = _ from cl_len _]
    omega
  | .b f s t, h => by
    have h1 := (nm_c g h.1).len
    have h2 := len_sh s h.2.1
    have h3 := len_sh t h.2.2
    rw [← cl_len, cs_b (nm_c g h.1)]
    simp only [List.length_cons, List.length_append, List.length_nil, Tm.sz]
    rw [show (cl f).length = f.length from cl_len f, show (cl t.d.shown).length = _ from cl_len _, show (cl s.d.shown).length = _ from cl_len _]
    omega
end
theorem showable_d : ∀ t : Tm, t.d.showable = true ∧ t.d.hasDict = false
  | .v x => ⟨rfl, rfl⟩
  | .c f => ⟨rfl, rfl⟩
  | .u f t => by
    have h := showable_d t
    simp [Tm.d, PyData.showable, PyData.showableAll, PyData.hasDict, PyData.hasDictAll, h.1, h.2]
  | .b f s t => by
    have h := showable_d t
    have h2 := showable_d s
    simp [Tm.d, PyData.showable, PyData.showableAll, PyData.hasDict, PyData.hasDictAll, h.1, h.2, h2.1, h2.2]
/-- the order of the texts -/
def ltR (s t : Tm) : Bool := decide (s.d.shown.cps.toList < t.d.shown.cps.toList)
theorem lin_R {ss : Sg} (g : ss.Good) : Lin ss ltR where
  tot := fun s t os ot ne => by
    have : s.d.shown ≠ t.d.shown := fun e => ne (sh_inj g s t os ot [] [] (by rw [e])).1
    rcases strLt_tot this with h | h
    · exact .inl (decide_eq_true h)
    · exact .inr (decide_eq_true h)
  asy := fun s t h => decide_eq_false (strLt_asym (of_decide_eq_true h))
end Tw

set_option maxHeartbeats 4000000
namespace Tw
open PySem
/-! ### the told lines: their text is not too long -/
def LnG (ss : Sg) (M : Nat) : Ln → Prop
  | .same t => Ok ss t ∧ t.sz ≤ 64 ∧ t.dep ≤ M
  | .turn f p q => NameOk f ∧ Ok ss p ∧ Ok ss q ∧ p.sz ≤ 64 ∧ q.sz ≤ 64 ∧ p.dep ≤ M ∧ q.dep ≤ M
  | .chain i j => i < 300 ∧ j < 300
  | .within f ns => NameOk f ∧ ns.length ≤ 2 ∧ ∀ n ∈ ns, n < 300
theorem lik_good {ss : Sg} (g : ss.Good) {M : Nat} : ∀ (s t : Tm) (k : Nat), Ok ss s → s.sz ≤ 64 → s.dep ≤ M → k + 3 * s.sz ≤ 299 → ∀ l ∈ lik ss k s t, LnG ss M l
  | .u f a, .u h b, k, os, hz, hd, hk, l, hl => by
    have hle := lik_le ss a b k
    simp only [Tm.sz] at hz hk
    simp only [Tm.dep] at hd
    unfold lik at hl
    split at hl
    · rw [List.mem_singleton.mp hl]
      exact ⟨os, by simp only [Tm.sz]; omega, by simp only [Tm.dep]; omega⟩
    · rcases List.mem_append.mp hl with hl | hl
      · exact lik_good g a b k os.2 (by omega) (by omega) (by omega) l hl
      · rw [List.mem_singleton.mp hl]
        refine ⟨nm_c g os.1, by simp, fun n hn => ?_⟩
        rw [List.mem_singleton.mp hn]
        omega
  | .b f a b, .b h c e, k, os, hz, hd, hk, l, hl => by
    have h1 := lik_le ss a c k
    have h2 := lik_le ss b e (k + (lik ss k a c).length)
    have h3 := lik_le ss b c (k + 1)
    have h4 := lik_le ss a e (k + 1 + (lik ss (k + 1) b c).length)
    simp only [Tm.sz] at hz hk
    simp only [Tm.dep] at hd
    unfold lik at hl
    split at hl
    · rw [List.mem_singleton.mp hl]
      exact ⟨os, by simp only [Tm.sz]; omega, by simp only [Tm.dep]; omega⟩
    · split at hl
      · rcases List.mem_append.mp hl with hl | hl
        · rcases List.mem_append.mp hl with hl | hl
          · exact lik_good g a c k os.2.1 (by omega) (by omega) (by omega) l hl
          · exact lik_good g b e _ os.2.2 (by omega) (by omega) (by omega) l hl
        · rw [List.mem_singleton.mp hl]
          refine ⟨nm_c g os.1, by simp, fun n hn => ?_⟩
          rcases List.mem_cons.mp hn with e | hn
          · omega
          · rw [List.mem_singleton.mp hn]
            omega
      · rcases List.mem_append.mp hl with hl | hl
        · rcases List.mem_append.mp hl with hl | hl
          · rcases List.mem_append.mp hl with hl | hl
            · rw [List.mem_singleton.mp hl]
              exact ⟨nm_c g os.1, os.2.1, os.2.2, by omega, by omega, by omega, by omega⟩
            · exact lik_good g b c _ os.2.2 (by omega) (by omega) (by omega) l hl
          · exact lik_good g a e _ os.2.1 (by omega) (by omega) (by omega) l hl
        · rcases List.mem_cons.mp hl with hl | hl
          · rw [hl]
            refine ⟨nm_c g os.1, by simp, fun n hn => ?_⟩
            rcases List.mem_cons.mp hn with e | hn
            · omega
            · rw [List.mem_singleton.mp hn]
              omega
          · rw [List.mem_singleton.mp hl]
            exact ⟨by omega, by omega⟩
  | .v x, t, k, os, hz, hd, hk, l, hl => by
    have : lik ss k (.v x) t = [.same (.v x)] := by cases t <;> rfl
    rw [this] at hl
    rw [List.mem_singleton.mp hl]
    exact ⟨os, hz, hd⟩
  | .c x, t, k, os, hz, hd, hk, l, hl => by
    have : lik ss k (.c x) t = [.same (.c x)] := by cases t <;> rfl
    rw [this] at hl
    rw [List.mem_singleton.mp hl]
    exact ⟨os, hz, hd⟩
  | .u x s, .v t, k, os, hz, hd, hk, l, hl => by
    have : l = .same (.u x s) := by simpa [lik] using hl
    rw [this]
    exact ⟨os, hz, hd⟩
  | .u x s, .c t, k, os, hz, hd, hk, l, hl => by
    have : l = .same (.u x s) := by simpa [lik] using hl
    rw [this]
    exact ⟨os, hz, hd⟩
  | .u x s, .b t p q, k, os, hz, hd, hk, l, hl => by
    have : l = .same (.u x s) := by simpa [lik] using hl
    rw [this]
    exact ⟨os, hz, hd⟩
  | .b x s z, .v t, k, os, hz, hd, hk, l, hl => by
    have : l = .same (.b x s z) := by simpa [lik] using hl
    rw [this]
    exact ⟨os, hz, hd⟩
  | .b x s z, .c t, k, os, hz, hd, hk, l, hl => by
    have : l = .same (.b x s z) := by simpa [lik] using hl
    rw [this]
    exact ⟨os, hz, hd⟩
  | .b x s z, .u t p, k, os, hz, hd, hk, l, hl => by
    have : l = .same (.b x s z) := by simpa [lik] using hl
    rw [this]
    exact ⟨os, hz, hd⟩
/-- lengths of joined texts -/
def sumL : List Str → Nat
  | [] => 0
  | x :: r => x.length + 2 + sumL r
theorem join_le : ∀ ts : List Str, (Str.join ", " ts).length ≤ sumL ts
  | [] => Nat.le_refl _
  | [x] => by show x.length ≤ x.length + 2 + 0; omega
  | x :: y :: r => by
    have ih := join_le (y :: r)
    show (x ++ ", " ++ Str.join ", " (y :: r)).length ≤ x.length + 2 + sumL (y :: r)
    rw [strLen_append, strLen_append, show ((", " : String) : Str).length = 2 from rfl]
    omega
theorem tup_le (ts : List Str) : (tupleText ts).length ≤ 3 + sumL ts := by
  unfold tupleText
  rw [strLen_append, strLen_append]
  have h := join_le ts
  have h1 : ((("(" : String) : Str)).length = 1 := rfl
  rw [h1]
  split
  · have h2 : (((",)" : String) : Str)).length = 2 := rfl
    rw [h2]
    omega
  · have h2 : (((")" : String) : Str)).length = 1 := rfl
    rw [h2]
    omega
theorem int_le {n : Nat} (h : n < 300) : (PyData.int (n : Int)).shown.length ≤ 3 := by
  have q : ∀ n ∈ List.range 300, decide ((PyData.int ((n : Nat) : Int)).shown.length ≤ 3) = true := List.all_eq_true.mp (by decide +kernel)
  exact of_decide_eq_true (q n (List.mem_range.mpr h))
theorem int_ok {n : Nat} (h : n < 300) : (PyData.int (n : Int)).showable = true := by
  have q : ∀ n ∈ List.range 300, (PyData.int ((n : Nat) : Int)).showable = true := List.all_eq_true.mp (by decide +kernel)
  exact q n (List.mem_range.mpr h)
theorem ln_len {ss : Sg} (g : ss.Good) {M : Nat} {l : Ln} (h : LnG ss M l) : l.d.shown.length ≤ 2200 := by
  cases l with
  | same t =>
    obtain ⟨o, hz, _⟩ := h
    have h1 := len_sh g t o
    have h2 := tup_le [reprText "same", t.d.shown]
    have h3 : (reprText "same").length = 6 := by decide +kernel
    show (tupleText [reprText "same", t.d.shown]).length ≤ _
    simp only [sumL, h3] at h2
    omega
  | turn f p q =>
    obtain ⟨nf, op, oq, zp, zq, _⟩ := h
    have h1 := len_sh g p op
    have h1' := len_sh g q oq
    have h2 := tup_le [reprText "turn", reprText f, p.d.shown, q.d.shown]
    have h3 : (reprText "turn").length = 6 := by decide +kernel
    have h4 := len_rep g nf
    show (tupleText [reprText "turn", reprText f, p.d.shown, q.d.shown]).length ≤ _
    simp only [sumL, h3] at h2
    omega
  | chain i j =>
    obtain ⟨hi, hj⟩ := h
    have h2 := tup_le [reprText "chain", (PyData.int (i : Int)).shown, (PyData.int (j : Int)).shown]
    have h3 : (reprText "chain").length = 7 := by decide +kernel
    have h4 := int_le hi
    have h5 := int_le hj
    show (tupleText [reprText "chain", (PyData.int (i : Int)).shown, (PyData.int (j : Int)).shown]).length ≤ _
    simp only [sumL, h3] at h2
    omega
  | within f ns =>
    obtain ⟨nf, hl, hn⟩ := h
    have h3 : (reprText "within").length = 8 := by decide +kernel
    have h4 := len_rep g nf
    have key : ∀ ns : List Nat, ns.length ≤ 2 → (∀ n ∈ ns, n < 300) → sumL (PyData.shownAll (ns.map fun n : Nat => .int (n : Nat))) ≤ 10 := fun ns hl hn => by
      match ns, hl, hn with
      | [], _, _ => exact Nat.zero_le _
      | [a], _, hn =>
        have := int_le (hn a (by simp))
        show (PyData.int (a : Int)).shown.length + 2 + 0 ≤ 10
        omega
      | [a, b], _, hn =>
        have h1 := int_le (hn a (by simp))
        have h2 := int_le (hn b (by simp))
        show (PyData.int (a : Int)).shown.length + 2 + ((PyData.int (b : Int)).shown.length + 2 + 0) ≤ 10
        omega
      | a :: b :: c :: r, hl, _ => simp at hl
    have h5 := key ns hl hn
    have h2 := tup_le (reprText "within" :: reprText f :: PyData.shownAll (ns.map fun n : Nat => .int (n : Nat)))
    show (tupleText (reprText "within" :: reprText f :: PyData.shownAll (ns.map fun n : Nat => .int (n : Nat)))).length ≤ _
    simp only [sumL, h3] at h2
    omega
theorem ln_ok {ss : Sg} {M : Nat} {l : Ln} (h : LnG ss M l) (hM : M ≤ 60) : l.d.showable = true ∧ l.d.hasDict = false ∧ l.d.depth ≤ 61 := by
  cases l with
  | same t =>
    have h1 := showable_d t
    have h2 := depth_d t
    have h3 := h.2.2
    refine ⟨by simp [Ln.d, PyData.showable, PyData.showableAll, h1.1], by simp [Ln.d, PyData.hasDict, PyData.hasDictAll, h1.2], ?_⟩
    simp only [Ln.d, PyData.depth, PyData.depthAll, h2]
    omega
  | turn f p q =>
    have h1 := showable_d p
    have h2 := depth_d p
    have h1' := showable_d q
    have h2' := depth_d q
    obtain ⟨_, _, _, _, _, h3, h4⟩ := h
    refine ⟨by simp [Ln.d, PyData.showable, PyData.showableAll, h1.1, h1'.1], by simp [Ln.d, PyData.hasDict, PyData.hasDictAll, h1.2, h1'.2], ?_⟩
    simp only [Ln.d, PyData.depth, PyData.depthAll, h2, h2']
    omega
  | chain i j =>
    have h1 := int_ok h.1
    have h2 := int_ok h.2
    refine ⟨?_, rfl, by simp [Ln.d, PyData.depthAll, PyData.depth]⟩
    show (true && (_ && (_ && true))) = true
    rw [h1, h2]
    rfl
  | within f ns =>
    obtain ⟨_, hl, hn⟩ := h
    match ns, hl, hn with
    | [], _, _ => exact ⟨rfl, rfl, by simp [Ln.d, PyData.depthAll, PyData.depth]⟩
    | [a], _, hn =>
      have h1 := int_ok (hn a (by simp))
      refine ⟨?_, rfl, by simp [Ln.d, PyData.depthAll, PyData.depth]⟩
      show (true && (true && (_ && true))) = true
      rw [h1]
      rfl
    | [a, b], _, hn =>
      have h1 := int_ok (hn a (by simp))
      have h2 := int_ok (hn b (by simp))
      refine ⟨?_, rfl, by simp [Ln.d, PyData.depthAll, PyData.depth]⟩
      show (true && (true && (_ && (_ && true)))) = true
      rw [h1, h2]
      rfl
    | a :: b :: c :: r, hl, _ => simp at hl
theorem told_all {ss : Sg} (g : ss.Good) {M : Nat} (hM : M ≤ 60) : ∀ ls : List Ln, (∀ l ∈ ls, LnG ss M l) → PyData.showableAll (ls.map Ln.d) = true ∧ PyData.hasDictAll (ls.map Ln.d) = false ∧ PyData.depthAll (ls.map Ln.d) ≤ 61 ∧ sumL (PyData.shownAll (ls.map Ln.d)) ≤ 2202 * ls.length
  | [], _ => ⟨rfl, rfl, Nat.zero_le _, Nat.zero_le _⟩
  | l :: r, h => by
    obtain ⟨h1, h2, h3, h4⟩ := told_all g hM r fun x hx => h x (List.mem_cons_of_mem _ hx)
    obtain ⟨k1, k2, k3⟩ := ln_ok (h l List.mem_cons_self) hM
    have k4 := ln_len g (h l List.mem_cons_self)
    refine ⟨?_, ?_, ?_, ?_⟩
    · show (_ && _) = true
      rw [k1, h1]
      rfl
    · show (_ || _) = false
      rw [k2, h2]
      rfl
    · show max _ _ ≤ 61
      omega
    · show l.d.shown.length + 2 + sumL _ ≤ _
      rw [List.length_cons]
      omega
end Tw

set_option maxHeartbeats 4000000
namespace Tw
open PySem PySem.Spec L2
open PyProof.Rows hiding St

/-! ### values of which only a property is known -/
def tX (K : PySem.W.Frag) (G : List En) (P : PyData → Prop) : TE := fun σ H Q => ∃ O Oc, EnvR K O Oc σ H G ∧ ∀ d v H', P d → Same H H' → Rm K (O ++ Oc) (O ++ Oc) H' v (.d d) → Q v H'
def tAX (K : PySem.W.Frag) (G : List En) (P : List Dm → Prop) : TA := fun σ H Q => ∃ O Oc, EnvR K O Oc σ H G ∧ ∀ ms vs H', P ms → Same H H' → RmAll K (O ++ Oc) (O ++ Oc) H' vs ms → Q vs H'
abbrev EX (X : Cx) (G : List En) (e : Expr) (P : PyData → Prop) : Prop := PE X e (tX X.K G P)
abbrev AX (X : Cx) (G : List En) (es : List Expr) (P : List Dm → Prop) : Prop := PA X es (tAX X.K G P)
section
variable {X : Cx} {G : List En} {e : Expr} {m : Dm} {es : List Expr} {ms : List Dm} {P P2 : PyData → Prop} {S : List Dm → Prop} {d : PyData}
theorem ex_ed (h : ED X G e (.d d)) (p : P d) : EX X G e P := ⟨fun pins s σ H Q I ⟨O, Oc, E, k⟩ => h.run pins s σ H Q I ⟨O, Oc, E, fun v H' s' r => k d v H' p s' r⟩⟩
theorem ex_imp (h : EX X G e P) (p : ∀ d, P d → P2 d) : EX X G e P2 := ⟨fun pins s σ H Q I ⟨O, Oc, E, k⟩ => h.run pins s σ H Q I ⟨O, Oc, E, fun d v H' pd s' r => k d v H' (p d pd) s' r⟩⟩
theorem ax_ad (h : AD X G es ms) (p : S ms) : AX X G es S := ⟨fun pos pins s σ H Q I ⟨O, Oc, E, k⟩ => h.run pos pins s σ H Q I ⟨O, Oc, E, fun vs H' s' r => k ms vs H' p s' r⟩⟩
theorem ax_nil : AX X G [] (fun ms => ms = []) := ax_ad ad_nil rfl
theorem ax_cons (ha : EX X G e P) (hr : AX X G es S) (hs : starEach (e :: es) X.env = (false, eval e X.env) :: starEach es X.env := by rfl) : AX X G (e :: es) (fun ms => ∃ d ns, ms = .d d :: ns ∧ P d ∧ S ns) :=
  ⟨fun pos pins s σ H Q I ⟨O, Oc, E, k⟩ => (pa_cons ha hr hs).run pos pins s σ H Q I ⟨O, Oc, E, fun d v H1 p1 s1 r1 => ⟨O, Oc, E.mono s1, fun ns vs H2 p2 s2 r2 => k (.d d :: ns) (v :: vs) H2 ⟨d, ns, rfl, p1, p2⟩ (s1.trans s2) ⟨rm_mono s2 r1, r2⟩⟩⟩⟩
theorem ax_consE (ha : ED X G e m) (hr : AX X G es S) (hs : starEach (e :: es) X.env = (false, eval e X.env) :: starEach es X.env := by rfl) : AX X G (e :: es) (fun ms => ∃ ns, ms = m :: ns ∧ S ns) :=
  ⟨fun pos pins s σ H Q I ⟨O, Oc, E, k⟩ => (pa_cons ha hr hs).run pos pins s σ H Q I ⟨O, Oc, E, fun v H1 s1 r1 => ⟨O, Oc, E.mono s1, fun ns vs H2 p2 s2 r2 => k (m :: ns) (v :: vs) H2 ⟨ns, rfl, p2⟩ (s1.trans s2) ⟨rm_mono s2 r1, r2⟩⟩⟩⟩
def spX (K : PySem.W.Frag) (Pre : List Dm → Prop) (Po : List Dm → PyData → Prop) : Sp := fun vs H Q _ => ∃ W ms, (∀ a ∈ W, H a ≠ none) ∧ RmAll K W W H vs ms ∧ Pre ms ∧ ∀ d v H', Po ms d → Same H H' → Da (Hm H' W) v d → Q v H'
structure FX (P : Program) (w : World) (K : PySem.W.Frag) (mg : Str → Option Value) (base : Heap) (k : Nat) (x : Str) (ps : List Str) (Pre : List Dm → Prop) (Po : List Dm → PyData → Prop) : Prop where
  ex : ∃ f fd, FnOk P w K mg base CX0 k f fd ps (spX K Pre Po) ∧ mg x = some (.ref f) ∧ PySem.W.keepIn K (.ref f) = true ∧ Binds K fd ps []
theorem FX.mono {P : Program} {w : World} {K : PySem.W.Frag} {mg : Str → Option Value} {base : Heap} {j k : Nat} {x : Str} {ps : List Str} {Pre : List Dm → Prop} {Po : List Dm → PyData → Prop} (F : FX P w K mg base j x ps Pre Po) (h : j ≤ k) : FX P w K mg base k x ps Pre Po :=
  let ⟨f, fd, a, b, c, d⟩ := F.ex; ⟨f, fd, a.mono h, b, c, d⟩
theorem ex_call {x : Str} {k : Nat} {ps : List Str} {Pre : List Dm → Prop} {Po : List Dm → PyData → Prop} {p pos : Pos} (F : FX X.prog X.w X.K X.mg X.base k x ps Pre Po) (hr : Room k X.A) (ha : AX X G (e :: es) S) (hp : ∀ ms, S ms → Pre ms) (hq : ∀ ms d, S ms → Po ms d → P d) (hg : Gl X x := by rfl)
    (hdb : (x == ("__debug__" : Str)) = false := by decide) (he : starEach (e :: es) X.env = (false, eval e X.env) :: starEach es X.env := by rfl) (hpl : (backTo pos (starEach es X.env)).any (·.1) = false := by rfl) : EX X G (.Call (.Name x p) (e :: es) [] pos) P := by
  obtain ⟨f, fd, F1, hm, hk, hb⟩ := F.ex
  refine ⟨fun pins s σ H Q I ⟨O, Oc, E, q⟩ => (pe_call F1 hr hg hm hk hb .nil pass0 ha hdb he hpl).run pins s σ H Q I ?_⟩
  exact ⟨O, Oc, E, fun ms vs H1 p1 s1 r1 => ⟨O ++ Oc, ms, (E.mono s1).inW, by rw [List.append_nil]; exact r1, hp ms p1, fun d v H2 p2 s2 r2 => q d v H2 (hq ms d p1 p2) (s1.trans s2) r2⟩⟩
/-- e[i], e a list -/
theorem ex_ix {a b : Expr} {i : Int} {pos : Pos} (ha : EX X G a P2) (hb : ED X G b (.d (.int i))) (h : ∀ d, P2 d → ∃ xs z, d = .list xs ∧ atI xs i = some z ∧ P z) (hs : PlainIx b := by exact fun _ _ => rfl) : EX X G (.Subscript a b pos) P := by
  refine ⟨fun pins s σ H Q I ⟨O, Oc, E, k⟩ => (pe_ix ix_list ha hb hs).run pins s σ H Q I ⟨O, Oc, E, fun d v H1 p1 s1 r1 => ⟨O, Oc, E.mono s1, fun w H2 s2 r2 => ?_⟩⟩⟩
  obtain ⟨xs, z, e, hz, pz⟩ := h d p1
  subst e
  cases r2
  have r3 : Da (Hm H2 (O ++ Oc)) v (.list xs) := rm_mono (m := .d (.list xs)) s2 r1
  cases r3 with
  | lst h1 h2 =>
    obtain ⟨u, h3, h4⟩ := daa_atI h2 hz
    exact ⟨_, _, i, u, rfl, rfl, SqL.of (hm_get h1).2, h3, k z u H2 pz (s1.trans s2) h4⟩
/-- a + b, lists -/
theorem ex_cat {a b : Expr} {pos : Pos} {P1 : PyData → Prop} (ha : EX X G a P1) (hb : EX X G b P2) (h : ∀ d e, P1 d → P2 e → ∃ xs ys, d = .list xs ∧ e = .list ys ∧ xs.length + ys.length ≤ 100000 ∧ P (.list (xs ++ ys))) : EX X G (.BinOp a .Add b pos) P := by
  refine ⟨fun pins s σ H Q I ⟨O, Oc, E, k⟩ => (pe_op op_cat ha hb).run pins s σ H Q I ⟨O, Oc, E, fun d v H1 p1 s1 r1 => ⟨O, Oc, E.mono s1, fun e w H2 p2 s2 r2 => ?_⟩⟩⟩
  obtain ⟨xs, ys, e1, e2, hl, pz⟩ := h d e p1 p2
  subst e1 e2
  have r3 : Da (Hm H2 (O ++ Oc)) v (.list xs) := rm_mono (m := .d (.list xs)) s2 r1
  cases r3 with
  | lst h1 h2 =>
    cases r2 with
    | lst h3 h4 => exact ⟨_, _, _, _, rfl, rfl, (hm_get h1).2, (hm_get h3).2, by rw [daa_len h2, daa_len h4]; exact sz100 hl, fun p hp => k _ _ _ pz ((s1.trans s2).trans (same_new hp)) (da_newL hp ((E.mono s1).mono s2).inW (daa_app h2 h4))⟩
variable {o : Ou} {rest : List Stmt}
theorem bd_setX (i : Nat) {x : Str} {pos pos' : Pos} (he : EX X G e P) (hr : ∀ d, P d → BD X (G.set i (.val (.d d))) rest o) (hN : X.N.Nodup) (hi : X.N[i]? = some x := by rfl) (hx : Loc X.env.scope x := by first | exact Or.inl rfl | exact Or.inr rfl)
    (hs : swapsWith e (some (.Name x pos')) pos.line X.env = pure false := by rfl) (hf : X.fn x = true ∨ X.env.scope.names.lookup x = some .local := by first | exact .inl rfl | exact .inr rfl | assumption) : BD X G (.Assign [.Name x pos'] e pos :: rest) o := by
  have h2 : PSs X rest (fun D σ H => ∃ a : { d : PyData // P d }, tS X.K (G.set i (.val (.d a.1))) o D σ H) := bd_fam fun a => hr a.1 a.2
  refine bd_weak (pss_cons (ps_set hN hi hx he hs hf) h2) fun D σ H ⟨B, O, Oc, hB, E, k⟩ => ⟨O, Oc, E, fun d v H1 p1 s1 r1 => ⟨⟨d, p1⟩, B, O, Oc, ?_, (E.mono s1).set_val (m := .d d) r1, k⟩⟩
  exact hB.trans (same_hm s1 fun _ h => h)
theorem bd_retX {pos : Pos} (he : EX X G e P) (hd : ∀ d, P d → o.rt d) : BD X G (.Return (some e) pos :: rest) o := by
  refine bd_weak (pss_cons (ps_ret he) (pss_never (sts := rest))) fun D σ H ⟨B, O, Oc, hB, E, k1, k2, k3, k4⟩ => ⟨O, Oc, E, fun d v H1 p1 s1 r1 => k2 v H1 d (hd d p1) ?_ ?_⟩
  · exact hB.trans ((same_hm s1 fun _ h => h).trans same_out)
  · exact da_mono (same_hm (Same.refl H1) fun a h => List.mem_append_right _ h) r1
end
def Ou.retP (P : PyData → Prop) : Ou := { nx := fun _ => P .none, rt := P }
theorem body_runX {K : PySem.W.Frag} {N : List Str} {W : List Addr} {H : Hp} {vs : List V} {ms : List Dm} {P : PyData → Prop} {Q : VK} (hW : ∀ a ∈ W, H a ≠ none) (r : RmAll K W W H vs ms) (k : ∀ d v H', P d → Same H H' → Da (Hm H' W) v d → Q v H') :
    tS K (envN N ms) (.retP P) { nx := fun _ H' => Q .non H', rt := Q } (L2.start N vs) H :=
  ⟨H, [], W, fun a o h => hm_mk (fun z => (nomatch z)) h, env_start hW r, fun σ' H' G' O' n hB E => k .none .non H' n (hB.trans same_out) .non, fun v H' e n hB q => k e v H' n hB q, fun _ _ _ _ n => n.elim, fun _ _ _ _ n => n.elim⟩
/-- a def keeps its promise -/
theorem fx_mk {P : Program} {w : World} {K : PySem.W.Frag} {mg : Str → Option Value} {base : Heap} {x qual : Str} {params : Arguments} {body : List Stmt} {scope : Scope} {f : Addr} {fd : FuncData} {N ps : List Str} {k : Nat} {Pre : List Dm → Prop} {Po : List Dm → PyData → Prop}
    (F : FunD K x qual params body scope [] [] f fd) (S : FnScope N ps scope) (hl : ∀ ms, Pre ms → ms.length = ps.length)
    (hbody : ∀ (cdv : Value) (A : Around) (outer : List Env) (s : Shared) (H : Hp) (E : XK) (ms : List Dm), Room k (A.deeper (envOfC qual scope s.heap.objs.size f cdv)) → Pre ms →
      BD (XC P w K mg base N qual scope f cdv A outer s H E) (envN N ms) body (.retP (Po ms))) : FnOk P w K mg base CX0 (k + 1) f fd ps (spX K Pre Po) := by
  refine F.ok S (fun vs H Q E ⟨W, ms, hW, r, hP, q⟩ => (rma_len r).trans (hl ms hP)) fun cdv A outer s H vs Q E hr ⟨W, ms, hW, r, hP, q⟩ => ?_
  exact ⟨_, (hbody cdv A outer s H E ms hr hP).nox, body_runX hW r q⟩
/-- an exact promise, used loosely -/
theorem FD.x {P : Program} {w : World} {K : PySem.W.Frag} {mg : Str → Option Value} {base : Heap} {k : Nat} {x : Str} {ps : List Str} {R : List Dm → PyData → Prop} (F : FD P w K mg base k x ps R) : FX P w K mg base k x ps (fun ms => ∃ d, R ms d) R :=
  let ⟨f, fd, a, b, c, d⟩ := F.ex; ⟨f, fd, a.imp fun vs H Q E ⟨W, ms, h1, h2, ⟨z, h3⟩, h4⟩ => ⟨W, ms, z, h1, h2, h3, fun v H' s' r => h4 z v H' h3 s' r⟩, b, c, d⟩
end Tw

set_option maxHeartbeats 4000000
namespace Tw
open PySem PySem.Spec L2
open PyProof.Rows hiding St

/-! ### the signature's methods -/
structure MD (P : Program) (w : World) (K : PySem.W.Frag) (mg : Str → Option Value) (base : Heap) (k : Nat) (C : Addr) (m : Str) (ps : List Str) (R : List Dm → PyData → Prop) : Prop where
  ex : ∃ f fd, FnOk P w K mg base CX0 k f fd ps (spD K R) ∧ Meth K C m f ∧ Binds K fd ps []
theorem MD.mono {P : Program} {w : World} {K : PySem.W.Frag} {mg : Str → Option Value} {base : Heap} {j k : Nat} {C : Addr} {m : Str} {ps : List Str} {R : List Dm → PyData → Prop} (F : MD P w K mg base j C m ps R) (h : j ≤ k) : MD P w K mg base k C m ps R :=
  let ⟨f, fd, a, b, c⟩ := F.ex; ⟨f, fd, a.mono h, b, c⟩
theorem room_u {k : Nat} {A : Around} (r : Room k A) : A.units + 200 < cLine := by have := r.un; omega
section
variable {X : Cx} {G : List En} {e o : Expr} {es : List Expr} {ms : List Dm} {ss : Sg} {d : PyData}
theorem ed_methS {m : Str} {k : Nat} {ps : List Str} {R : List Dm → PyData → Prop} {apos pos : Pos} {pl : Sem Bool} (M : MD X.prog X.w X.K X.mg X.base k (sigC X.K) m ps R) (c : Cls X.K (sigC X.K)) (hr : Room k X.A) (ho : ED X G o (.sig ss)) (ha : AD X G (e :: es) ms) (hR : R (.sig ss :: ms) d)
    (hl : (m == "table") = false ∧ (m == "symbols") = false := by exact ⟨rfl, rfl⟩)
    (hst : starEach (e :: es) X.env = (false, eval e X.env) :: starEach es X.env := by rfl) (hpl : (backTo pos (starEach es X.env)).any (·.1) = false := by rfl)
    (ht : eval (.Call (.Attribute o m apos) (e :: es) [] pos) X.env = (do
      let ov ← eval o X.env
      standAt apos.atName
      let (f, first) ← holding [ov] (getMethod ov m pl)
      callWith pos f first (backTo pos (starEach (e :: es) X.env)) (backToKw pos (keywordEach [] X.env))) := by rfl) : ED X G (.Call (.Attribute o m apos) (e :: es) [] pos) (.d d) := by
  obtain ⟨f, fd, F, hm, hb⟩ := M.ex
  refine ed_of (pe_meth ho c hm F hr hb .nil pass0 ha hst hpl ht) fun O Oc σ H Q E k => ⟨O, Oc, E, fun v H1 s1 r1 => ?_⟩
  have r0 := r1
  obtain ⟨a, dx, y, t, kvs, h1, h2, h3, h4⟩ := r1
  subst h1
  refine ⟨a, dx, _, rfl, (hm_get h2).2, ?_, O, Oc, E.mono s1, fun vs H2 s2 r2 => ⟨O ++ Oc, .sig ss :: ms, d, ((E.mono s1).mono s2).inW, ⟨rm_mono (m := .sig ss) s2 r0, ?_⟩, hR, fun v H3 s3 r3 => k v H3 ((s1.trans s2).trans s3) r3⟩⟩
  · rw [lookup_putF, lookup_putF, if_neg (by simpa using hl.1), if_neg (by simpa using hl.2)]
    rfl
  · rw [List.append_nil]
    exact r2
/-- what the table has for a symbol -/
def fieldP (i : Nat) (s : Sy) : List PyData := [.int (i : Nat), .int s.ar, .bool s.tw]
theorem ed_inTab {i : Nat} {s : Sy} {a pos : Pos} (c : Cls X.K (sigC X.K)) (n : NoAttr X.K (sigC X.K) "table") (hu : X.A.units + 200 < cLine) (ho : ED X G o (.sig ss)) (hi : ED X G e (.d (.str s.n))) (hs : ss[i]? = some s)
    (hb : attributeBase o "table" X.env (eval o X.env) = eval o X.env := by rfl) : ED X G (.Compare e [.In] [.Attribute o "table" a] pos) (.d (.bool true)) := by
  refine ed_of (pe_cmp (pc_din (by omega) hi (pe_fld ho hb)) rfl) fun O Oc σ H Q E k => ⟨O, Oc, E, fun v H1 s1 r1 => ⟨O, Oc, E.mono s1, fun u H2 s2 r2 => ?_⟩⟩
  cases r1
  obtain ⟨b, dx, y, t, kvs, h1, h2, h3, h4⟩ := r2
  obtain ⟨p, h5, h6⟩ := h4 i s hs
  refine ⟨b, _, dx, _, .ref t, h1, (hm_get h2).2, c, n, by rw [lookup_putF, if_pos rfl], t, some (.ref p), rfl, ?_, k _ H2 (s1.trans s2) (.bl true)⟩
  rw [← h5]
  exact DGet.k (k := Sum.inr s.n) (hm_get h3).2
theorem td_inTab {i : Nat} {s : Sy} {a pos : Pos} (c : Cls X.K (sigC X.K)) (n : NoAttr X.K (sigC X.K) "table") (hu : X.A.units + 200 < cLine) (ho : ED X G o (.sig ss)) (hi : ED X G e (.d (.str s.n))) (hs : ss[i]? = some s)
    (hb : attributeBase o "table" X.env (eval o X.env) = eval o X.env := by rfl) : TD X G (.Compare e [.In] [.Attribute o "table" a] pos) true := by
  refine td_of (pt_cmp (pc_din (by omega) hi (pe_fld ho hb)) rfl) fun O Oc σ H Q E k => ⟨O, Oc, E, fun v H1 s1 r1 => ⟨O, Oc, E.mono s1, fun u H2 s2 r2 => ?_⟩⟩
  cases r1
  obtain ⟨b, dx, y, t, kvs, h1, h2, h3, h4⟩ := r2
  obtain ⟨p, h5, h6⟩ := h4 i s hs
  refine ⟨b, _, dx, _, .ref t, h1, (hm_get h2).2, c, n, by rw [lookup_putF, if_pos rfl], t, some (.ref p), rfl, ?_, true, rfl, k H2 (s1.trans s2)⟩
  rw [← h5]
  exact DGet.k (k := Sum.inr s.n) (hm_get h3).2
theorem ed_tab {i : Nat} {s : Sy} {j : Nat} {z : PyData} {a p1 p2 p3 : Pos} {kk} (c : Cls X.K (sigC X.K)) (n : NoAttr X.K (sigC X.K) "table") (hu : X.A.units + 200 < cLine) (ho : ED X G o (.sig ss)) (hi : ED X G e (.d (.str s.n))) (hs : ss[i]? = some s)
    (hz : (fieldP i s)[j]? = some z) (hns : NoSl e := by exact fun _ _ => rfl) (hb : attributeBase o "table" X.env (eval o X.env) = eval o X.env := by rfl) :
    ED X G (.Subscript (.Subscript (.Attribute o "table" a) e p1) (.Constant (.int (j : Nat)) kk p3) p2) (.d z) := by
  refine ed_of (pe_ix ix_tup (pe_dget (by omega) (pe_fld ho hb) hi hns) pe_int (fun _ _ => rfl)) fun O Oc σ H Q E k => ⟨O, Oc, E, fun v H1 s1 r1 => ?_⟩
  obtain ⟨b, dx, y, t, kvs, h1, h2, h3, h4⟩ := r1
  obtain ⟨p, h5, h6⟩ := h4 i s hs
  refine ⟨b, _, dx, _, .ref t, h1, (hm_get h2).2, c, n, by rw [lookup_putF, if_pos rfl], O, Oc, E.mono s1, fun u H2 s2 r2 => ?_⟩
  cases r2
  have h3' := s2 _ _ (hm_get h3).2
  refine ⟨t, .ref p, rfl, ?_, ?_⟩
  · rw [← h5]
    exact DGet.k (k := Sum.inr s.n) h3'
  · have h6' := s2 _ _ (hm_get h6).2
    have hd : DaAll (Hm H2 (O ++ Oc)) [.int i, .int s.ar, .bl s.tw] (fieldP i s) := .cons (.int _) (.cons (.int _) (.cons (.bl _) .nil))
    obtain ⟨u, h7, h8⟩ := daa_get hd hz
    refine ⟨p, _, (j : Nat), u, rfl, rfl, SqT.of h6', ?_, k u H2 (s1.trans s2) h8⟩
    unfold atI ixN
    have hj : j < 3 := by
      have := (List.getElem?_eq_some_iff.mp h7).1
      simpa using this
    rw [if_pos (by omega), if_pos (by show ((j : Nat) : Int) < ((3 : Nat) : Int); omega)]
    simpa using h7
end
end Tw

set_option maxHeartbeats 4000000
namespace Tw
open PySem PySem.Spec L2
open PyProof.Rows hiding St

/-! ### the derivation's own state: the lists at l and p -/
abbrev Ss := List PyData × List PyData
def LP (W : List Addr) (H : Hp) (l p : Addr) (st : Ss) : Prop := l ≠ p ∧ l ∈ W ∧ p ∈ W ∧ ∃ lv pv, H l = some (.lst lv) ∧ H p = some (.lst pv) ∧ DaAll (Hm H W) lv st.1 ∧ DaAll (Hm H W) pv st.2
def Gr (l p : Addr) (H H' : Hp) : Prop := ∀ a o, a ≠ l → a ≠ p → H a = some o → H' a = some o
theorem gr_same {l p : Addr} {H H' : Hp} (s : Same H H') : Gr l p H H' := fun a o _ _ h => s a o h
theorem Gr.trans {l p : Addr} {H H' H2 : Hp} (s : Gr l p H H') (t : Gr l p H' H2) : Gr l p H H2 := fun a o h1 h2 h => t a o h1 h2 (s a o h1 h2 h)
theorem gr_hm {l p : Addr} {W W' : List Addr} {H H' : Hp} (g : Gr l p H H') (hl : l ∈ W) (hp : p ∈ W) (s : ∀ a ∈ W', a ∈ W) : Same (Hm H W) (Hm H' W') := fun a o h => by
  obtain ⟨h1, h2⟩ := hm_get h
  exact hm_mk (fun z => h1 (s a z)) (g a o (fun z => h1 (z ▸ hl)) (fun z => h1 (z ▸ hp)) h2)
theorem LP.mono {W : List Addr} {H H' : Hp} {l p : Addr} {st : Ss} (h : LP W H l p st) (s : Same H H') : LP W H' l p st :=
  let ⟨h1, h2, h3, lv, pv, h4, h5, h6, h7⟩ := h; ⟨h1, h2, h3, lv, pv, s _ _ h4, s _ _ h5, daa_mono (same_hm s fun _ h => h) h6, daa_mono (same_hm s fun _ h => h) h7⟩
theorem LP.inW {W : List Addr} {H H' : Hp} {l p : Addr} {st' : Ss} (hW : ∀ a ∈ W, H a ≠ none) (g : Gr l p H H') (h' : LP W H' l p st') : ∀ a ∈ W, H' a ≠ none := fun a ha z => by
  obtain ⟨_, _, _, lv, pv, h4, h5, _, _⟩ := h'
  by_cases e : a = l
  · subst e
    rw [h4] at z
    cases z
  · by_cases e2 : a = p
    · subst e2
      rw [h5] at z
      cases z
    · cases q : H a with
      | none => exact hW a ha q
      | some o =>
        rw [g a o e e2 q] at z
        cases z
def noBor (m : Dm) : Bool := match m with
  | .bor _ => false
  | _ => true
def noBorG (G : List En) : Prop := ∀ (i : Nat) (xs : List PyData), G[i]? ≠ some (.val (.bor xs))
theorem rm_to {K : PySem.W.Frag} {W Wb W' Wb' : List Addr} {H H' : Hp} {v : V} {m : Dm} (s : Same (Hm H W) (Hm H' W')) (n : noBor m = true) (r : Rm K W Wb H v m) : Rm K W' Wb' H' v m := by
  cases m with
  | d x => exact da_mono s r
  | bor xs => cases n
  | scr ns =>
    obtain ⟨a, h1, h2⟩ := r
    exact ⟨a, h1, s.seq h2⟩
  | sig ss => exact sig_mono s r
  | der l p ss => exact der_mono s r
  | raw u => exact r
theorem rma_to {K : PySem.W.Frag} {W Wb W' Wb' : List Addr} {H H' : Hp} (s : Same (Hm H W) (Hm H' W')) : ∀ {vs : List V} {ms : List Dm}, ms.all noBor = true → RmAll K W Wb H vs ms → RmAll K W' Wb' H' vs ms
  | [], [], _, _ => trivial
  | _ :: _, _ :: _, n, ⟨h, t⟩ => by
    rw [List.all_cons, Bool.and_eq_true] at n
    exact ⟨rm_to s n.1 h, rma_to s n.2 t⟩
  | [], _ :: _, _, h => h.elim
  | _ :: _, [], _, h => h.elim
theorem env_to {K : PySem.W.Frag} {W W' : List Addr} {σ : St} {H H' : Hp} {G : List En} (E : EnvR K [] W σ H G) (nb : noBorG G) (s : Same (Hm H W) (Hm H' W')) (hW : ∀ a ∈ W', H' a ≠ none) : EnvR K [] W' σ H' G := by
  refine ⟨E.len, hW, (fun a h => (nomatch h)), fun i m h => ?_, fun i ds h => ?_, E.apart, fun i n f h => ?_⟩
  · obtain ⟨v, h1, h2⟩ := E.val i m h
    refine ⟨v, h1, rm_to s ?_ h2⟩
    cases m with
    | bor xs => exact absurd h (nb i xs)
    | _ => rfl
  · obtain ⟨l, vs, h1, h2, _⟩ := E.own i ds h
    exact nomatch h2
  · obtain ⟨t, kvs, h1, h2, _⟩ := E.tab i n f h
    exact nomatch h2
theorem env_gr {K : PySem.W.Frag} {W : List Addr} {σ : St} {H H' : Hp} {G : List En} {l p : Addr} {st st' : Ss} (E : EnvR K [] W σ H G) (nb : noBorG G) (L : LP W H l p st) (g : Gr l p H H') (L' : LP W H' l p st') : EnvR K [] W σ H' G :=
  env_to E nb (gr_hm g L.2.1 L.2.2.1 fun _ h => h) (LP.inW E.inW g L')

/-! ### expressions that read the state -/
def tP (K : PySem.W.Frag) (l p : Addr) (G : List En) (st : Ss) (m : Dm) : TE := fun σ H Q => ∃ W, EnvR K [] W σ H G ∧ LP W H l p st ∧ ∀ v H', Same H H' → Rm K W W H' v m → Q v H'
def tAP (K : PySem.W.Frag) (l p : Addr) (G : List En) (st : Ss) (ms : List Dm) : TA := fun σ H Q => ∃ W, EnvR K [] W σ H G ∧ LP W H l p st ∧ ∀ vs H', Same H H' → RmAll K W W H' vs ms → Q vs H'
/-- expressions that may change it -/
def tM (K : PySem.W.Frag) (l p : Addr) (G : List En) (st : Ss) (m : Dm) (st' : Ss) : TE := fun σ H Q => ∃ W, EnvR K [] W σ H G ∧ LP W H l p st ∧ ∀ v H', Gr l p H H' → LP W H' l p st' → Rm K W W H' v m → Q v H'
def tAM (K : PySem.W.Frag) (l p : Addr) (G : List En) (st : Ss) (ms : List Dm) (st' : Ss) : TA := fun σ H Q => ∃ W, EnvR K [] W σ H G ∧ LP W H l p st ∧ ∀ vs H', Gr l p H H' → LP W H' l p st' → RmAll K W W H' vs ms → Q vs H'
abbrev EP (X : Cx) (l p : Addr) (G : List En) (st : Ss) (e : Expr) (m : Dm) : Prop := PE X e (tP X.K l p G st m)
abbrev AP' (X : Cx) (l p : Addr) (G : List En) (st : Ss) (es : List Expr) (ms : List Dm) : Prop := PA X es (tAP X.K l p G st ms)
abbrev EM (X : Cx) (l p : Addr) (G : List En) (st : Ss) (e : Expr) (m : Dm) (st' : Ss) : Prop := PE X e (tM X.K l p G st m st')
abbrev AM (X : Cx) (l p : Addr) (G : List En) (st : Ss) (es : List Expr) (ms : List Dm) (st' : Ss) : Prop := PA X es (tAM X.K l p G st ms st')
section
variable {X : Cx} {G : List En} {e o : Expr} {es : List Expr} {m z : Dm} {ms : List Dm} {l p : Addr} {st st' st2 : Ss} {ss : Sg}
theorem ep_ed (h : ED X G e m) : EP X l p G st e m := ⟨fun pins s σ H Q I ⟨W, E, L, k⟩ => h.run pins s σ H Q I ⟨[], W, E, fun v H' s' r => k v H' s' r⟩⟩
theorem ap_nil : AP' X l p G st [] [] := ⟨fun pos pins s σ H Q I ⟨W, E, L, k⟩ => pa_nil.run pos pins s σ H Q I (k [] H (Same.refl H) trivial)⟩
theorem ap_cons (ha : EP X l p G st e m) (hr : AP' X l p G st es ms) (hs : starEach (e :: es) X.env = (false, eval e X.env) :: starEach es X.env := by rfl) : AP' X l p G st (e :: es) (m :: ms) :=
  ⟨fun pos pins s σ H Q I ⟨W, E, L, k⟩ => (pa_cons ha hr hs).run pos pins s σ H Q I ⟨W, E, L, fun v H1 s1 r1 => ⟨W, E.mono s1, L.mono s1, fun vs H2 s2 r2 => k (v :: vs) H2 (s1.trans s2) ⟨rm_mono s2 r1, r2⟩⟩⟩⟩
theorem em_ep (h : EP X l p G st e m) : EM X l p G st e m st := ⟨fun pins s σ H Q I ⟨W, E, L, k⟩ => h.run pins s σ H Q I ⟨W, E, L, fun v H' s' r => k v H' (gr_same s') (L.mono s') r⟩⟩
theorem em_ed (h : ED X G e m) : EM X l p G st e m st := em_ep (ep_ed h)
theorem am_nil : AM X l p G st [] [] st := ⟨fun pos pins s σ H Q I ⟨W, E, L, k⟩ => pa_nil.run pos pins s σ H Q I (k [] H (gr_same (Same.refl H)) L trivial)⟩
theorem am_cons (nb : noBorG G) (ha : EM X l p G st e m st') (hr : AM X l p G st' es ms st2) (hm : noBor m = true := by rfl) (hs : starEach (e :: es) X.env = (false, eval e X.env) :: starEach es X.env := by rfl) : AM X l p G st (e :: es) (m :: ms) st2 :=
  ⟨fun pos pins s σ H Q I ⟨W, E, L, k⟩ => (pa_cons ha hr hs).run pos pins s σ H Q I ⟨W, E, L, fun v H1 g1 L1 r1 => ⟨W, env_gr E nb L g1 L1, L1, fun vs H2 g2 L2 r2 => k (v :: vs) H2 (g1.trans g2) L2 ⟨rm_to (gr_hm g2 L1.2.1 L1.2.2.1 fun _ h => h) hm r1, r2⟩⟩⟩⟩
/-! the fields -/
structure DF (K : PySem.W.Frag) : Prop where
  cls : Cls K (derC K)
  sig : NoAttr K (derC K) "signature"
  axi : NoAttr K (derC K) "axioms"
  lin : NoAttr K (derC K) "lines"
  par : NoAttr K (derC K) "pairs"
theorem lk_sig {a b c d : V} : (putF "pairs" a (putF "lines" b (putF "axioms" c (putF "signature" d [])))).lookup ("signature" : Str) = some d := by
  rw [lookup_putF, if_neg (by decide), lookup_putF, if_neg (by decide), lookup_putF, if_neg (by decide), lookup_putF, if_pos rfl]
theorem lk_axi {a b c d : V} : (putF "pairs" a (putF "lines" b (putF "axioms" c (putF "signature" d [])))).lookup ("axioms" : Str) = some c := by
  rw [lookup_putF, if_neg (by decide), lookup_putF, if_neg (by decide), lookup_putF, if_pos rfl]
theorem lk_lin {a b c d : V} : (putF "pairs" a (putF "lines" b (putF "axioms" c (putF "signature" d [])))).lookup ("lines" : Str) = some b := by
  rw [lookup_putF, if_neg (by decide), lookup_putF, if_pos rfl]
theorem lk_par {a b c d : V} : (putF "pairs" a (putF "lines" b (putF "axioms" c (putF "signature" d [])))).lookup ("pairs" : Str) = some a := by
  rw [lookup_putF, if_pos rfl]
theorem lk_not {a b c d : V} {f : Str} (h : (f == "pairs") = false ∧ (f == "lines") = false ∧ (f == "axioms") = false ∧ (f == "signature") = false) : (putF "pairs" a (putF "lines" b (putF "axioms" c (putF "signature" d [])))).lookup f = none := by
  rw [lookup_putF, if_neg (by simpa using h.1), lookup_putF, if_neg (by simpa using h.2.1), lookup_putF, if_neg (by simpa using h.2.2.1), lookup_putF, if_neg (by simpa using h.2.2.2)]
  rfl
variable {a pos : Pos}
theorem ed_fsig (F : DF X.K) (ho : ED X G o (.der l p ss)) (hb : attributeBase o "signature" X.env (eval o X.env) = eval o X.env := by rfl) : ED X G (.Attribute o "signature" a) (.sig ss) :=
  ed_of (pe_fld ho hb) fun O Oc σ H Q E k => ⟨O, Oc, E, fun v H1 s1 r1 => by
    obtain ⟨b, dx, x, sv, h1, h2, h3, h4⟩ := r1
    exact ⟨b, _, dx, _, sv, h1, (hm_get h2).2, F.cls, F.sig, lk_sig, k sv H1 s1 h3⟩⟩
theorem ed_faxi (F : DF X.K) (ho : ED X G o (.der l p ss)) (hb : attributeBase o "axioms" X.env (eval o X.env) = eval o X.env := by rfl) : ED X G (.Attribute o "axioms" a) (.d (.tuple [])) :=
  ed_of (pe_fld ho hb) fun O Oc σ H Q E k => ⟨O, Oc, E, fun v H1 s1 r1 => by
    obtain ⟨b, dx, x, sv, h1, h2, h3, h4⟩ := r1
    exact ⟨b, _, dx, _, .ref x, h1, (hm_get h2).2, F.cls, F.axi, lk_axi, k _ H1 s1 (.tup h4 .nil)⟩⟩
theorem ep_lin (F : DF X.K) (ho : ED X G o (.der l p ss)) (hb : attributeBase o "lines" X.env (eval o X.env) = eval o X.env := by rfl) : EP X l p G st (.Attribute o "lines" a) (.bor st.1) :=
  ⟨fun pins s σ H Q I ⟨W, E, L, k⟩ => (pe_fld ho hb).run pins s σ H Q I ⟨[], W, E, fun v H1 s1 r1 => by
    obtain ⟨b, dx, x, sv, h1, h2, h3, h4⟩ := r1
    obtain ⟨l1, l2, l3, lv, pv, l4, l5, l6, l7⟩ := L.mono s1
    exact ⟨b, _, dx, _, .ref l, h1, (hm_get h2).2, F.cls, F.lin, lk_lin, k _ H1 s1 ⟨l, lv, rfl, l2, l4, l6⟩⟩⟩⟩
theorem ep_par (F : DF X.K) (ho : ED X G o (.der l p ss)) (hb : attributeBase o "pairs" X.env (eval o X.env) = eval o X.env := by rfl) : EP X l p G st (.Attribute o "pairs" a) (.bor st.2) :=
  ⟨fun pins s σ H Q I ⟨W, E, L, k⟩ => (pe_fld ho hb).run pins s σ H Q I ⟨[], W, E, fun v H1 s1 r1 => by
    obtain ⟨b, dx, x, sv, h1, h2, h3, h4⟩ := r1
    obtain ⟨l1, l2, l3, lv, pv, l4, l5, l6, l7⟩ := L.mono s1
    exact ⟨b, _, dx, _, .ref p, h1, (hm_get h2).2, F.cls, F.par, lk_par, k _ H1 s1 ⟨p, pv, rfl, l3, l5, l7⟩⟩⟩⟩
/-! calls -/
theorem ep_callB {x : Str} {id : String} {p1 : Pos} (ha : AP' X l p G st (e :: es) ms) (hc : CallD X (.builtin id) ms z) (hm : X.mg x = none) (hv : bootBuiltins x = some (.builtin id)) (hg : Gl X x := by rfl) (hn : x ≠ "__name__" := by decide) (hdb : (x == ("__debug__" : Str)) = false := by decide)
    (he : starEach (e :: es) X.env = (false, eval e X.env) :: starEach es X.env := by rfl) (hpl : (backTo pos (starEach es X.env)).any (·.1) = false := by rfl) : EP X l p G st (.Call (.Name x p1) (e :: es) [] pos) z := by
  obtain ⟨r, ho, hd⟩ := hc
  exact ⟨fun pins s σ H Q I ⟨W, E, L, k⟩ => (pe_callB ho hg hm hv ha hn hdb he hpl).run pins s σ H Q I ⟨W, E, L, fun vs H1 s1 r1 => hd W H1 vs Q (E.mono s1).inW r1 fun u H2 s2 r2 => k u H2 (s1.trans s2) r2⟩⟩
theorem ep_callTy {x : Str} {T : String} {p1 : Pos} (ha : AP' X l p G st (e :: es) ms) (hc : CallD X (.type T) ms z) (hm : X.mg x = none) (hv : bootBuiltins x = some (.type T)) (hg : Gl X x := by rfl) (hn : x ≠ "__name__" := by decide) (hdb : (x == ("__debug__" : Str)) = false := by decide)
    (he : starEach (e :: es) X.env = (false, eval e X.env) :: starEach es X.env := by rfl) (hpl : (backTo pos (starEach es X.env)).any (·.1) = false := by rfl) : EP X l p G st (.Call (.Name x p1) (e :: es) [] pos) z := by
  obtain ⟨r, ho, hd⟩ := hc
  exact ⟨fun pins s σ H Q I ⟨W, E, L, k⟩ => (pe_callTy ho hg hm hv ha hn hdb he hpl).run pins s σ H Q I ⟨W, E, L, fun vs H1 s1 r1 => hd W H1 vs Q (E.mono s1).inW r1 fun u H2 s2 r2 => k u H2 (s1.trans s2) r2⟩⟩
theorem ep_call {x : Str} {k : Nat} {ps : List Str} {R : List Dm → PyData → Prop} {d : PyData} {p1 : Pos} (F : FD X.prog X.w X.K X.mg X.base k x ps R) (hr : Room k X.A) (ha : AP' X l p G st (e :: es) ms) (hR : R ms d) (hg : Gl X x := by rfl)
    (hdb : (x == ("__debug__" : Str)) = false := by decide) (he : starEach (e :: es) X.env = (false, eval e X.env) :: starEach es X.env := by rfl) (hpl : (backTo pos (starEach es X.env)).any (·.1) = false := by rfl) : EP X l p G st (.Call (.Name x p1) (e :: es) [] pos) (.d d) := by
  obtain ⟨f, fd, F1, hm, hk, hb⟩ := F.ex
  exact ⟨fun pins s σ H Q I ⟨W, E, L, q⟩ => (pe_call F1 hr hg hm hk hb .nil pass0 ha hdb he hpl).run pins s σ H Q I ⟨W, E, L, fun vs H1 s1 r1 => ⟨W, ms, d, (E.mono s1).inW, by rw [List.append_nil]; exact r1, hR, fun v H2 s2 r2 => q v H2 (s1.trans s2) r2⟩⟩⟩
theorem ep_sub {b : Expr} {i j : Int} (ha : EP X l p G st e (.d (.int i))) (hb : ED X G b (.d (.int j))) : EP X l p G st (.BinOp e .Sub b pos) (.d (.int (i - j))) :=
  ⟨fun pins s σ H Q I ⟨W, E, L, k⟩ => (pe_op op_sub ha (ep_ed (l := l) (p := p) (st := st) hb)).run pins s σ H Q I ⟨W, E, L, fun v H1 s1 r1 => ⟨W, E.mono s1, L.mono s1, fun w H2 s2 r2 => by
    cases r1
    cases r2
    exact ⟨i, j, rfl, rfl, k _ H2 (s1.trans s2) (.int _)⟩⟩⟩⟩
/-- a method that only reads the derivation -/
theorem ed_methD {m : Str} {k : Nat} {ps : List Str} {R : List Dm → PyData → Prop} {d : PyData} {pl : Sem Bool} (M : MD X.prog X.w X.K X.mg X.base k (derC X.K) m ps R) (F : DF X.K) (hr : Room k X.A) (ho : ED X G o (.der l p ss)) (ha : AD X G (e :: es) ms) (hR : R (.der l p ss :: ms) d)
    (hl : (m == "pairs") = false ∧ (m == "lines") = false ∧ (m == "axioms") = false ∧ (m == "signature") = false := by exact ⟨rfl, rfl, rfl, rfl⟩)
    (hst : starEach (e :: es) X.env = (false, eval e X.env) :: starEach es X.env := by rfl) (hpl : (backTo pos (starEach es X.env)).any (·.1) = false := by rfl)
    (ht : eval (.Call (.Attribute o m a) (e :: es) [] pos) X.env = (do
      let ov ← eval o X.env
      standAt a.atName
      let (f, first) ← holding [ov] (getMethod ov m pl)
      callWith pos f first (backTo pos (starEach (e :: es) X.env)) (backToKw pos (keywordEach [] X.env))) := by rfl) : ED X G (.Call (.Attribute o m a) (e :: es) [] pos) (.d d) := by
  obtain ⟨f, fd, F1, hm, hb⟩ := M.ex
  refine ed_of (pe_meth ho F.cls hm F1 hr hb .nil pass0 ha hst hpl ht) fun O Oc σ H Q E k => ⟨O, Oc, E, fun v H1 s1 r1 => ?_⟩
  have r0 := r1
  obtain ⟨b, dx, x, sv, h1, h2, h3, h4⟩ := r1
  subst h1
  exact ⟨b, dx, _, rfl, (hm_get h2).2, lk_not hl, O, Oc, E.mono s1, fun vs H2 s2 r2 => ⟨O ++ Oc, .der l p ss :: ms, d, ((E.mono s1).mono s2).inW, ⟨rm_mono (m := .der l p ss) s2 r0, by rw [List.append_nil]; exact r2⟩, hR, fun v H3 s3 r3 => k v H3 ((s1.trans s2).trans s3) r3⟩⟩
/-- what a method that changes the derivation promises -/
def spM (K : PySem.W.Frag) (R : Sg → List Dm → Ss → PyData → Ss → Prop) : Sp := fun vs H Q _ => ∃ W l p v0 vs0 ss ms st d st', vs = v0 :: vs0 ∧ (∀ a ∈ W, H a ≠ none) ∧ Rm K W W H v0 (.der l p ss) ∧ RmAll K W W H vs0 ms ∧ ms.all noBor = true ∧ LP W H l p st ∧ R ss ms st d st' ∧
  ∀ v H', Gr l p H H' → LP W H' l p st' → Da (Hm H' W) v d → Q v H'
structure MM (P : Program) (w : World) (K : PySem.W.Frag) (mg : Str → Option Value) (base : Heap) (k : Nat) (m : Str) (ps : List Str) (R : Sg → List Dm → Ss → PyData → Ss → Prop) : Prop where
  ex : ∃ f fd, FnOk P w K mg base CX0 k f fd ps (spM K R) ∧ Meth K (derC K) m f ∧ Binds K fd ps []
theorem MM.mono {P : Program} {w : World} {K : PySem.W.Frag} {mg : Str → Option Value} {base : Heap} {j k : Nat} {m : Str} {ps : List Str} {R : Sg → List Dm → Ss → PyData → Ss → Prop} (F : MM P w K mg base j m ps R) (h : j ≤ k) : MM P w K mg base k m ps R :=
  let ⟨f, fd, a, b, c⟩ := F.ex; ⟨f, fd, a.mono h, b, c⟩
theorem em_meth {m : Str} {k : Nat} {ps : List Str} {R : Sg → List Dm → Ss → PyData → Ss → Prop} {d : PyData} {pl : Sem Bool} (M : MM X.prog X.w X.K X.mg X.base k m ps R) (F : DF X.K) (nb : noBorG G) (hr : Room k X.A) (ho : ED X G o (.der l p ss)) (ha : AM X l p G st (e :: es) ms st') (hn : ms.all noBor = true) (hR : R ss ms st' d st2)
    (hl : (m == "pairs") = false ∧ (m == "lines") = false ∧ (m == "axioms") = false ∧ (m == "signature") = false := by exact ⟨rfl, rfl, rfl, rfl⟩)
    (hst : starEach (e :: es) X.env = (false, eval e X.env) :: starEach es X.env := by rfl) (hpl : (backTo pos (starEach es X.env)).any (·.1) = false := by rfl)
    (ht : eval (.Call (.Attribute o m a) (e :: es) [] pos) X.env = (do
      let ov ← eval o X.env
      standAt a.atName
      let (f, first) ← holding [ov] (getMethod ov m pl)
      callWith pos f first (backTo pos (starEach (e :: es) X.env)) (backToKw pos (keywordEach [] X.env))) := by rfl) : EM X l p G st (.Call (.Attribute o m a) (e :: es) [] pos) (.d d) st2 := by
  obtain ⟨f, fd, F1, hm, hb⟩ := M.ex
  refine ⟨fun pins s σ H Q I ⟨W, E, L, q⟩ => (pe_meth ho F.cls hm F1 hr hb .nil pass0 ha hst hpl ht).run pins s σ H Q I ⟨[], W, E, fun v H1 s1 r1 => ?_⟩⟩
  have r0 := r1
  obtain ⟨b, dx, x, sv, h1, h2, h3, h4⟩ := r1
  subst h1
  refine ⟨b, dx, _, rfl, (hm_get h2).2, lk_not hl, W, E.mono s1, L.mono s1, fun vs H2 g2 L2 r2 => ⟨W, l, p, .ref b, vs, ss, ms, st', d, st2, by rw [List.append_nil], (env_gr (E.mono s1) nb (L.mono s1) g2 L2).inW, ?_, r2, hn, L2, hR, fun v H3 g3 L3 r3 => q v H3 (((gr_same s1).trans g2).trans g3) L3 r3⟩⟩
  exact rm_to (m := .der l p ss) (gr_hm g2 L.2.1 L.2.2.1 fun _ h => h) rfl r0
/-! statements -/
structure OuM where
  nx : List En → Ss → Prop
  rt : PyData → Ss → Prop
def tSM (K : PySem.W.Frag) (l p : Addr) (G : List En) (st : Ss) (o : OuM) : TS := fun D σ H => ∃ W, EnvR K [] W σ H G ∧ LP W H l p st ∧
  (∀ σ' H' G' st', o.nx G' st' → Gr l p H H' → LP W H' l p st' → EnvR K [] W σ' H' G' → D.nx σ' H') ∧ (∀ v H' d st', o.rt d st' → Gr l p H H' → LP W H' l p st' → Da (Hm H' W) v d → D.rt v H')
abbrev BM (X : Cx) (l p : Addr) (G : List En) (st : Ss) (sts : List Stmt) (o : OuM) : Prop := PSs X sts (tSM X.K l p G st o)
variable {u : OuM} {rest : List Stmt}
theorem bm_nil (h : u.nx G st) : BM X l p G st [] u := bd_weak pss_nil fun D σ H ⟨W, E, L, k1, k2⟩ => k1 σ H G st h (gr_same (Same.refl H)) L E
theorem bm_ret {d : PyData} (he : EM X l p G st e (.d d) st') (h : u.rt d st') : BM X l p G st (.Return (some e) pos :: rest) u :=
  bd_weak (pss_cons (ps_ret he) (pss_never (sts := rest))) fun D σ H ⟨W, E, L, k1, k2⟩ => ⟨W, E, L, fun v H1 g1 L1 r1 => k2 v H1 d st' h g1 L1 r1⟩
theorem bm_set (i : Nat) {x : Str} {pos' : Pos} {d : PyData} (nb : noBorG G) (he : EM X l p G st e (.d d) st') (hr : BM X l p (G.set i (.val (.d d))) st' rest u) (hN : X.N.Nodup) (hi : X.N[i]? = some x := by rfl) (hx : Loc X.env.scope x := by first | exact Or.inl rfl | exact Or.inr rfl)
    (hs : swapsWith e (some (.Name x pos')) pos.line X.env = pure false := by rfl) (hf : X.fn x = true ∨ X.env.scope.names.lookup x = some .local := by first | exact .inl rfl | exact .inr rfl | assumption) : BM X l p G st (.Assign [.Name x pos'] e pos :: rest) u :=
  bd_weak (pss_cons (ps_set hN hi hx he hs hf) hr) fun D σ H ⟨W, E, L, k1, k2⟩ => ⟨W, E, L, fun v H1 g1 L1 r1 => ⟨W, (env_gr E nb L g1 L1).set_val (m := .d d) r1, L1, fun σ' H' G' st2 n g2 => k1 σ' H' G' st2 n (g1.trans g2), fun v' H' d' st2 n g2 => k2 v' H' d' st2 n (g1.trans g2)⟩⟩
theorem bm_drop {m : Dm} (nb : noBorG G) (he : EM X l p G st e m st') (hr : BM X l p G st' rest u) (hs : swapsWith e none pos.line X.env = pure false := by rfl) : BM X l p G st (.Expr e pos :: rest) u :=
  bd_weak (pss_cons (ps_expr he hs) hr) fun D σ H ⟨W, E, L, k1, k2⟩ => ⟨W, E, L, fun v H1 g1 L1 r1 => ⟨W, env_gr E nb L g1 L1, L1, fun σ' H' G' st2 n g2 => k1 σ' H' G' st2 n (g1.trans g2), fun v' H' d' st2 n g2 => k2 v' H' d' st2 n (g1.trans g2)⟩⟩
/-- if c: a body that leaves -/
theorem bm_ifR {b : Bool} {c : Expr} {body : List Stmt} (hc : TD X G c b) (h1 : b = true → BM X l p G st body { u with nx := fun _ _ => False }) (hr : b = false → BM X l p G st rest u) : BM X l p G st (.If c body [] pos :: rest) u := by
  cases b with
  | true =>
    refine bd_weak (pss_cons (ps_if hc (h1 rfl) (pss_never (sts := []))) (pss_never (sts := rest))) fun D σ H ⟨W, E, L, k1, k2⟩ => ⟨[], W, E, fun H1 s1 => iteT ⟨W, E.mono s1, L.mono s1, fun _ _ _ _ n => n.elim, fun v' H' d' st2 n g2 => k2 v' H' d' st2 n ((gr_same s1).trans g2)⟩⟩
  | false =>
    refine bd_weak (pss_cons (ps_if hc (pss_never (sts := body)) pss_nil) (hr rfl)) fun D σ H ⟨W, E, L, k1, k2⟩ => ⟨[], W, E, fun H1 s1 => iteF ⟨W, E.mono s1, L.mono s1, fun σ' H' G' st2 n g2 => k1 σ' H' G' st2 n ((gr_same s1).trans g2), fun v' H' d' st2 n g2 => k2 v' H' d' st2 n ((gr_same s1).trans g2)⟩⟩
end
/-- a method keeps its promise -/
theorem fn_mkM {P : Program} {w : World} {K : PySem.W.Frag} {mg : Str → Option Value} {base : Heap} {x qual : Str} {params : Arguments} {body : List Stmt} {scope : Scope} {f : Addr} {fd : FuncData} {N ps : List Str} {k : Nat} {R : Sg → List Dm → Ss → PyData → Ss → Prop}
    (F : FunD K x qual params body scope [] [] f fd) (S : FnScope N ps scope) (hl : ∀ ss ms st d st', R ss ms st d st' → ms.length + 1 = ps.length)
    (hbody : ∀ (cdv : Value) (A : Around) (outer : List Env) (s : Shared) (H : Hp) (E : XK) (l p : Addr) (ss : Sg) (ms : List Dm) (st : Ss) (d : PyData) (st' : Ss), Room k (A.deeper (envOfC qual scope s.heap.objs.size f cdv)) → R ss ms st d st' → ms.all noBor = true →
      BM (XC P w K mg base N qual scope f cdv A outer s H E) l p (envN N (.der l p ss :: ms)) st body ⟨fun _ _ => False, fun d' s' => d' = d ∧ s' = st'⟩) : FnOk P w K mg base CX0 (k + 1) f fd ps (spM K R) := by
  refine F.ok S (fun vs H Q E ⟨W, l, p, v0, vs0, ss, ms, st, d, st', e, hW, r0, r, hn, L, hR, q⟩ => ?_) fun cdv A outer s H vs Q E hr ⟨W, l, p, v0, vs0, ss, ms, st, d, st', e, hW, r0, r, hn, L, hR, q⟩ => ?_
  · subst e
    rw [List.length_cons, rma_len r]
    exact hl ss ms st d st' hR
  · subst e
    refine ⟨_, (hbody cdv A outer s H E l p ss ms st d st' hr hR hn).nox, W, env_start (ms := .der l p ss :: ms) hW ⟨r0, r⟩, L, fun _ _ _ _ n => n.elim, fun v H' d' s' n g' L' r' => ?_⟩
    obtain ⟨e1, e2⟩ := n
    subst e1 e2
    exact q v H' g' L' r'
end Tw

set_option maxHeartbeats 4000000
namespace Tw
open PySem PySem.Spec L2
open PyProof.Rows hiding St
def nbE : En → Bool
  | .val (.bor _) => false
  | _ => true
theorem nb_of {G : List En} (h : G.all nbE = true) : noBorG G := fun i xs e => by
  have := List.all_eq_true.mp h _ (List.mem_of_getElem? e)
  cases this
/-! ### a comprehension whose elements change the derivation -/
def tMs (K : PySem.W.Frag) (l p : Addr) (G : List En) (j n : Nat) (Y : Nat → PyData) (zs : List PyData) (sts : Nat → Ss) : TE := fun σ H Q => ∃ a : { i : Nat // i < n }, tM K l p (envJ G j (Y a.1)) (sts a.1) (.d (nthP zs a.1)) (sts (a.1 + 1)) σ H Q
def tTru : TT := fun σ H Q => Q true H
section
variable {X : Cx} {G : List En} {tg it elt : Expr} {scope : Scope} {pos px : Pos} {x : Str} {n : Nat} {Y : Nat → PyData} {l p : Addr}
theorem lcm_run {wi : TI} {j : Nat} {zs : List PyData} {sts : Nat → Ss} (nb : noBorG G) (hz : n < 100000) (hn : n = zs.length) (hI2 : ∀ O Oc σ H R, EnvR X.K O Oc σ H G → (∀ J H1, Same H H1 → Walk J n (fun H2 => Same (Hm H1 (O ++ Oc)) H2) (YOk (Hm H1 (O ++ Oc)) Y) → R J H1) → wi σ H R) :
    ∀ σ H Q, tM X.K l p G (sts 0) (.d (.list zs)) (sts n) σ H Q → tLc wi (gName j) tTru (tMs X.K l p G j n Y zs sts) [j] σ H Q := by
  rintro σ H Q ⟨W, E, L, k⟩
  refine hI2 [] W σ H _ E fun J H1 s1 wk D hD => ?_
  have E1 := E.mono s1
  have L1 := L.mono s1
  have nDW : D ∉ W := fun h => E1.inW D h hD
  have nl : l ≠ D := fun z => nDW (z ▸ L1.2.1)
  have np : p ≠ D := fun z => nDW (z ▸ L1.2.2.1)
  have lpD : ∀ (H2 : Hp) (o : HO) (st : Ss), LP (D :: W) H2 l p st → LP (D :: W) (upd H2 D o) l p st := fun H2 o st ⟨h1, h2, h3, lv, pv, h4, h5, h6, h7⟩ => by
    refine ⟨h1, h2, h3, lv, pv, by rw [upd_ne nl]; exact h4, by rw [upd_ne np]; exact h5, ?_, ?_⟩
    · rw [hm_upd List.mem_cons_self]
      exact h6
    · rw [hm_upd List.mem_cons_self]
      exact h7
  have sub : ∀ a ∈ W, a ∈ D :: W := fun a h => List.mem_cons_of_mem _ h
  refine lc_it wk (fun i H' => Gr l p H1 H' ∧ LP (D :: W) H' l p (sts i) ∧ ∃ acc, H' D = some (.lst acc) ∧ DaAll (Hm H' (D :: W)) acc (zs.take i)) ⟨gr_same (same_new hD), ?_, [], upd_same, .nil⟩ ?_ ?_ ?_
  · obtain ⟨h1, h2, h3, lv, pv, h4, h5, h6, h7⟩ := L1
    refine ⟨h1, sub _ h2, sub _ h3, lv, pv, by rw [upd_ne nl]; exact h4, by rw [upd_ne np]; exact h5, ?_, ?_⟩
    · rw [hm_cons hD]
      exact h6
    · rw [hm_cons hD]
      exact h7
  · intro i H' _ q a o h
    obtain ⟨h1, h2⟩ := hm_get h
    exact q.1 a o (fun z => h1 (z ▸ L1.2.1)) (fun z => h1 (z ▸ L1.2.2.1)) h2
  · rintro i v H2 H3 hi ⟨g, L2, acc, hacc, hda⟩ ⟨s2, y⟩
    have sT : Same (Hm H1 W) (Hm H2 (D :: W)) := fun a o h => by
      obtain ⟨h1, h2⟩ := hm_get h
      refine hm_mk (fun z => ?_) (g a o (fun z => h1 (z ▸ L1.2.1)) (fun z => h1 (z ▸ L1.2.2.1)) h2)
      rcases List.mem_cons.mp z with z | z
      · subst z
        rw [hD] at h2
        cases h2
      · exact h1 z
    have hW2 : ∀ a ∈ D :: W, H2 a ≠ none := fun a h => by
      rcases List.mem_cons.mp h with z | z
      · subst z
        rw [hacc]
        exact fun z => nomatch z
      · by_cases e : a = l
        · subst e
          obtain ⟨_, _, _, lv, pv, h4, h5, _, _⟩ := L2
          rw [h4]
          exact fun z => nomatch z
        · by_cases e2 : a = p
          · subst e2
            obtain ⟨_, _, _, lv, pv, h4, h5, _, _⟩ := L2
            rw [h5]
            exact fun z => nomatch z
          · cases q : H1 a with
            | none => exact absurd q (E1.inW a z)
            | some o =>
              rw [g a o e e2 q]
              exact fun z => nomatch z
    have E2 : EnvR X.K [] (D :: W) σ H2 G := env_to E1 nb sT hW2
    have r := y (D :: W) hW2 sT
    have E4 : EnvR X.K [] (D :: W) ((σ.set j none).set j (some v)) H3 (envJ G j (Y i)) := (env_no (E2.mono s2)).set_val (m := .d (Y i)) r
    refine ⟨(by show ((σ.set j none).set j (some v)).set j none = σ.set j none; simp only [List.set_set]), ?_⟩
    unfold tTru
    show (if true = true then _ else _)
    rw [if_pos rfl]
    refine ⟨⟨i, hi⟩, D :: W, E4, L2.mono s2, fun v6 H6 g6 L6 r6 => ⟨acc, g6 D _ (Ne.symm nl) (Ne.symm np) (s2 _ _ hacc), ?_, fun a o n1 n2 h => ?_, lpD _ _ _ L6, acc ++ [v6], upd_same, ?_⟩⟩
    · rw [daa_len hda, List.length_take]
      exact sz100L (by omega)
    · have nD : a ≠ D := fun z => by
        subst z
        rw [hD] at h
        cases h
      rw [upd_ne nD]
      exact g6 a o n1 n2 (s2 a o (g a o n1 n2 h))
    · rw [hm_upd List.mem_cons_self]
      have hz : zs.take (i + 1) = zs.take i ++ [nthP zs i] := by
        have hi' : i < zs.length := hn ▸ hi
        rw [List.take_succ, List.getElem?_eq_getElem hi', nthP_get (List.getElem?_eq_getElem hi')]
        rfl
      rw [hz]
      exact daa_app (daa_mono ((same_hm s2 fun _ h => h).trans (gr_hm g6 (sub _ L1.2.1) (sub _ L1.2.2.1) fun _ h => h)) hda) (.cons r6 .nil)
  · rintro H2 ⟨g, ⟨h1, h2, h3, lv, pv, h4, h5, h6, h7⟩, acc, hacc, hda⟩
    rw [hn, List.take_length] at hda
    refine k _ H2 ((gr_same s1).trans g) ⟨h1, L1.2.1, L1.2.2.1, lv, pv, h4, h5, daa_mono (same_hm (Same.refl H2) sub) h6, daa_mono (same_hm (Same.refl H2) sub) h7⟩ (.lst (hm_mk nDW hacc) (daa_mono (same_hm (Same.refl H2) sub) hda))
theorem em_comp (j : Nat) {zs : List PyData} (sts : Nat → Ss) (nb : noBorG G) (hI : ItD X G (.Name x px) it n Y) (he : ∀ i z, i < n → zs[i]? = some z → ∀ (s : Shared) (H : Hp) (C : Addr) (cl : List (Str × Addr)) (fp : List Addr), EM (XB X s H scope C cl fp) l p (envJ G j (Y i)) (sts i) elt (.d z) (sts (i + 1))) (hn : n = zs.length) (hN : X.N.Nodup) (hz : n < 100000)
    (hi : X.N[j]? = some x := by rfl) (hb : blkC X.N X.env.scope scope [(x, j)] = true := by rfl) (hc : X.calm = true := by rfl)
    (hl : ∀ (s : Shared) (H : Hp) (C : Addr) (cl : List (Str × Addr)) (fp : List Addr), (XB X s H scope C cl fp).env.scope.names.lookup x = some .local := by exact fun _ _ _ _ _ => rfl) (hs : ∀ x, foldedSetIterable it X.env x = pure x := by intro _; rfl) :
    EM X l p G (sts 0) (.ListComp elt [⟨.Name x px, it, [], 0⟩] scope pos) (.d (.list zs)) (sts n) := by
  obtain ⟨wi, hI1, hI2⟩ := hI
  refine ⟨fun pins s σ H Q I h => (pe_lc (own := [(x, j)]) (g := gName j) (tt := tTru) (te := tMs X.K l p G j n Y zs sts) hc hN hI1 (blkOk_by hb) (fun s H C cl fp => pg_name hN hi (.inl (hl s H C cl fp)) (.inr (hl s H C cl fp)))
    (fun s H C cl fp => ⟨fun pins s' σ H' Q I q => pts_nil.run pins s' σ H' Q I q⟩) (fun s H C cl fp => ⟨fun pins s' σ H' Q I ⟨⟨i, hi⟩, q⟩ => (he i _ hi (by rw [List.getElem?_eq_getElem (hn ▸ hi), nthP_get (List.getElem?_eq_getElem (hn ▸ hi))]) s H C cl fp).run pins s' σ H' Q I q⟩) hs).run pins s σ H Q I (lcm_run nb hz hn hI2 σ H Q h)⟩
end
end Tw

set_option maxHeartbeats 0
namespace Tw
open PySem PySem.Spec PyProof.Rows L2
def top (i : Nat) : Stmt := PySem.Challenge.pw_twowaysigns_k63_alike_derived_whole.main.body.getD i (.Pass ⟨0, 0, 0, 0⟩)
abbrev s_wall : Stmt := top 0
abbrev s_consists_of : Stmt := top 10
abbrev s_is_variable : Stmt := top 11
abbrev s_is_symbol_name : Stmt := top 12
abbrev s_variable_key : Stmt := top 13
abbrev s_table_of : Stmt := top 15
abbrev s_fill_by : Stmt := top 16
abbrev s_fill_term : Stmt := top 17
abbrev s_check_term : Stmt := top 19
abbrev s_check_part : Stmt := top 20
abbrev s_term_order : Stmt := top 21
abbrev s_item_at : Stmt := top 23
abbrev s_is_term : Stmt := top 24
abbrev s_same_pair : Stmt := top 25
abbrev s_turn_pair : Stmt := top 26
abbrev s_back_pair : Stmt := top 27
abbrev s_chain_pair : Stmt := top 28
abbrev s_within_pair : Stmt := top 29
abbrev s_fill_pair : Stmt := top 30
abbrev s_conclusion_after : Stmt := top 31
abbrev s_conclusions : Stmt := top 32
abbrev s_least_writing : Stmt := top 34
abbrev s_are_alike : Stmt := top 35
abbrev s_D_init : Stmt := inClass (top 37) 0
abbrev s_D_put : Stmt := inClass (top 37) 1
abbrev s_D_same : Stmt := inClass (top 37) 3
abbrev s_D_turn : Stmt := inClass (top 37) 4
abbrev s_D_chain : Stmt := inClass (top 37) 6
abbrev s_D_within : Stmt := inClass (top 37) 7
abbrev s_D_are_straight : Stmt := inClass (top 37) 9
abbrev s_D_likeness : Stmt := inClass (top 37) 10
abbrev s_derive_alike : Stmt := top 38
abbrev s_S_init : Stmt := inClass (top 40) 0
abbrev s_S_arity : Stmt := inClass (top 40) 1
abbrev s_S_rank : Stmt := inClass (top 40) 2
abbrev s_S_is_two_way : Stmt := inClass (top 40) 3
abbrev s_law_whole : Stmt := top 42
abbrev s_law_cell : Stmt := top 43
abbrev s_law_digits : Stmt := top 44
abbrev s_law_symbols : Stmt := top 45
abbrev s_law_two : Stmt := top 46
abbrev s_law_term : Stmt := top 47
abbrev s_law_crossed : Stmt := top 48
abbrev s_law_form : Stmt := top 49
abbrev s_law_fill : Stmt := top 50
abbrev s_law_places : Stmt := top 51
abbrev s_law_turned : Stmt := top 52
abbrev s_law_menu : Stmt := top 53
abbrev s_law_among : Stmt := top 54
abbrev s_law_is_variable : Stmt := top 55
abbrev s_law_is_term : Stmt := top 56
abbrev s_law_is_filling : Stmt := top 57
abbrev s_law_concluded : Stmt := top 58
abbrev s_law_equal : Stmt := top 59
abbrev s_law_walked : Stmt := top 60
abbrev s_law_put : Stmt := top 61
abbrev s_law_swap : Stmt := top 62
abbrev s_law_nearly : Stmt := top 63
abbrev s_law_grown_term : Stmt := top 64
abbrev s_law_answers : Stmt := top 65
abbrev s_law : Stmt := top 66
def dFns : List He.DefD := [
  ⟨("consists_of", none), "consists_of", "consists_of", defArgs s_consists_of, defBody s_consists_of, defScope s_consists_of, [], []⟩,
  ⟨("is_variable", none), "is_variable", "is_variable", defArgs s_is_variable, defBody s_is_variable, defScope s_is_variable, [], []⟩,
  ⟨("is_symbol_name", none), "is_symbol_name", "is_symbol_name", defArgs s_is_symbol_name, defBody s_is_symbol_name, defScope s_is_symbol_name, [], []⟩,
  ⟨("variable_key", none), "variable_key", "variable_key", defArgs s_variable_key, defBody s_variable_key, defScope s_variable_key, [], []⟩,
  ⟨("check_term", none), "check_term", "check_term", defArgs s_check_term, defBody s_check_term, defScope s_check_term, [], []⟩,
  ⟨("check_part", none), "check_part", "check_part", defArgs s_check_part, defBody s_check_part, defScope s_check_part, [], []⟩,
  ⟨("term_order", none), "term_order", "term_order", defArgs s_term_order, defBody s_term_order, defScope s_term_order, [], []⟩,
  ⟨("item_at", none), "item_at", "item_at", defArgs s_item_at, defBody s_item_at, defScope s_item_at, [], []⟩,
  ⟨("is_term", none), "is_term", "is_term", defArgs s_is_term, defBody s_is_term, defScope s_is_term, [], []⟩,
  ⟨("same_pair", none), "same_pair", "same_pair", defArgs s_same_pair, defBody s_same_pair, defScope s_same_pair, [], []⟩,
  ⟨("turn_pair", none), "turn_pair", "turn_pair", defArgs s_turn_pair, defBody s_turn_pair, defScope s_turn_pair, [], []⟩,
  ⟨("chain_pair", none), "chain_pair", "chain_pair", defArgs s_chain_pair, defBody s_chain_pair, defScope s_chain_pair, [], []⟩,
  ⟨("within_pair", none), "within_pair", "within_pair", defArgs s_within_pair, defBody s_within_pair, defScope s_within_pair, [], []⟩,
  ⟨("conclusion_after", none), "conclusion_after", "conclusion_after", defArgs s_conclusion_after, defBody s_conclusion_after, defScope s_conclusion_after, [], []⟩,
  ⟨("conclusions", none), "conclusions", "conclusions", defArgs s_conclusions, defBody s_conclusions, defScope s_conclusions, [], []⟩,
  ⟨("least_writing", none), "least_writing", "least_writing", defArgs s_least_writing, defBody s_least_writing, defScope s_least_writing, [], []⟩,
  ⟨("are_alike", none), "are_alike", "are_alike", defArgs s_are_alike, defBody s_are_alike, defScope s_are_alike, [], []⟩,
  ⟨("Derivation", some "__init__"), "__init__", "Derivation.__init__", defArgs s_D_init, defBody s_D_init, defScope s_D_init, [], []⟩,
  ⟨("Derivation", some "put"), "put", "Derivation.put", defArgs s_D_put, defBody s_D_put, defScope s_D_put, [], []⟩,
  ⟨("Derivation", some "same"), "same", "Derivation.same", defArgs s_D_same, defBody s_D_same, defScope s_D_same, [], []⟩,
  ⟨("Derivation", some "turn"), "turn", "Derivation.turn", defArgs s_D_turn, defBody s_D_turn, defScope s_D_turn, [], []⟩,
  ⟨("Derivation", some "chain"), "chain", "Derivation.chain", defArgs s_D_chain, defBody s_D_chain, defScope s_D_chain, [], []⟩,
  ⟨("Derivation", some "within"), "within", "Derivation.within", defArgs s_D_within, defBody s_D_within, defScope s_D_within, [], []⟩,
  ⟨("Derivation", some "are_straight"), "are_straight", "Derivation.are_straight", defArgs s_D_are_straight, defBody s_D_are_straight, defScope s_D_are_straight, [], []⟩,
  ⟨("Derivation", some "likeness"), "likeness", "Derivation.likeness", defArgs s_D_likeness, defBody s_D_likeness, defScope s_D_likeness, [], []⟩,
  ⟨("derive_alike", none), "derive_alike", "derive_alike", defArgs s_derive_alike, defBody s_derive_alike, defScope s_derive_alike, [], []⟩,
  ⟨("Signature", some "__init__"), "__init__", "Signature.__init__", defArgs s_S_init, defBody s_S_init, defScope s_S_init, [], []⟩,
  ⟨("Signature", some "arity"), "arity", "Signature.arity", defArgs s_S_arity, defBody s_S_arity, defScope s_S_arity, [], []⟩,
  ⟨("Signature", some "rank"), "rank", "Signature.rank", defArgs s_S_rank, defBody s_S_rank, defScope s_S_rank, [], []⟩,
  ⟨("Signature", some "is_two_way"), "is_two_way", "Signature.is_two_way", defArgs s_S_is_two_way, defBody s_S_is_two_way, defScope s_S_is_two_way, [], []⟩,
  ⟨("_law_whole", none), "_law_whole", "_law_whole", defArgs s_law_whole, defBody s_law_whole, defScope s_law_whole, [], []⟩,
  ⟨("_law_cell", none), "_law_cell", "_law_cell", defArgs s_law_cell, defBody s_law_cell, defScope s_law_cell, [], []⟩,
  ⟨("_law_digits", none), "_law_digits", "_law_digits", defArgs s_law_digits, defBody s_law_digits, defScope s_law_digits, [], []⟩,
  ⟨("_law_symbols", none), "_law_symbols", "_law_symbols", defArgs s_law_symbols, defBody s_law_symbols, defScope s_law_symbols, [], []⟩,
  ⟨("_law_two", none), "_law_two", "_law_two", defArgs s_law_two, defBody s_law_two, defScope s_law_two, [], []⟩,
  ⟨("_law_term", none), "_law_term", "_law_term", defArgs s_law_term, defBody s_law_term, defScope s_law_term, [], []⟩,
  ⟨("_law_crossed", none), "_law_crossed", "_law_crossed", defArgs s_law_crossed, defBody s_law_crossed, defScope s_law_crossed, [], []⟩,
  ⟨("_law_form", none), "_law_form", "_law_form", defArgs s_law_form, defBody s_law_form, defScope s_law_form, [], []⟩,
  ⟨("_law_places", none), "_law_places", "_law_places", defArgs s_law_places, defBody s_law_places, defScope s_law_places, [], []⟩,
  ⟨("_law_turned", none), "_law_turned", "_law_turned", defArgs s_law_turned, defBody s_law_turned, defScope s_law_turned, [], []⟩,
  ⟨("_law_menu", none), "_law_menu", "_law_menu", defArgs s_law_menu, defBody s_law_menu, defScope s_law_menu, [], []⟩,
  ⟨("_law_among", none), "_law_among", "_law_among", defArgs s_law_among, defBody s_law_among, defScope s_law_among, [], []⟩,
  ⟨("_law_is_variable", none), "_law_is_variable", "_law_is_variable", defArgs s_law_is_variable, defBody s_law_is_variable, defScope s_law_is_variable, [], []⟩,
  ⟨("_law_is_term", none), "_law_is_term", "_law_is_term", defArgs s_law_is_term, defBody s_law_is_term, defScope s_law_is_term, [], []⟩,
  ⟨("_law_concluded", none), "_law_concluded", "_law_concluded", defArgs s_law_concluded, defBody s_law_concluded, defScope s_law_concluded, [], []⟩,
  ⟨("_law_equal", none), "_law_equal", "_law_equal", defArgs s_law_equal, defBody s_law_equal, defScope s_law_equal, [], []⟩,
  ⟨("_law_walked", none), "_law_walked", "_law_walked", defArgs s_law_walked, defBody s_law_walked, defScope s_law_walked, [], []⟩,
  ⟨("_law_put", none), "_law_put", "_law_put", defArgs s_law_put, defBody s_law_put, defScope s_law_put, [], []⟩,
  ⟨("_law_swap", none), "_law_swap", "_law_swap", defArgs s_law_swap, defBody s_law_swap, defScope s_law_swap, [], []⟩,
  ⟨("_law_nearly", none), "_law_nearly", "_law_nearly", defArgs s_law_nearly, defBody s_law_nearly, defScope s_law_nearly, [], []⟩,
  ⟨("_law_grown_term", none), "_law_grown_term", "_law_grown_term", defArgs s_law_grown_term, defBody s_law_grown_term, defScope s_law_grown_term, [], []⟩,
  ⟨("_law_answers", none), "_law_answers", "_law_answers", defArgs s_law_answers, defBody s_law_answers, defScope s_law_answers, [], []⟩,
  ⟨("law", none), "law", "law", defArgs s_law, defBody s_law, defScope s_law, [], []⟩]
def dFa : List He.Fa := [
  .glo "consists_of",
  .glo "is_variable",
  .glo "is_symbol_name",
  .glo "variable_key",
  .glo "check_term",
  .glo "check_part",
  .glo "term_order",
  .glo "item_at",
  .glo "is_term",
  .glo "same_pair",
  .glo "turn_pair",
  .glo "chain_pair",
  .glo "within_pair",
  .glo "conclusion_after",
  .glo "conclusions",
  .glo "least_writing",
  .glo "are_alike",
  .meth "Derivation" "put",
  .meth "Derivation" "same",
  .meth "Derivation" "turn",
  .meth "Derivation" "chain",
  .meth "Derivation" "within",
  .meth "Derivation" "are_straight",
  .meth "Derivation" "likeness",
  .glo "derive_alike",
  .meth "Signature" "arity",
  .meth "Signature" "rank",
  .meth "Signature" "is_two_way",
  .glo "_law_whole",
  .glo "_law_cell",
  .glo "_law_digits",
  .glo "_law_symbols",
  .glo "_law_two",
  .glo "_law_term",
  .glo "_law_crossed",
  .glo "_law_form",
  .glo "_law_places",
  .glo "_law_turned",
  .glo "_law_menu",
  .glo "_law_among",
  .glo "_law_is_variable",
  .glo "_law_is_term",
  .glo "_law_concluded",
  .glo "_law_equal",
  .glo "_law_walked",
  .glo "_law_put",
  .glo "_law_swap",
  .glo "_law_nearly",
  .glo "_law_grown_term",
  .glo "_law_answers",
  .glo "law",
  .glo "Derivation",
  .cls "Derivation",
  .mkr "Derivation",
  .noat "Derivation" "signature",
  .noat "Derivation" "axioms",
  .noat "Derivation" "lines",
  .noat "Derivation" "pairs",
  .glo "Signature",
  .cls "Signature",
  .mkr "Signature",
  .noat "Signature" "symbols",
  .noat "Signature" "table",
  .free "len",
  .free "int",
  .free "isinstance",
  .free "range",
  .free "list",
  .free "tuple",
  .free "repr",
  .free "str",
  .free "enumerate",
  .free "bool",
  .str "CAPITALS" "ABCDEFGHIJKLMNOPQRSTUVWXYZ",
  .str "SMALL" "abcdefghijklmnopqrstuvwxyz",
  .str "DIGITS" "0123456789"]
def nm1 : List Str := ["_wall", "TwoWayError", "BadSymbol", "BadTerm", "BadLine", "CAPITALS", "SMALL", "DIGITS", "consists_of", "is_variable", "is_symbol_name", "variable_key", "table_of", "fill_by", "fill_term", "check_term", "check_part", "term_order", "item_at", "is_term", "same_pair", "turn_pair", "back_pair", "chain_pair", "within_pair", "fill_pair", "conclusion_after", "conclusions", "least_writing", "are_alike"]
def nm2 : List Str := ["Derivation", "derive_alike", "Signature", "_law_whole", "_law_cell", "_law_digits", "_law_symbols", "_law_two", "_law_term", "_law_crossed", "_law_form", "_law_fill", "_law_places", "_law_turned", "_law_menu", "_law_among", "_law_is_variable", "_law_is_term", "_law_is_filling", "_law_concluded", "_law_equal", "_law_walked", "_law_put", "_law_swap", "_law_nearly", "_law_grown_term", "_law_answers"]

abbrev R : PySem.W.OpenRow := PySem.W.OpenLaw.row PySem.Challenge.rw_twowaysigns_k63_alike_derived_whole
abbrev hk : PySem.W.Hook := He.hookD 4 dFa dFns
def ob (s : PySem.W.SharedT) : He.AlD := He.obsDG 4 dFa dFns (HandSHeadRun.getT s)
theorem ob_eq (s : PySem.W.SharedT) : ob s = hk.obs s.abs := He.obsDG_eq (HandSHeadRun.getT_eq s)
theorem run (w : World) : HandSHeadRun.RunEq R (PySem.W.view R.prog [66]) hk ob 20000 (nm1 ++ nm2) w := by
  intro os
  kernel_rfl
end Tw

set_option maxHeartbeats 4000000
namespace Tw
open PySem PySem.Spec L2
open PyProof.Rows hiding St
abbrev N_consists_of : List Str := ["text", "characters", "character"]
abbrev P_consists_of : List Str := ["text", "characters"]
theorem sc_consists_of : FnScope N_consists_of P_consists_of (defScope s_consists_of) := ⟨rfl, rfl, rfl, by decide +kernel, rfl, by decide +kernel, by decide +kernel⟩
theorem bn_consists_of {K : PySem.W.Frag} {f : Addr} {fd : FuncData} (F : FunD K "consists_of" "consists_of" (defArgs s_consists_of) (defBody s_consists_of) (defScope s_consists_of) [] [] f fd) : Binds K fd P_consists_of [] := F.bindsN fun _ _ _ _ _ _ us hl => match us, hl with | [_, _], _ => rfl
abbrev N_is_variable : List Str := ["text"]
abbrev P_is_variable : List Str := ["text"]
theorem sc_is_variable : FnScope N_is_variable P_is_variable (defScope s_is_variable) := ⟨rfl, rfl, rfl, by decide +kernel, rfl, by decide +kernel, by decide +kernel⟩
theorem bn_is_variable {K : PySem.W.Frag} {f : Addr} {fd : FuncData} (F : FunD K "is_variable" "is_variable" (defArgs s_is_variable) (defBody s_is_variable) (defScope s_is_variable) [] [] f fd) : Binds K fd P_is_variable [] := F.bindsN fun _ _ _ _ _ _ us hl => match us, hl with | [_], _ => rfl
abbrev N_is_symbol_name : List Str := ["text"]
abbrev P_is_symbol_name : List Str := ["text"]
theorem sc_is_symbol_name : FnScope N_is_symbol_name P_is_symbol_name (defScope s_is_symbol_name) := ⟨rfl, rfl, rfl, by decide +kernel, rfl, by decide +kernel, by decide +kernel⟩
theorem bn_is_symbol_name {K : PySem.W.Frag} {f : Addr} {fd : FuncData} (F : FunD K "is_symbol_name" "is_symbol_name" (defArgs s_is_symbol_name) (defBody s_is_symbol_name) (defScope s_is_symbol_name) [] [] f fd) : Binds K fd P_is_symbol_name [] := F.bindsN fun _ _ _ _ _ _ us hl => match us, hl with | [_], _ => rfl
abbrev N_variable_key : List Str := ["name"]
abbrev P_variable_key : List Str := ["name"]
theorem sc_variable_key : FnScope N_variable_key P_variable_key (defScope s_variable_key) := ⟨rfl, rfl, rfl, by decide +kernel, rfl, by decide +kernel, by decide +kernel⟩
theorem bn_variable_key {K : PySem.W.Frag} {f : Addr} {fd : FuncData} (F : FunD K "variable_key" "variable_key" (defArgs s_variable_key) (defBody s_variable_key) (defScope s_variable_key) [] [] f fd) : Binds K fd P_variable_key [] := F.bindsN fun _ _ _ _ _ _ us hl => match us, hl with | [_], _ => rfl
abbrev N_check_term : List Str := ["signature", "value"]
abbrev P_check_term : List Str := ["signature", "value"]
theorem sc_check_term : FnScope N_check_term P_check_term (defScope s_check_term) := ⟨rfl, rfl, rfl, by decide +kernel, rfl, by decide +kernel, by decide +kernel⟩
theorem bn_check_term {K : PySem.W.Frag} {f : Addr} {fd : FuncData} (F : FunD K "check_term" "check_term" (defArgs s_check_term) (defBody s_check_term) (defScope s_check_term) [] [] f fd) : Binds K fd P_check_term [] := F.bindsN fun _ _ _ _ _ _ us hl => match us, hl with | [_, _], _ => rfl
abbrev N_check_part : List Str := ["signature", "part", "place", "index", "argument"]
abbrev P_check_part : List Str := ["signature", "part", "place"]
theorem sc_check_part : FnScope N_check_part P_check_part (defScope s_check_part) := ⟨rfl, rfl, rfl, by decide +kernel, rfl, by decide +kernel, by decide +kernel⟩
theorem bn_check_part {K : PySem.W.Frag} {f : Addr} {fd : FuncData} (F : FunD K "check_part" "check_part" (defArgs s_check_part) (defBody s_check_part) (defScope s_check_part) [] [] f fd) : Binds K fd P_check_part [] := F.bindsN fun _ _ _ _ _ _ us hl => match us, hl with | [_, _, _], _ => rfl
abbrev N_term_order : List Str := ["signature", "term", "argument"]
abbrev P_term_order : List Str := ["signature", "term"]
theorem sc_term_order : FnScope N_term_order P_term_order (defScope s_term_order) := ⟨rfl, rfl, rfl, by decide +kernel, rfl, by decide +kernel, by decide +kernel⟩
theorem bn_term_order {K : PySem.W.Frag} {f : Addr} {fd : FuncData} (F : FunD K "term_order" "term_order" (defArgs s_term_order) (defBody s_term_order) (defScope s_term_order) [] [] f fd) : Binds K fd P_term_order [] := F.bindsN fun _ _ _ _ _ _ us hl => match us, hl with | [_, _], _ => rfl
abbrev N_item_at : List Str := ["items", "number"]
abbrev P_item_at : List Str := ["items", "number"]
theorem sc_item_at : FnScope N_item_at P_item_at (defScope s_item_at) := ⟨rfl, rfl, rfl, by decide +kernel, rfl, by decide +kernel, by decide +kernel⟩
theorem bn_item_at {K : PySem.W.Frag} {f : Addr} {fd : FuncData} (F : FunD K "item_at" "item_at" (defArgs s_item_at) (defBody s_item_at) (defScope s_item_at) [] [] f fd) : Binds K fd P_item_at [] := F.bindsN fun _ _ _ _ _ _ us hl => match us, hl with | [_, _], _ => rfl
abbrev N_is_term : List Str := ["signature", "value"]
abbrev P_is_term : List Str := ["signature", "value"]
theorem sc_is_term : FnScope N_is_term P_is_term (defScope s_is_term) := ⟨rfl, rfl, rfl, by decide +kernel, rfl, by decide +kernel, by decide +kernel⟩
theorem bn_is_term {K : PySem.W.Frag} {f : Addr} {fd : FuncData} (F : FunD K "is_term" "is_term" (defArgs s_is_term) (defBody s_is_term) (defScope s_is_term) [] [] f fd) : Binds K fd P_is_term [] := F.bindsN fun _ _ _ _ _ _ us hl => match us, hl with | [_, _], _ => rfl
abbrev N_same_pair : List Str := ["signature", "term"]
abbrev P_same_pair : List Str := ["signature", "term"]
theorem sc_same_pair : FnScope N_same_pair P_same_pair (defScope s_same_pair) := ⟨rfl, rfl, rfl, by decide +kernel, rfl, by decide +kernel, by decide +kernel⟩
theorem bn_same_pair {K : PySem.W.Frag} {f : Addr} {fd : FuncData} (F : FunD K "same_pair" "same_pair" (defArgs s_same_pair) (defBody s_same_pair) (defScope s_same_pair) [] [] f fd) : Binds K fd P_same_pair [] := F.bindsN fun _ _ _ _ _ _ us hl => match us, hl with | [_, _], _ => rfl
abbrev N_turn_pair : List Str := ["signature", "name", "one", "two"]
abbrev P_turn_pair : List Str := ["signature", "name", "one", "two"]
theorem sc_turn_pair : FnScope N_turn_pair P_turn_pair (defScope s_turn_pair) := ⟨rfl, rfl, rfl, by decide +kernel, rfl, by decide +kernel, by decide +kernel⟩
theorem bn_turn_pair {K : PySem.W.Frag} {f : Addr} {fd : FuncData} (F : FunD K "turn_pair" "turn_pair" (defArgs s_turn_pair) (defBody s_turn_pair) (defScope s_turn_pair) [] [] f fd) : Binds K fd P_turn_pair [] := F.bindsN fun _ _ _ _ _ _ us hl => match us, hl with | [_, _, _, _], _ => rfl
abbrev N_chain_pair : List Str := ["early", "late"]
abbrev P_chain_pair : List Str := ["early", "late"]
theorem sc_chain_pair : FnScope N_chain_pair P_chain_pair (defScope s_chain_pair) := ⟨rfl, rfl, rfl, by decide +kernel, rfl, by decide +kernel, by decide +kernel⟩
theorem bn_chain_pair {K : PySem.W.Frag} {f : Addr} {fd : FuncData} (F : FunD K "chain_pair" "chain_pair" (defArgs s_chain_pair) (defBody s_chain_pair) (defScope s_chain_pair) [] [] f fd) : Binds K fd P_chain_pair [] := F.bindsN fun _ _ _ _ _ _ us hl => match us, hl with | [_, _], _ => rfl
abbrev N_within_pair : List Str := ["signature", "name", "pairs", "pair"]
abbrev P_within_pair : List Str := ["signature", "name", "pairs"]
theorem sc_within_pair : FnScope N_within_pair P_within_pair (defScope s_within_pair) := ⟨rfl, rfl, rfl, by decide +kernel, rfl, by decide +kernel, by decide +kernel⟩
theorem bn_within_pair {K : PySem.W.Frag} {f : Addr} {fd : FuncData} (F : FunD K "within_pair" "within_pair" (defArgs s_within_pair) (defBody s_within_pair) (defScope s_within_pair) [] [] f fd) : Binds K fd P_within_pair [] := F.bindsN fun _ _ _ _ _ _ us hl => match us, hl with | [_, _, _], _ => rfl
abbrev N_conclusion_after : List Str := ["signature", "axioms", "done", "line", "word", "items", "number"]
abbrev P_conclusion_after : List Str := ["signature", "axioms", "done", "line"]
theorem sc_conclusion_after : FnScope N_conclusion_after P_conclusion_after (defScope s_conclusion_after) := ⟨rfl, rfl, rfl, by decide +kernel, rfl, by decide +kernel, by decide +kernel⟩
theorem bn_conclusion_after {K : PySem.W.Frag} {f : Addr} {fd : FuncData} (F : FunD K "conclusion_after" "conclusion_after" (defArgs s_conclusion_after) (defBody s_conclusion_after) (defScope s_conclusion_after) [] [] f fd) : Binds K fd P_conclusion_after [] := F.bindsN fun _ _ _ _ _ _ us hl => match us, hl with | [_, _, _, _], _ => rfl
abbrev N_conclusions : List Str := ["signature", "axioms", "lines", "done", "index", "line", "pair"]
abbrev P_conclusions : List Str := ["signature", "axioms", "lines"]
theorem sc_conclusions : FnScope N_conclusions P_conclusions (defScope s_conclusions) := ⟨rfl, rfl, rfl, by decide +kernel, rfl, by decide +kernel, by decide +kernel⟩
theorem bn_conclusions {K : PySem.W.Frag} {f : Addr} {fd : FuncData} (F : FunD K "conclusions" "conclusions" (defArgs s_conclusions) (defBody s_conclusions) (defScope s_conclusions) [] [] f fd) : Binds K fd P_conclusions [] := F.bindsN fun _ _ _ _ _ _ us hl => match us, hl with | [_, _, _], _ => rfl
abbrev N_least_writing : List Str := ["signature", "term", "parts", "argument"]
abbrev P_least_writing : List Str := ["signature", "term"]
theorem sc_least_writing : FnScope N_least_writing P_least_writing (defScope s_least_writing) := ⟨rfl, rfl, rfl, by decide +kernel, rfl, by decide +kernel, by decide +kernel⟩
theorem bn_least_writing {K : PySem.W.Frag} {f : Addr} {fd : FuncData} (F : FunD K "least_writing" "least_writing" (defArgs s_least_writing) (defBody s_least_writing) (defScope s_least_writing) [] [] f fd) : Binds K fd P_least_writing [] := F.bindsN fun _ _ _ _ _ _ us hl => match us, hl with | [_, _], _ => rfl
abbrev N_are_alike : List Str := ["signature", "one", "two"]
abbrev P_are_alike : List Str := ["signature", "one", "two"]
theorem sc_are_alike : FnScope N_are_alike P_are_alike (defScope s_are_alike) := ⟨rfl, rfl, rfl, by decide +kernel, rfl, by decide +kernel, by decide +kernel⟩
theorem bn_are_alike {K : PySem.W.Frag} {f : Addr} {fd : FuncData} (F : FunD K "are_alike" "are_alike" (defArgs s_are_alike) (defBody s_are_alike) (defScope s_are_alike) [] [] f fd) : Binds K fd P_are_alike [] := F.bindsN fun _ _ _ _ _ _ us hl => match us, hl with | [_, _, _], _ => rfl
abbrev N_D_init : List Str := ["self", "signature", "axioms"]
abbrev P_D_init : List Str := ["self", "signature", "axioms"]
theorem sc_D_init : FnScope N_D_init P_D_init (defScope s_D_init) := ⟨rfl, rfl, rfl, by decide +kernel, rfl, by decide +kernel, by decide +kernel⟩
theorem bn_D_init {K : PySem.W.Frag} {f : Addr} {fd : FuncData} (F : FunD K "__init__" "Derivation.__init__" (defArgs s_D_init) (defBody s_D_init) (defScope s_D_init) [] [] f fd) : Binds K fd P_D_init [] := F.bindsN fun _ _ _ _ _ _ us hl => match us, hl with | [_, _, _], _ => rfl
abbrev N_D_put : List Str := ["self", "line"]
abbrev P_D_put : List Str := ["self", "line"]
theorem sc_D_put : FnScope N_D_put P_D_put (defScope s_D_put) := ⟨rfl, rfl, rfl, by decide +kernel, rfl, by decide +kernel, by decide +kernel⟩
theorem bn_D_put {K : PySem.W.Frag} {f : Addr} {fd : FuncData} (F : FunD K "put" "Derivation.put" (defArgs s_D_put) (defBody s_D_put) (defScope s_D_put) [] [] f fd) : Binds K fd P_D_put [] := F.bindsN fun _ _ _ _ _ _ us hl => match us, hl with | [_, _], _ => rfl
abbrev N_D_same : List Str := ["self", "term"]
abbrev P_D_same : List Str := ["self", "term"]
theorem sc_D_same : FnScope N_D_same P_D_same (defScope s_D_same) := ⟨rfl, rfl, rfl, by decide +kernel, rfl, by decide +kernel, by decide +kernel⟩
theorem bn_D_same {K : PySem.W.Frag} {f : Addr} {fd : FuncData} (F : FunD K "same" "Derivation.same" (defArgs s_D_same) (defBody s_D_same) (defScope s_D_same) [] [] f fd) : Binds K fd P_D_same [] := F.bindsN fun _ _ _ _ _ _ us hl => match us, hl with | [_, _], _ => rfl
abbrev N_D_turn : List Str := ["self", "name", "one", "two"]
abbrev P_D_turn : List Str := ["self", "name", "one", "two"]
theorem sc_D_turn : FnScope N_D_turn P_D_turn (defScope s_D_turn) := ⟨rfl, rfl, rfl, by decide +kernel, rfl, by decide +kernel, by decide +kernel⟩
theorem bn_D_turn {K : PySem.W.Frag} {f : Addr} {fd : FuncData} (F : FunD K "turn" "Derivation.turn" (defArgs s_D_turn) (defBody s_D_turn) (defScope s_D_turn) [] [] f fd) : Binds K fd P_D_turn [] := F.bindsN fun _ _ _ _ _ _ us hl => match us, hl with | [_, _, _, _], _ => rfl
abbrev N_D_chain : List Str := ["self", "i", "j"]
abbrev P_D_chain : List Str := ["self", "i", "j"]
theorem sc_D_chain : FnScope N_D_chain P_D_chain (defScope s_D_chain) := ⟨rfl, rfl, rfl, by decide +kernel, rfl, by decide +kernel, by decide +kernel⟩
theorem bn_D_chain {K : PySem.W.Frag} {f : Addr} {fd : FuncData} (F : FunD K "chain" "Derivation.chain" (defArgs s_D_chain) (defBody s_D_chain) (defScope s_D_chain) [] [] f fd) : Binds K fd P_D_chain [] := F.bindsN fun _ _ _ _ _ _ us hl => match us, hl with | [_, _, _], _ => rfl
abbrev N_D_within : List Str := ["self", "name", "numbers"]
abbrev P_D_within : List Str := ["self", "name", "numbers"]
theorem sc_D_within : FnScope N_D_within P_D_within (defScope s_D_within) := ⟨rfl, rfl, rfl, by decide +kernel, rfl, by decide +kernel, by decide +kernel⟩
theorem bn_D_within {K : PySem.W.Frag} {f : Addr} {fd : FuncData} (F : FunD K "within" "Derivation.within" (defArgs s_D_within) (defBody s_D_within) (defScope s_D_within) [] [] f fd) : Binds K fd P_D_within [] := F.bindsN fun _ _ _ _ _ _ us hl => match us, hl with | [_, _, _], _ => rfl
abbrev N_D_are_straight : List Str := ["self", "one", "two", "k"]
abbrev P_D_are_straight : List Str := ["self", "one", "two"]
theorem sc_D_are_straight : FnScope N_D_are_straight P_D_are_straight (defScope s_D_are_straight) := ⟨rfl, rfl, rfl, by decide +kernel, rfl, by decide +kernel, by decide +kernel⟩
theorem bn_D_are_straight {K : PySem.W.Frag} {f : Addr} {fd : FuncData} (F : FunD K "are_straight" "Derivation.are_straight" (defArgs s_D_are_straight) (defBody s_D_are_straight) (defScope s_D_are_straight) [] [] f fd) : Binds K fd P_D_are_straight [] := F.bindsN fun _ _ _ _ _ _ us hl => match us, hl with | [_, _, _], _ => rfl
abbrev N_D_likeness : List Str := ["self", "one", "two", "turned_line", "first", "second", "k"]
abbrev P_D_likeness : List Str := ["self", "one", "two"]
theorem sc_D_likeness : FnScope N_D_likeness P_D_likeness (defScope s_D_likeness) := ⟨rfl, rfl, rfl, by decide +kernel, rfl, by decide +kernel, by decide +kernel⟩
theorem bn_D_likeness {K : PySem.W.Frag} {f : Addr} {fd : FuncData} (F : FunD K "likeness" "Derivation.likeness" (defArgs s_D_likeness) (defBody s_D_likeness) (defScope s_D_likeness) [] [] f fd) : Binds K fd P_D_likeness [] := F.bindsN fun _ _ _ _ _ _ us hl => match us, hl with | [_, _, _], _ => rfl
abbrev N_derive_alike : List Str := ["signature", "one", "two", "derivation"]
abbrev P_derive_alike : List Str := ["signature", "one", "two"]
theorem sc_derive_alike : FnScope N_derive_alike P_derive_alike (defScope s_derive_alike) := ⟨rfl, rfl, rfl, by decide +kernel, rfl, by decide +kernel, by decide +kernel⟩
theorem bn_derive_alike {K : PySem.W.Frag} {f : Addr} {fd : FuncData} (F : FunD K "derive_alike" "derive_alike" (defArgs s_derive_alike) (defBody s_derive_alike) (defScope s_derive_alike) [] [] f fd) : Binds K fd P_derive_alike [] := F.bindsN fun _ _ _ _ _ _ us hl => match us, hl with | [_, _, _], _ => rfl
abbrev N_S_init : List Str := ["self", "symbols", "triples", "table", "index", "name", "arity", "two_way"]
abbrev P_S_init : List Str := ["self", "symbols"]
theorem sc_S_init : FnScope N_S_init P_S_init (defScope s_S_init) := ⟨rfl, rfl, rfl, by decide +kernel, rfl, by decide +kernel, by decide +kernel⟩
theorem bn_S_init {K : PySem.W.Frag} {f : Addr} {fd : FuncData} (F : FunD K "__init__" "Signature.__init__" (defArgs s_S_init) (defBody s_S_init) (defScope s_S_init) [] [] f fd) : Binds K fd P_S_init [] := F.bindsN fun _ _ _ _ _ _ us hl => match us, hl with | [_, _], _ => rfl
abbrev N_S_arity : List Str := ["self", "name"]
abbrev P_S_arity : List Str := ["self", "name"]
theorem sc_S_arity : FnScope N_S_arity P_S_arity (defScope s_S_arity) := ⟨rfl, rfl, rfl, by decide +kernel, rfl, by decide +kernel, by decide +kernel⟩
theorem bn_S_arity {K : PySem.W.Frag} {f : Addr} {fd : FuncData} (F : FunD K "arity" "Signature.arity" (defArgs s_S_arity) (defBody s_S_arity) (defScope s_S_arity) [] [] f fd) : Binds K fd P_S_arity [] := F.bindsN fun _ _ _ _ _ _ us hl => match us, hl with | [_, _], _ => rfl
abbrev N_S_rank : List Str := ["self", "name"]
abbrev P_S_rank : List Str := ["self", "name"]
theorem sc_S_rank : FnScope N_S_rank P_S_rank (defScope s_S_rank) := ⟨rfl, rfl, rfl, by decide +kernel, rfl, by decide +kernel, by decide +kernel⟩
theorem bn_S_rank {K : PySem.W.Frag} {f : Addr} {fd : FuncData} (F : FunD K "rank" "Signature.rank" (defArgs s_S_rank) (defBody s_S_rank) (defScope s_S_rank) [] [] f fd) : Binds K fd P_S_rank [] := F.bindsN fun _ _ _ _ _ _ us hl => match us, hl with | [_, _], _ => rfl
abbrev N_S_is_two_way : List Str := ["self", "name"]
abbrev P_S_is_two_way : List Str := ["self", "name"]
theorem sc_S_is_two_way : FnScope N_S_is_two_way P_S_is_two_way (defScope s_S_is_two_way) := ⟨rfl, rfl, rfl, by decide +kernel, rfl, by decide +kernel, by decide +kernel⟩
theorem bn_S_is_two_way {K : PySem.W.Frag} {f : Addr} {fd : FuncData} (F : FunD K "is_two_way" "Signature.is_two_way" (defArgs s_S_is_two_way) (defBody s_S_is_two_way) (defScope s_S_is_two_way) [] [] f fd) : Binds K fd P_S_is_two_way [] := F.bindsN fun _ _ _ _ _ _ us hl => match us, hl with | [_, _], _ => rfl
abbrev N_law_whole : List Str := ["_law_value"]
abbrev P_law_whole : List Str := ["_law_value"]
theorem sc_law_whole : FnScope N_law_whole P_law_whole (defScope s_law_whole) := ⟨rfl, rfl, rfl, by decide +kernel, rfl, by decide +kernel, by decide +kernel⟩
theorem bn_law_whole {K : PySem.W.Frag} {f : Addr} {fd : FuncData} (F : FunD K "_law_whole" "_law_whole" (defArgs s_law_whole) (defBody s_law_whole) (defScope s_law_whole) [] [] f fd) : Binds K fd P_law_whole [] := F.bindsN fun _ _ _ _ _ _ us hl => match us, hl with | [_], _ => rfl
abbrev N_law_cell : List Str := ["_law_script", "_law_k", "_law_seed", "_law_cell_here"]
abbrev P_law_cell : List Str := ["_law_script", "_law_k"]
theorem sc_law_cell : FnScope N_law_cell P_law_cell (defScope s_law_cell) := ⟨rfl, rfl, rfl, by decide +kernel, rfl, by decide +kernel, by decide +kernel⟩
theorem bn_law_cell {K : PySem.W.Frag} {f : Addr} {fd : FuncData} (F : FunD K "_law_cell" "_law_cell" (defArgs s_law_cell) (defBody s_law_cell) (defScope s_law_cell) [] [] f fd) : Binds K fd P_law_cell [] := F.bindsN fun _ _ _ _ _ _ us hl => match us, hl with | [_, _], _ => rfl
abbrev N_law_digits : List Str := ["_law_cell_here", "_law_sizes", "_law_row", "_law_rest", "_law_size", "_law_seed", "_law_k", "_law_twice"]
abbrev P_law_digits : List Str := ["_law_cell_here", "_law_sizes"]
theorem sc_law_digits : FnScope N_law_digits P_law_digits (defScope s_law_digits) := ⟨rfl, rfl, rfl, by decide +kernel, rfl, by decide +kernel, by decide +kernel⟩
theorem bn_law_digits {K : PySem.W.Frag} {f : Addr} {fd : FuncData} (F : FunD K "_law_digits" "_law_digits" (defArgs s_law_digits) (defBody s_law_digits) (defScope s_law_digits) [] [] f fd) : Binds K fd P_law_digits [] := F.bindsN fun _ _ _ _ _ _ us hl => match us, hl with | [_, _], _ => rfl
abbrev N_law_symbols : List Str := ["_law_row", "_law_menu_here", "_law_plan", "_law_symbols_here", "_law_rest", "_law_many", "_law_k", "_law_at", "_law_picked"]
abbrev P_law_symbols : List Str := ["_law_row"]
theorem sc_law_symbols : FnScope N_law_symbols P_law_symbols (defScope s_law_symbols) := ⟨rfl, rfl, rfl, by decide +kernel, rfl, by decide +kernel, by decide +kernel⟩
theorem bn_law_symbols {K : PySem.W.Frag} {f : Addr} {fd : FuncData} (F : FunD K "_law_symbols" "_law_symbols" (defArgs s_law_symbols) (defBody s_law_symbols) (defScope s_law_symbols) [] [] f fd) : Binds K fd P_law_symbols [] := F.bindsN fun _ _ _ _ _ _ us hl => match us, hl with | [_], _ => rfl
abbrev N_law_two : List Str := ["_law_symbols_here", "_law_symbol"]
abbrev P_law_two : List Str := ["_law_symbols_here"]
theorem sc_law_two : FnScope N_law_two P_law_two (defScope s_law_two) := ⟨rfl, rfl, rfl, by decide +kernel, rfl, by decide +kernel, by decide +kernel⟩
theorem bn_law_two {K : PySem.W.Frag} {f : Addr} {fd : FuncData} (F : FunD K "_law_two" "_law_two" (defArgs s_law_two) (defBody s_law_two) (defScope s_law_two) [] [] f fd) : Binds K fd P_law_two [] := F.bindsN fun _ _ _ _ _ _ us hl => match us, hl with | [_], _ => rfl
abbrev N_law_term : List Str := ["_law_symbols_here", "_law_names", "_law_row", "_law_at", "_law_depth", "_law_digit", "_law_behind", "_law_chance", "_law_menu_here", "_law_chosen", "_law_parts", "_law_k", "_law_inner", "_law_symbol"]
abbrev P_law_term : List Str := ["_law_symbols_here", "_law_names", "_law_row", "_law_at", "_law_depth"]
theorem sc_law_term : FnScope N_law_term P_law_term (defScope s_law_term) := ⟨rfl, rfl, rfl, by decide +kernel, rfl, by decide +kernel, by decide +kernel⟩
theorem bn_law_term {K : PySem.W.Frag} {f : Addr} {fd : FuncData} (F : FunD K "_law_term" "_law_term" (defArgs s_law_term) (defBody s_law_term) (defScope s_law_term) [] [] f fd) : Binds K fd P_law_term [] := F.bindsN fun _ _ _ _ _ _ us hl => match us, hl with | [_, _, _, _, _], _ => rfl
abbrev N_law_crossed : List Str := ["_law_symbols_here", "_law_names", "_law_row", "_law_depth", "_law_crossed_here", "_law_mine", "_law_other"]
abbrev P_law_crossed : List Str := ["_law_symbols_here", "_law_names", "_law_row", "_law_depth"]
theorem sc_law_crossed : FnScope N_law_crossed P_law_crossed (defScope s_law_crossed) := ⟨rfl, rfl, rfl, by decide +kernel, rfl, by decide +kernel, by decide +kernel⟩
theorem bn_law_crossed {K : PySem.W.Frag} {f : Addr} {fd : FuncData} (F : FunD K "_law_crossed" "_law_crossed" (defArgs s_law_crossed) (defBody s_law_crossed) (defScope s_law_crossed) [] [] f fd) : Binds K fd P_law_crossed [] := F.bindsN fun _ _ _ _ _ _ us hl => match us, hl with | [_, _, _, _], _ => rfl
abbrev N_law_form : List Str := ["_law_crossed_here", "_law_term_here", "_law_parts", "_law_item"]
abbrev P_law_form : List Str := ["_law_crossed_here", "_law_term_here"]
theorem sc_law_form : FnScope N_law_form P_law_form (defScope s_law_form) := ⟨rfl, rfl, rfl, by decide +kernel, rfl, by decide +kernel, by decide +kernel⟩
theorem bn_law_form {K : PySem.W.Frag} {f : Addr} {fd : FuncData} (F : FunD K "_law_form" "_law_form" (defArgs s_law_form) (defBody s_law_form) (defScope s_law_form) [] [] f fd) : Binds K fd P_law_form [] := F.bindsN fun _ _ _ _ _ _ us hl => match us, hl with | [_, _], _ => rfl
abbrev N_law_places : List Str := ["_law_term_here", "_law_place", "_law_found", "_law_k"]
abbrev P_law_places : List Str := ["_law_term_here", "_law_place"]
theorem sc_law_places : FnScope N_law_places P_law_places (defScope s_law_places) := ⟨rfl, rfl, rfl, by decide +kernel, rfl, by decide +kernel, by decide +kernel⟩
theorem bn_law_places {K : PySem.W.Frag} {f : Addr} {fd : FuncData} (F : FunD K "_law_places" "_law_places" (defArgs s_law_places) (defBody s_law_places) (defScope s_law_places) [] [] f fd) : Binds K fd P_law_places [] := F.bindsN fun _ _ _ _ _ _ us hl => match us, hl with | [_, _], _ => rfl
abbrev N_law_turned : List Str := ["_law_crossed_here", "_law_term_here", "_law_row", "_law_at", "_law_behind", "_law_swap_here", "_law_parts", "_law_item", "_law_inner"]
abbrev P_law_turned : List Str := ["_law_crossed_here", "_law_term_here", "_law_row", "_law_at"]
theorem sc_law_turned : FnScope N_law_turned P_law_turned (defScope s_law_turned) := ⟨rfl, rfl, rfl, by decide +kernel, rfl, by decide +kernel, by decide +kernel⟩
theorem bn_law_turned {K : PySem.W.Frag} {f : Addr} {fd : FuncData} (F : FunD K "_law_turned" "_law_turned" (defArgs s_law_turned) (defBody s_law_turned) (defScope s_law_turned) [] [] f fd) : Binds K fd P_law_turned [] := F.bindsN fun _ _ _ _ _ _ us hl => match us, hl with | [_, _, _, _], _ => rfl
abbrev N_law_menu : List Str := ["_law_digit", "_law_many", "_law_menu_here", "_law_k"]
abbrev P_law_menu : List Str := ["_law_digit", "_law_many"]
theorem sc_law_menu : FnScope N_law_menu P_law_menu (defScope s_law_menu) := ⟨rfl, rfl, rfl, by decide +kernel, rfl, by decide +kernel, by decide +kernel⟩
theorem bn_law_menu {K : PySem.W.Frag} {f : Addr} {fd : FuncData} (F : FunD K "_law_menu" "_law_menu" (defArgs s_law_menu) (defBody s_law_menu) (defScope s_law_menu) [] [] f fd) : Binds K fd P_law_menu [] := F.bindsN fun _ _ _ _ _ _ us hl => match us, hl with | [_, _], _ => rfl
abbrev N_law_among : List Str := ["_law_value", "_law_many"]
abbrev P_law_among : List Str := ["_law_value", "_law_many"]
theorem sc_law_among : FnScope N_law_among P_law_among (defScope s_law_among) := ⟨rfl, rfl, rfl, by decide +kernel, rfl, by decide +kernel, by decide +kernel⟩
theorem bn_law_among {K : PySem.W.Frag} {f : Addr} {fd : FuncData} (F : FunD K "_law_among" "_law_among" (defArgs s_law_among) (defBody s_law_among) (defScope s_law_among) [] [] f fd) : Binds K fd P_law_among [] := F.bindsN fun _ _ _ _ _ _ us hl => match us, hl with | [_, _], _ => rfl
abbrev N_law_is_variable : List Str := ["_law_text", "_law_sign"]
abbrev P_law_is_variable : List Str := ["_law_text"]
theorem sc_law_is_variable : FnScope N_law_is_variable P_law_is_variable (defScope s_law_is_variable) := ⟨rfl, rfl, rfl, by decide +kernel, rfl, by decide +kernel, by decide +kernel⟩
theorem bn_law_is_variable {K : PySem.W.Frag} {f : Addr} {fd : FuncData} (F : FunD K "_law_is_variable" "_law_is_variable" (defArgs s_law_is_variable) (defBody s_law_is_variable) (defScope s_law_is_variable) [] [] f fd) : Binds K fd P_law_is_variable [] := F.bindsN fun _ _ _ _ _ _ us hl => match us, hl with | [_], _ => rfl
abbrev N_law_is_term : List Str := ["_law_symbols_here", "_law_value", "_law_symbol", "_law_item"]
abbrev P_law_is_term : List Str := ["_law_symbols_here", "_law_value"]
theorem sc_law_is_term : FnScope N_law_is_term P_law_is_term (defScope s_law_is_term) := ⟨rfl, rfl, rfl, by decide +kernel, rfl, by decide +kernel, by decide +kernel⟩
theorem bn_law_is_term {K : PySem.W.Frag} {f : Addr} {fd : FuncData} (F : FunD K "_law_is_term" "_law_is_term" (defArgs s_law_is_term) (defBody s_law_is_term) (defScope s_law_is_term) [] [] f fd) : Binds K fd P_law_is_term [] := F.bindsN fun _ _ _ _ _ _ us hl => match us, hl with | [_, _], _ => rfl
abbrev N_law_concluded : List Str := ["_law_symbols_here", "_law_axioms", "_law_found", "_law_line", "_law_word", "_law_many", "_law_upto", "_law_fitting", "_law_known", "_law_firsts", "_law_table", "_law_item", "_law_symbol", "_law_entry"]
abbrev P_law_concluded : List Str := ["_law_symbols_here", "_law_axioms", "_law_found", "_law_line"]
theorem sc_law_concluded : FnScope N_law_concluded P_law_concluded (defScope s_law_concluded) := ⟨rfl, rfl, rfl, by decide +kernel, rfl, by decide +kernel, by decide +kernel⟩
theorem bn_law_concluded {K : PySem.W.Frag} {f : Addr} {fd : FuncData} (F : FunD K "_law_concluded" "_law_concluded" (defArgs s_law_concluded) (defBody s_law_concluded) (defScope s_law_concluded) [] [] f fd) : Binds K fd P_law_concluded [] := F.bindsN fun _ _ _ _ _ _ us hl => match us, hl with | [_, _, _, _], _ => rfl
abbrev N_law_equal : List Str := ["_law_actual", "_law_expected", "_law_k"]
abbrev P_law_equal : List Str := ["_law_actual", "_law_expected"]
theorem sc_law_equal : FnScope N_law_equal P_law_equal (defScope s_law_equal) := ⟨rfl, rfl, rfl, by decide +kernel, rfl, by decide +kernel, by decide +kernel⟩
theorem bn_law_equal {K : PySem.W.Frag} {f : Addr} {fd : FuncData} (F : FunD K "_law_equal" "_law_equal" (defArgs s_law_equal) (defBody s_law_equal) (defScope s_law_equal) [] [] f fd) : Binds K fd P_law_equal [] := F.bindsN fun _ _ _ _ _ _ us hl => match us, hl with | [_, _], _ => rfl
abbrev N_law_walked : List Str := ["_law_symbols_here", "_law_axioms", "_law_lines", "_law_found", "_law_line", "_law_entry"]
abbrev P_law_walked : List Str := ["_law_symbols_here", "_law_axioms", "_law_lines"]
theorem sc_law_walked : FnScope N_law_walked P_law_walked (defScope s_law_walked) := ⟨rfl, rfl, rfl, by decide +kernel, rfl, by decide +kernel, by decide +kernel⟩
theorem bn_law_walked {K : PySem.W.Frag} {f : Addr} {fd : FuncData} (F : FunD K "_law_walked" "_law_walked" (defArgs s_law_walked) (defBody s_law_walked) (defScope s_law_walked) [] [] f fd) : Binds K fd P_law_walked [] := F.bindsN fun _ _ _ _ _ _ us hl => match us, hl with | [_, _, _], _ => rfl
abbrev N_law_put : List Str := ["_law_term_here", "_law_place", "_law_new", "_law_parts"]
abbrev P_law_put : List Str := ["_law_term_here", "_law_place", "_law_new"]
theorem sc_law_put : FnScope N_law_put P_law_put (defScope s_law_put) := ⟨rfl, rfl, rfl, by decide +kernel, rfl, by decide +kernel, by decide +kernel⟩
theorem bn_law_put {K : PySem.W.Frag} {f : Addr} {fd : FuncData} (F : FunD K "_law_put" "_law_put" (defArgs s_law_put) (defBody s_law_put) (defScope s_law_put) [] [] f fd) : Binds K fd P_law_put [] := F.bindsN fun _ _ _ _ _ _ us hl => match us, hl with | [_, _, _], _ => rfl
abbrev N_law_swap : List Str := ["_law_term_here"]
abbrev P_law_swap : List Str := ["_law_term_here"]
theorem sc_law_swap : FnScope N_law_swap P_law_swap (defScope s_law_swap) := ⟨rfl, rfl, rfl, by decide +kernel, rfl, by decide +kernel, by decide +kernel⟩
theorem bn_law_swap {K : PySem.W.Frag} {f : Addr} {fd : FuncData} (F : FunD K "_law_swap" "_law_swap" (defArgs s_law_swap) (defBody s_law_swap) (defScope s_law_swap) [] [] f fd) : Binds K fd P_law_swap [] := F.bindsN fun _ _ _ _ _ _ us hl => match us, hl with | [_], _ => rfl
abbrev N_law_nearly : List Str := ["_law_symbols_here", "_law_names", "_law_term_here", "_law_row", "_law_places_here", "_law_leaves", "_law_mine", "_law_others", "_law_other", "_law_broad", "_law_narrow", "_law_chosen", "_law_entry"]
abbrev P_law_nearly : List Str := ["_law_symbols_here", "_law_names", "_law_term_here", "_law_row"]
theorem sc_law_nearly : FnScope N_law_nearly P_law_nearly (defScope s_law_nearly) := ⟨rfl, rfl, rfl, by decide +kernel, rfl, by decide +kernel, by decide +kernel⟩
theorem bn_law_nearly {K : PySem.W.Frag} {f : Addr} {fd : FuncData} (F : FunD K "_law_nearly" "_law_nearly" (defArgs s_law_nearly) (defBody s_law_nearly) (defScope s_law_nearly) [] [] f fd) : Binds K fd P_law_nearly [] := F.bindsN fun _ _ _ _ _ _ us hl => match us, hl with | [_, _, _, _], _ => rfl
abbrev N_law_grown_term : List Str := ["_law_script", "_law_at", "_law_symbols_here", "_law_names", "_law_form_here", "_law_many", "_law_crossed_here", "_law_row", "_law_swaps", "_law_term_here", "_law_pairs", "_law_singles", "_law_k", "_law_twin", "_law_leaf", "_law_sides", "_law_symbol"]
abbrev P_law_grown_term : List Str := ["_law_script", "_law_at", "_law_symbols_here", "_law_names", "_law_form_here", "_law_many"]
theorem sc_law_grown_term : FnScope N_law_grown_term P_law_grown_term (defScope s_law_grown_term) := ⟨rfl, rfl, rfl, by decide +kernel, rfl, by decide +kernel, by decide +kernel⟩
theorem bn_law_grown_term {K : PySem.W.Frag} {f : Addr} {fd : FuncData} (F : FunD K "_law_grown_term" "_law_grown_term" (defArgs s_law_grown_term) (defBody s_law_grown_term) (defScope s_law_grown_term) [] [] f fd) : Binds K fd P_law_grown_term [] := F.bindsN fun _ _ _ _ _ _ us hl => match us, hl with | [_, _, _, _, _, _], _ => rfl
abbrev N_law_answers : List Str := ["_law_symbols_here", "_law_sig", "_law_told", "_law_entry", "_law_crossed_here", "_law_found"]
abbrev P_law_answers : List Str := ["_law_symbols_here", "_law_sig", "_law_told", "_law_entry"]
theorem sc_law_answers : FnScope N_law_answers P_law_answers (defScope s_law_answers) := ⟨rfl, rfl, rfl, by decide +kernel, rfl, by decide +kernel, by decide +kernel⟩
theorem bn_law_answers {K : PySem.W.Frag} {f : Addr} {fd : FuncData} (F : FunD K "_law_answers" "_law_answers" (defArgs s_law_answers) (defBody s_law_answers) (defScope s_law_answers) [] [] f fd) : Binds K fd P_law_answers [] := F.bindsN fun _ _ _ _ _ _ us hl => match us, hl with | [_, _, _, _], _ => rfl
abbrev N_law : List Str := ["_law_script", "_law_symbols_here", "_law_shape", "_law_names", "_law_mine", "_law_crossed_here", "_law_other", "_law_row", "_law_near", "_law_sig", "_law_asked", "_law_texts", "_law_entry", "_law_told", "_law_again", "_law_k", "_law_symbol"]
abbrev P_law : List Str := ["_law_script"]
theorem sc_law : FnScope N_law P_law (defScope s_law) := ⟨rfl, rfl, rfl, by decide +kernel, rfl, by decide +kernel, by decide +kernel⟩
theorem bn_law {K : PySem.W.Frag} {f : Addr} {fd : FuncData} (F : FunD K "law" "law" (defArgs s_law) (defBody s_law) (defScope s_law) [] [] f fd) : Binds K fd P_law [] := F.bindsN fun _ _ _ _ _ _ us hl => match us, hl with | [_], _ => rfl
end Tw

set_option maxHeartbeats 4000000
namespace Tw
open PySem PySem.Spec L2
open PyProof.Rows hiding St
abbrev FnP (K : PySem.W.Frag) (x q : Str) (st : Stmt) (f : Addr) (fd : FuncData) : Prop := FunD K x q (defArgs st) (defBody st) (defScope st) [] [] f fd
def tCap : Str := "ABCDEFGHIJKLMNOPQRSTUVWXYZ"
def tSml : Str := "abcdefghijklmnopqrstuvwxyz"
def tDig : Str := "0123456789"
/-- the names of the module -/
structure Bi (mg : Str → Option Value) : Prop where
  len : mg "len" = none
  int : mg "int" = none
  isi : mg "isinstance" = none
  rng : mg "range" = none
  lst : mg "list" = none
  tup : mg "tuple" = none
  rep : mg "repr" = none
  str : mg "str" = none
  enm : mg "enumerate" = none
  boo : mg "bool" = none
  cap : ∃ t, mg "CAPITALS" = some (.str tCap t)
  sml : ∃ t, mg "SMALL" = some (.str tSml t)
  dig : ∃ t, mg "DIGITS" = some (.str tDig t)
section
variable {X : Cx} {G : List En} {e : Expr} {m z : Dm} {b : Bool} {p p2 pos : Pos}
theorem ed_len (B : Bi X.mg) (ha : ED X G e m) (hc : CallD X (.builtin "len") [m] z) (hg : Gl X "len" := by rfl)
    (he : starEach [e] X.env = (false, eval e X.env) :: starEach [] X.env := by rfl) (hpl : (backTo pos (starEach [] X.env)).any (·.1) = false := by rfl) : ED X G (.Call (.Name "len" p) [e] [] pos) z :=
  ed_callB (ad_cons ha ad_nil he) hc B.len PySem.boot_len hg (by decide) (by decide) he hpl
theorem ed_tint (B : Bi X.mg) (ha : ED X G e m) (hc : CallD X (.type "int") [m] z) (hg : Gl X "int" := by rfl)
    (he : starEach [e] X.env = (false, eval e X.env) :: starEach [] X.env := by rfl) (hpl : (backTo pos (starEach [] X.env)).any (·.1) = false := by rfl) : ED X G (.Call (.Name "int" p) [e] [] pos) z :=
  ed_callTy (ad_cons ha ad_nil he) hc B.int PyProof.Rows.boot_int hg (by decide) (by decide) he hpl
theorem ed_tstr (B : Bi X.mg) (ha : ED X G e m) (hc : CallD X (.type "str") [m] z) (hg : Gl X "str" := by rfl)
    (he : starEach [e] X.env = (false, eval e X.env) :: starEach [] X.env := by rfl) (hpl : (backTo pos (starEach [] X.env)).any (·.1) = false := by rfl) : ED X G (.Call (.Name "str" p) [e] [] pos) z :=
  ed_callTy (ad_cons ha ad_nil he) hc B.str PyProof.Rows.boot_str hg (by decide) (by decide) he hpl
theorem ed_ttup (B : Bi X.mg) (ha : ED X G e m) (hc : CallD X (.type "tuple") [m] z) (hg : Gl X "tuple" := by rfl)
    (he : starEach [e] X.env = (false, eval e X.env) :: starEach [] X.env := by rfl) (hpl : (backTo pos (starEach [] X.env)).any (·.1) = false := by rfl) : ED X G (.Call (.Name "tuple" p) [e] [] pos) z :=
  ed_callTy (ad_cons ha ad_nil he) hc B.tup PyProof.Rows.boot_tuple hg (by decide) (by decide) he hpl
theorem ed_tlst (B : Bi X.mg) (ha : ED X G e m) (hc : CallD X (.type "list") [m] z) (hg : Gl X "list" := by rfl)
    (he : starEach [e] X.env = (false, eval e X.env) :: starEach [] X.env := by rfl) (hpl : (backTo pos (starEach [] X.env)).any (·.1) = false := by rfl) : ED X G (.Call (.Name "list" p) [e] [] pos) z :=
  ed_callTy (ad_cons ha ad_nil he) hc B.lst PyProof.Rows.boot_list hg (by decide) (by decide) he hpl
theorem td_notT {e : Expr} (h : TD X G e true) : TD X G (.UnaryOp .Not e pos) false := td_not h
theorem td_notF {e : Expr} (h : TD X G e false) : TD X G (.UnaryOp .Not e pos) true := td_not h
theorem td_cmpT {a b : Expr} {op : CmpOp} {x y : Dm} {c : Bool} (ha : ED X G a x) (hb : ED X G b y) (h : CmpD X op x y c) (hc : c = true) (hm : behindInMarks op b = false := by first | exact nomark _ | rfl) : TD X G (.Compare a [op] [b] pos) true := by
  subst hc
  exact td_cmp ha hb h hm
theorem td_cmpF {a b : Expr} {op : CmpOp} {x y : Dm} {c : Bool} (ha : ED X G a x) (hb : ED X G b y) (h : CmpD X op x y c) (hc : c = false) (hm : behindInMarks op b = false := by first | exact nomark _ | rfl) : TD X G (.Compare a [op] [b] pos) false := by
  subst hc
  exact td_cmp ha hb h hm
section
variable {es : List Expr} {a1 a2 a3 a4 : PyData} {xk : Nat}
theorem ed_t1 (h : AD X G es [.d a1]) : ED X G (.Tuple es xk pos) (.d (.tuple [a1])) := ed_tup h
theorem ed_t2 (h : AD X G es [.d a1, .d a2]) : ED X G (.Tuple es xk pos) (.d (.tuple [a1, a2])) := ed_tup h
theorem ed_t3 (h : AD X G es [.d a1, .d a2, .d a3]) : ED X G (.Tuple es xk pos) (.d (.tuple [a1, a2, a3])) := ed_tup h
theorem ed_t4 (h : AD X G es [.d a1, .d a2, .d a3, .d a4]) : ED X G (.Tuple es xk pos) (.d (.tuple [a1, a2, a3, a4])) := ed_tup h
theorem ed_l0 (h : AD X G es []) : ED X G (.List es pos) (.d (.list [])) := ed_lst (ds := []) h
theorem ed_l1 (h : AD X G es [.d a1]) : ED X G (.List es pos) (.d (.list [a1])) := ed_lst h
theorem ed_l2 (h : AD X G es [.d a1, .d a2]) : ED X G (.List es pos) (.d (.list [a1, a2])) := ed_lst h
end
def isT (T : String) (d : PyData) : Bool := tyP d == T || (tyP d == "bool" && T == "int")
theorem ed_isStr {d : PyData} (B : Bi X.mg) (h : ED X G e (.d d)) (hk : kitB (tyP d) "str" = some b) (hg : Gl X "isinstance" := by rfl) (hgy : Gl X "str" := by rfl) (hs : starEach [e, .Name "str" p2] X.env = (false, eval e X.env) :: starEach [.Name "str" p2] X.env := by rfl) :
    ED X G (.Call (.Name "isinstance" p) [e, .Name "str" p2] [] pos) (.d (.bool b)) := ed_isi h hk B.isi B.str PyProof.Rows.boot_str hg hgy (by decide) (by decide) hs
theorem ed_isInt {d : PyData} (B : Bi X.mg) (h : ED X G e (.d d)) (hk : kitB (tyP d) "int" = some b) (hg : Gl X "isinstance" := by rfl) (hgy : Gl X "int" := by rfl) (hs : starEach [e, .Name "int" p2] X.env = (false, eval e X.env) :: starEach [.Name "int" p2] X.env := by rfl) :
    ED X G (.Call (.Name "isinstance" p) [e, .Name "int" p2] [] pos) (.d (.bool b)) := ed_isi h hk B.isi B.int PyProof.Rows.boot_int hg hgy (by decide) (by decide) hs
theorem ed_isTup {d : PyData} (B : Bi X.mg) (h : ED X G e (.d d)) (hk : kitB (tyP d) "tuple" = some b) (hg : Gl X "isinstance" := by rfl) (hgy : Gl X "tuple" := by rfl) (hs : starEach [e, .Name "tuple" p2] X.env = (false, eval e X.env) :: starEach [.Name "tuple" p2] X.env := by rfl) :
    ED X G (.Call (.Name "isinstance" p) [e, .Name "tuple" p2] [] pos) (.d (.bool b)) := ed_isi h hk B.isi B.tup PyProof.Rows.boot_tuple hg hgy (by decide) (by decide) hs
theorem ed_isBool {d : PyData} (B : Bi X.mg) (h : ED X G e (.d d)) (hk : kitB (tyP d) "bool" = some b) (hg : Gl X "isinstance" := by rfl) (hgy : Gl X "bool" := by rfl) (hs : starEach [e, .Name "bool" p2] X.env = (false, eval e X.env) :: starEach [.Name "bool" p2] X.env := by rfl) :
    ED X G (.Call (.Name "isinstance" p) [e, .Name "bool" p2] [] pos) (.d (.bool b)) := ed_isi h hk B.isi B.boo PyProof.Rows.boot_bool hg hgy (by decide) (by decide) hs
end
theorem atI_nat {α : Type} {xs : List α} {i : Nat} {z : α} (h : xs[i]? = some z) : atI xs (i : Nat) = some z := by
  unfold atI ixN
  have hi := (List.getElem?_eq_some_iff.mp h).1
  rw [if_pos (by omega), if_pos (by omega)]
  simpa using h
/-! ### a def where it stands -/
structure DefAt (K : PySem.W.Frag) (mg : Str → Option Value) (x q : Str) (st : Stmt) : Prop where
  ex : ∃ f fd, FnP K x q st f fd ∧ mg x = some (.ref f)
theorem fd_mk {P : Program} {w : World} {K : PySem.W.Frag} {mg : Str → Option Value} {base : Heap} {k : Nat} {x q : Str} {st : Stmt} {ps : List Str} {R : List Dm → PyData → Prop} (D : DefAt K mg x q st) (hb : ∀ {f fd}, FnP K x q st f fd → Binds K fd ps [])
    (h : ∀ f fd, FnP K x q st f fd → FnOk P w K mg base CX0 k f fd ps (spD K R)) : FD P w K mg base k x ps R :=
  let ⟨f, fd, F, m⟩ := D.ex; ⟨f, fd, h f fd F, m, F.kp, hb F⟩
theorem fxd_mk {P : Program} {w : World} {K : PySem.W.Frag} {mg : Str → Option Value} {base : Heap} {k : Nat} {x q : Str} {st : Stmt} {ps : List Str} {Pre : List Dm → Prop} {Po : List Dm → PyData → Prop} (D : DefAt K mg x q st) (hb : ∀ {f fd}, FnP K x q st f fd → Binds K fd ps [])
    (h : ∀ f fd, FnP K x q st f fd → FnOk P w K mg base CX0 k f fd ps (spX K Pre Po)) : FX P w K mg base k x ps Pre Po :=
  let ⟨f, fd, F, m⟩ := D.ex; ⟨f, fd, h f fd F, m, F.kp, hb F⟩
structure MethAt (K : PySem.W.Frag) (C : Addr) (m q : Str) (st : Stmt) : Prop where
  ex : ∃ f fd, FnP K m q st f fd ∧ Meth K C m f
theorem md_mk {P : Program} {w : World} {K : PySem.W.Frag} {mg : Str → Option Value} {base : Heap} {k : Nat} {C : Addr} {m q : Str} {st : Stmt} {ps : List Str} {R : List Dm → PyData → Prop} (D : MethAt K C m q st) (hb : ∀ {f fd}, FnP K m q st f fd → Binds K fd ps [])
    (h : ∀ f fd, FnP K m q st f fd → FnOk P w K mg base CX0 k f fd ps (spD K R)) : MD P w K mg base k C m ps R :=
  let ⟨f, fd, F, m⟩ := D.ex; ⟨f, fd, h f fd F, m, hb F⟩
section
variable {X : Cx} {G : List En}
theorem pgT2 (i j : Nat) {x y : Str} {px py pos : Pos} {k : Nat} (hN : X.N.Nodup) (hi : X.N[i]? = some x := by rfl) (hj : X.N[j]? = some y := by rfl) (hx : Loc X.env.scope x := by first | exact Or.inl rfl | exact Or.inr rfl) (hy : Loc X.env.scope y := by first | exact Or.inl rfl | exact Or.inr rfl)
    (hfx : X.fn x = true ∨ X.env.scope.names.lookup x = some .local := by first | exact .inl rfl | exact .inr rfl) (hfy : X.fn y = true ∨ X.env.scope.names.lookup y = some .local := by first | exact .inl rfl | exact .inr rfl) (hc : X.calm = true := by rfl) :
    PG X (.Tuple [.Name x px, .Name y py] k pos) (gTup X.K 2 (gCons (gName i) (gCons (gName j) gNil))) := pg_tup hc (pgs_cons (pg_name hN hi hx hfx) (pgs_cons (pg_name hN hj hy hfy) pgs_nil))
end
/-! ### consists_of, is_variable, is_symbol_name, variable_key -/
def consistsOf (x c : Str) : Bool := x.cps.toList.all fun n => decide (n ∈ c.cps.toList)
def R_consists_of : List Dm → PyData → Prop := fun ms d => ∃ x c : Str, ms = [.d (.str x), .d (.str c)] ∧ d = .bool (consistsOf x c)
def R_is_variable : List Dm → PyData → Prop := fun ms d => ∃ x : Str, ms = [.d (.str x)] ∧ x ∈ vNames ∧ d = .bool true
def R_is_symbol_name : List Dm → PyData → Prop := fun ms d => ∃ x : Str, ms = [.d (.str x)] ∧ x ∈ sNames ∧ d = .bool true
def R_variable_key : List Dm → PyData → Prop := fun ms d => ∃ x : Str, ms = [.d (.str x)] ∧ x.length ≤ 100 ∧ d = .tuple [.int x.length, .str x]
def vFact (x : Str) : Bool := decide (1 ≤ x.length) && decide (x.length ≤ 6) && (match x.cps.toList with | c :: _ => decide (c ∈ tCap.cps.toList) | [] => false) && consistsOf (cutS x (some 1) none) tDig
def sFact (x : Str) : Bool := decide (1 ≤ x.length) && decide (x.length ≤ 8) && (match x.cps.toList with | c :: _ => decide (c ∈ tSml.cps.toList) | [] => false) && consistsOf (cutS x (some 1) none) (tSml ++ tDig)
theorem vFacts {x : Str} (h : x ∈ vNames) : 1 ≤ x.length ∧ x.length ≤ 6 ∧ (∃ c, atI x.cps.toList 0 = some c ∧ c ∈ tCap.cps.toList) ∧ consistsOf (cutS x (some 1) none) tDig = true := by
  have q := List.all_eq_true.mp (show vNames.all vFact = true by decide +kernel) x h
  unfold vFact at q
  simp only [Bool.and_eq_true, decide_eq_true_eq] at q
  obtain ⟨⟨⟨q1, q2⟩, q3⟩, q4⟩ := q
  refine ⟨q1, q2, ?_, q4⟩
  split at q3
  · next c r e => exact ⟨c, by rw [e]; exact atI_nat (i := 0) rfl, of_decide_eq_true q3⟩
  · cases q3
theorem sFacts {x : Str} (h : x ∈ sNames) : 1 ≤ x.length ∧ x.length ≤ 8 ∧ (∃ c, atI x.cps.toList 0 = some c ∧ c ∈ tSml.cps.toList) ∧ consistsOf (cutS x (some 1) none) (tSml ++ tDig) = true := by
  have q := List.all_eq_true.mp (show sNames.all sFact = true by decide +kernel) x h
  unfold sFact at q
  simp only [Bool.and_eq_true, decide_eq_true_eq] at q
  obtain ⟨⟨⟨q1, q2⟩, q3⟩, q4⟩ := q
  refine ⟨q1, q2, ?_, q4⟩
  split at q3
  · next c r e => exact ⟨c, by rw [e]; exact atI_nat (i := 0) rfl, of_decide_eq_true q3⟩
  · cases q3
section
variable {P : Program} {w : World} {K : PySem.W.Frag} {mg : Str → Option Value} {base : Heap} {f : Addr} {fd : FuncData} (B : Bi mg)
theorem ok_consists_of (F : FnP K "consists_of" "consists_of" s_consists_of f fd) : FnOk P w K mg base CX0 1 f fd ["text", "characters"] (spD K R_consists_of) := by
  refine fn_mk F sc_consists_of (fun ms d ⟨x, c, h, _⟩ => by rw [h]; rfl) fun cdv A outer s H E ms d hr ⟨x, c, h1, h2⟩ => ?_
  subst h1 h2
  have hg : ∀ i, i < x.cps.size → x.cps.toList[i]? = some (x.cps.getD i 0) := fun i hi => by
    rw [Array.getD_eq_getD_getElem?]
    simp [hi]
  refine bd_for (fun i G => G.set 2 (.val (.d (.str ⟨#[x.cps.getD i 0]⟩)))) (fun i G' => (∃ y, G' = [.val (.d (.str x)), .val (.d (.str c)), y]) ∧ ∀ j, j < i → decide (x.cps.getD j 0 ∈ c.cps.toList) = true) (it_z (ed_v 0)) (pgN 2 sc_consists_of.nd) (fun i hi => tg_n 2) ⟨⟨.no, rfl⟩, fun j hj => absurd hj (Nat.not_lt_zero _)⟩ ?_ ?_
  · rintro i G' hi ⟨⟨y, rfl⟩, hk⟩
    refine bd_ifR (td_cmp (ed_v 2) (ed_v 1) cmp_ninC) (fun hb => bd_ret ed_bl ?_) fun hb => bd_nil ⟨⟨_, rfl⟩, fun j hj => ?_⟩
    · show PyData.bool false = .bool (consistsOf x c)
      refine congrArg _ (Eq.symm ?_)
      unfold consistsOf
      rw [List.all_eq_false]
      refine ⟨_, List.mem_of_getElem? (hg i hi), ?_⟩
      simpa using hb
    · rcases Nat.lt_succ_iff_lt_or_eq.mp hj with h | h
      · exact hk j h
      · subst h
        simpa using hb
  · rintro G' ⟨⟨y, rfl⟩, hk⟩
    refine bd_ret ed_bl ?_
    show PyData.bool true = .bool (consistsOf x c)
    refine congrArg _ (Eq.symm ?_)
    unfold consistsOf
    rw [List.all_eq_true]
    intro n hn
    obtain ⟨i, hi, e⟩ := List.mem_iff_getElem.mp hn
    have hi' : i < x.cps.size := by simpa using hi
    have := hg i hi'
    rw [List.getElem?_eq_getElem hi, e] at this
    rw [Option.some.inj this]
    exact hk i hi'
include B
theorem ok_is_variable (F : FnP K "is_variable" "is_variable" s_is_variable f fd) (F1 : FD P w K mg base 1 "consists_of" ["text", "characters"] R_consists_of) : FnOk P w K mg base CX0 2 f fd ["text"] (spD K R_is_variable) := by
  refine fn_mk F sc_is_variable (fun ms d ⟨x, h, _⟩ => by rw [h]; rfl) fun cdv A outer s H E ms d hr ⟨x, h1, h2, h3⟩ => ?_
  subst h1 h3
  obtain ⟨q1, q2, ⟨c, q3, q4⟩, q5⟩ := vFacts h2
  obtain ⟨t1, e1⟩ := B.cap
  obtain ⟨t2, e2⟩ := B.dig
  refine bd_ifF (td_is (td_not (td_chain ed_int (ed_len B (ed_v 0) (len_z (by omega))) ed_int cmp_le cmp_le)) ?_) ?_
  · simp only [Bool.not_eq_false', Bool.and_eq_true, decide_eq_true_eq]
    omega
  refine bd_ret (ed_is (ed_and (ed_cmp (ed_ix (ed_v 0) ed_int (ix_z q3 (by omega))) (ed_gstr e1) cmp_inC) fun _ => ed_one (ed_call F1 hr (ad_cons (ed_sl (ed_v 0) (od_some ed_int) od_none (sl_z (by omega))) (ad_cons (ed_gstr e2) ad_nil)) ⟨_, _, rfl, rfl⟩)) rfl) ?_
  show PyData.bool _ = PyData.bool true
  rw [q5, decide_eq_true q4] <;> rfl
theorem ok_is_symbol_name (F : FnP K "is_symbol_name" "is_symbol_name" s_is_symbol_name f fd) (F1 : FD P w K mg base 1 "consists_of" ["text", "characters"] R_consists_of) : FnOk P w K mg base CX0 2 f fd ["text"] (spD K R_is_symbol_name) := by
  refine fn_mk F sc_is_symbol_name (fun ms d ⟨x, h, _⟩ => by rw [h]; rfl) fun cdv A outer s H E ms d hr ⟨x, h1, h2, h3⟩ => ?_
  subst h1 h3
  obtain ⟨q1, q2, ⟨c, q3, q4⟩, q5⟩ := sFacts h2
  obtain ⟨t1, e1⟩ := B.sml
  obtain ⟨t2, e2⟩ := B.dig
  refine bd_ifF (td_is (td_not (td_chain ed_int (ed_len B (ed_v 0) (len_z (by omega))) ed_int cmp_le cmp_le)) ?_) ?_
  · simp only [Bool.not_eq_false', Bool.and_eq_true, decide_eq_true_eq]
    omega
  refine bd_ret (ed_is (ed_and (ed_cmp (ed_ix (ed_v 0) ed_int (ix_z q3 (by omega))) (ed_gstr e1) cmp_inC) fun _ => ed_one (ed_call F1 hr (ad_cons (ed_sl (ed_v 0) (od_some ed_int) od_none (sl_z (by omega))) (ad_cons (ed_bin (ed_gstr e1) (ed_gstr e2) (bin_addS (by decide))) ad_nil)) ⟨_, _, rfl, rfl⟩)) rfl) ?_
  show PyData.bool _ = PyData.bool true
  rw [q5, decide_eq_true q4] <;> rfl
theorem ok_variable_key (F : FnP K "variable_key" "variable_key" s_variable_key f fd) : FnOk P w K mg base CX0 1 f fd ["name"] (spD K R_variable_key) := by
  refine fn_mk F sc_variable_key (fun ms d ⟨x, h, _⟩ => by rw [h]; rfl) fun cdv A outer s H E ms d hr ⟨x, h1, h2, h3⟩ => ?_
  subst h1 h3
  exact bd_ret (ed_tup (ad_cons (ed_len B (ed_v 0) (len_z (by omega))) (ad_cons (ed_v 0) ad_nil))) rfl
end
end Tw

set_option maxHeartbeats 4000000
namespace Tw
open PySem PySem.Spec L2
open PyProof.Rows hiding St
/-- the classes -/
structure SF (K : PySem.W.Frag) : Prop where
  cls : Cls K (sigC K)
  tab : NoAttr K (sigC K) "table"
  sym : NoAttr K (sigC K) "symbols"
def R_arity : List Dm → PyData → Prop := fun ms d => ∃ (ss : Sg) (i : Nat) (s : Sy), ss[i]? = some s ∧ ms = [.sig ss, .d (.str s.n)] ∧ d = .int s.ar
def R_rank : List Dm → PyData → Prop := fun ms d => ∃ (ss : Sg) (i : Nat) (s : Sy), ss[i]? = some s ∧ ms = [.sig ss, .d (.str s.n)] ∧ d = .int (i : Nat)
def R_is_two_way : List Dm → PyData → Prop := fun ms d => ∃ (ss : Sg) (i : Nat) (s : Sy), ss[i]? = some s ∧ ms = [.sig ss, .d (.str s.n)] ∧ d = .bool s.tw
section
variable {P : Program} {w : World} {K : PySem.W.Frag} {mg : Str → Option Value} {base : Heap} {f : Addr} {fd : FuncData} (B : Bi mg) (T : SF K)
include T
theorem ok_arity (F : FnP K "arity" "Signature.arity" s_S_arity f fd) : FnOk P w K mg base CX0 1 f fd P_S_arity (spD K R_arity) := by
  refine fn_mk F sc_S_arity (fun ms d ⟨_, _, _, _, h, _⟩ => by rw [h]; rfl) fun cdv A outer s H E ms d hr ⟨ss, i, y, h1, h2, h3⟩ => ?_
  subst h2 h3
  exact bd_ifT (fun _ => False) (td_inTab T.cls T.tab (room_u hr) (ed_v 0) (ed_v 1) h1) (bd_ret (ed_tab (j := 1) T.cls T.tab (room_u hr) (ed_v 0) (ed_v 1) h1 rfl) rfl) fun _ z => z.elim
theorem ok_rank (F : FnP K "rank" "Signature.rank" s_S_rank f fd) : FnOk P w K mg base CX0 1 f fd P_S_rank (spD K R_rank) := by
  refine fn_mk F sc_S_rank (fun ms d ⟨_, _, _, _, h, _⟩ => by rw [h]; rfl) fun cdv A outer s H E ms d hr ⟨ss, i, y, h1, h2, h3⟩ => ?_
  subst h2 h3
  exact bd_ifT (fun _ => False) (td_inTab T.cls T.tab (room_u hr) (ed_v 0) (ed_v 1) h1) (bd_ret (ed_tab (j := 0) T.cls T.tab (room_u hr) (ed_v 0) (ed_v 1) h1 rfl) rfl) fun _ z => z.elim
theorem ok_is_two_way (F : FnP K "is_two_way" "Signature.is_two_way" s_S_is_two_way f fd) : FnOk P w K mg base CX0 1 f fd P_S_is_two_way (spD K R_is_two_way) := by
  refine fn_mk F sc_S_is_two_way (fun ms d ⟨_, _, _, _, h, _⟩ => by rw [h]; rfl) fun cdv A outer s H E ms d hr ⟨ss, i, y, h1, h2, h3⟩ => ?_
  subst h2 h3
  exact bd_ret (ed_andT (ed_inTab T.cls T.tab (room_u hr) (ed_v 0) (ed_v 1) h1) (ed_one (ed_tab (j := 2) T.cls T.tab (room_u hr) (ed_v 0) (ed_v 1) h1 rfl))) rfl
end
end Tw

set_option maxHeartbeats 4000000
namespace Tw
open PySem PySem.Spec L2
open PyProof.Rows hiding St
theorem nth_map {α : Type} {xs : List α} {g : α → PyData} {i : Nat} {x : α} (h : xs[i]? = some x) : nthP (xs.map g) i = g x := nthP_get (by rw [List.getElem?_map, h]; rfl)
theorem cut1 {x : PyData} {xs : List PyData} : cutP (x :: xs) (some 1) none = xs := by
  unfold cutP
  simp [HT.sIx]
def R_check_part (n : Nat) : List Dm → PyData → Prop := fun ms d => ∃ (ss : Sg) (t : Tm) (pl : List PyData), ss.Good ∧ Ok ss t ∧ t.dep ≤ n ∧ pl.length + n ≤ 100 ∧ ms = [.sig ss, .d t.d, .d (.tuple pl)] ∧ d = .none
section
variable {P : Program} {w : World} {K : PySem.W.Frag} {mg : Str → Option Value} {base : Heap} {f : Addr} {fd : FuncData} (B : Bi mg) (T : SF K)
include B T
theorem fd_check_part (D : DefAt K mg "check_part" "check_part" s_check_part) (F1 : FD P w K mg base 2 "is_variable" P_is_variable R_is_variable) (F2 : MD P w K mg base 1 (sigC K) "arity" P_S_arity R_arity) : ∀ n, FD P w K mg base (n + 3) "check_part" P_check_part (R_check_part n) := by
  intro n
  induction n using Nat.strongRecOn with
  | ind n ih =>
  refine fd_mk D (fun F => bn_check_part F) fun f fd F => fn_mk F sc_check_part (fun ms d ⟨_, _, _, _, _, _, _, h, _⟩ => by rw [h]; rfl) fun cdv A outer s H E ms d hr ⟨ss, t, pl, g, o, hd, hl, h1, h2⟩ => ?_
  subst h1 h2
  cases hv : t.isV with
  | true =>
    obtain ⟨x, rfl⟩ := d_v hv
    exact bd_ifT (fun _ => False) (td_val (ed_isStr B (ed_v 1) rfl)) (bd_ifF (td_notT (td_val (ed_call F1 (hr.mono (by omega)) (ad_cons (ed_v 1) ad_nil) ⟨x, rfl, o, rfl⟩))) (bd_retN rfl)) fun _ z => z.elim
  | false =>
    obtain ⟨i, y, e1, e2, e3⟩ := ok_ap hv o
    have hn := dep_ap hv
    have hF := ih (n - 1) (by omega)
    rw [d_ap hv]
    refine bd_ifF (td_val (ed_isStr B (ed_v 1) rfl)) ?_
    have ha := args_le t
    refine bd_ifF (td_is (wd_or (td_not (td_truT (ed_v 1))) fun _ => wd_or (td_not (td_val (ed_isStr B (ed_ix (ed_v 1) ed_int (ix_t (atI_nat (i := 0) rfl))) rfl))) fun _ => wd_or1 (td_cmp (ed_methS F2 T.cls (hr.mono (by omega)) (ed_v 0) (ad_cons (ed_ix (ed_v 1) ed_int (ix_t (atI_nat (i := 0) rfl))) ad_nil) ⟨ss, i, y, e1, by rw [e2], rfl⟩) (ed_bin (ed_len B (ed_v 1) len_t) ed_int bin_sub) cmp_neI)).pt ?_) ?_
    · simp [e3]
    refine bd_for (fun i G => (G.set 3 (.val (.d (.int (i : Nat))))).set 4 (.val (.d (nthP (t.args.map Tm.d) i)))) (fun i G' => ∃ y z, G' = [.val (.sig ss), .val (.d (.tuple (.str t.hd :: t.args.map Tm.d))), .val (.d (.tuple pl)), y, z]) (it_et (ed_sl (ed_v 1) (od_some ed_int) od_none (sl_t cut1)) B.enm) (pgT2 3 4 sc_check_part.nd) (fun i hi => tg_tup (tgs_cons (tg_n 3) (tgs_cons (tg_n 4) tgs_nil))) ⟨.no, .no, rfl⟩ ?_ ?_
    · rintro i G' hi ⟨y, z, rfl⟩
      rw [List.length_map] at hi
      obtain ⟨a, ha⟩ : ∃ a, t.args[i]? = some a := ⟨_, List.getElem?_eq_getElem hi⟩
      obtain ⟨oa, da, _⟩ := ok_arg o (List.mem_of_getElem? ha)
      rw [nth_map ha]
      exact bd_drop (ed_call hF (hr.mono (by omega)) (ad_cons (ed_v 0) (ad_cons (ed_v 4) (ad_cons (ed_bin (ed_v 2) (ed_t1 (ad_cons (ed_v 3) ad_nil)) (bin_addT (by simp; omega))) ad_nil))) ⟨ss, a, _, g, oa, by omega, by simp; omega, rfl, rfl⟩) (bd_nil ⟨_, _, rfl⟩)
    · rintro G' ⟨y, z, rfl⟩
      exact bd_nil rfl
end
end Tw

set_option maxHeartbeats 4000000
namespace Tw
open PySem PySem.Spec L2
open PyProof.Rows hiding St
theorem lc_eq {xs : List PyData} {n : Nat} (h : n = xs.length) : (List.range n).filterMap (fun i => some (nthP xs i)) = xs := by
  subst h
  rw [List.filterMap_eq_map']
  apply List.ext_getElem
  · simp
  · intro i h1 h2
    rw [List.getElem_map, List.getElem_range]
    exact nthP_get (List.getElem?_eq_getElem h2)
theorem room64 {k : Nat} {A : Around} (r : Room k A) : A.units + 64 < cLine := by have := r.un; omega
def R_check_term (n : Nat) : List Dm → PyData → Prop := fun ms d => ∃ (ss : Sg) (t : Tm), ss.Good ∧ Ok ss t ∧ t.dep ≤ n ∧ ms = [.sig ss, .d t.d] ∧ d = .none
def R_is_term (n : Nat) : List Dm → PyData → Prop := fun ms d => ∃ (ss : Sg) (t : Tm), ss.Good ∧ Ok ss t ∧ t.dep ≤ n ∧ ms = [.sig ss, .d t.d] ∧ d = .bool true
def R_same_pair (n : Nat) : List Dm → PyData → Prop := fun ms d => ∃ (ss : Sg) (t : Tm), ss.Good ∧ Ok ss t ∧ t.dep ≤ n ∧ ms = [.sig ss, .d t.d] ∧ d = .tuple [t.d, t.d]
def R_turn_pair (n : Nat) : List Dm → PyData → Prop := fun ms d => ∃ (ss : Sg) (i : Nat) (y : Sy) (p q : Tm), ss.Good ∧ ss[i]? = some y ∧ y.tw = true ∧ Ok ss p ∧ Ok ss q ∧ p.dep ≤ n ∧ q.dep ≤ n ∧ ms = [.sig ss, .d (.str y.n), .d p.d, .d q.d] ∧ d = .tuple [.tuple [.str y.n, p.d, q.d], .tuple [.str y.n, q.d, p.d]]
def R_item_at : List Dm → PyData → Prop := fun ms d => ∃ (xs : List PyData) (i : Nat), xs[i]? = some d ∧ ms = [.bor xs, .d (.int (i : Nat))]
def R_chain_pair : List Dm → PyData → Prop := fun ms d => ∃ (a b c : PyData), SeqAt.shaped b = true ∧ PyData.eqv b b = true ∧ ms = [.d (.tuple [a, b]), .d (.tuple [b, c])] ∧ d = .tuple [a, c]
def R_within_pair : List Dm → PyData → Prop := fun ms d => ∃ (ss : Sg) (i : Nat) (y : Sy) (qs : List (PyData × PyData)), ss[i]? = some y ∧ qs.length = y.ar ∧ y.ar ≤ 2 ∧ ms = [.sig ss, .d (.str y.n), .d (.list (qs.map fun q => .tuple [q.1, q.2]))] ∧ d = .tuple [.tuple (.str y.n :: qs.map (·.1)), .tuple (.str y.n :: qs.map (·.2))]
def R_term_order (n : Nat) : List Dm → PyData → Prop := fun ms d => ∃ (ss : Sg) (t : Tm), ss.Good ∧ Ok ss t ∧ t.dep ≤ n ∧ ms = [.sig ss, .d t.d] ∧ d = key ss t
def R_least_writing (n : Nat) : List Dm → PyData → Prop := fun ms d => ∃ (ss : Sg) (t : Tm), ss.Good ∧ Ok ss t ∧ t.dep ≤ n ∧ n ≤ 64 ∧ ms = [.sig ss, .d t.d] ∧ d = (lw ss t).d
def R_are_alike (n : Nat) : List Dm → PyData → Prop := fun ms d => ∃ (ss : Sg) (p q : Tm), ss.Good ∧ Ok ss p ∧ Ok ss q ∧ p.dep ≤ n ∧ q.dep ≤ n ∧ n ≤ 64 ∧ ms = [.sig ss, .d p.d, .d q.d] ∧ d = .bool (decide (lw ss p = lw ss q))
section
variable {P : Program} {w : World} {K : PySem.W.Frag} {mg : Str → Option Value} {base : Heap} (B : Bi mg) (T : SF K)
theorem fd_check_term {n k : Nat} (D : DefAt K mg "check_term" "check_term" s_check_term) (F1 : FD P w K mg base k "check_part" P_check_part (R_check_part n)) (hn : n ≤ 100) : FD P w K mg base (k + 1) "check_term" P_check_term (R_check_term n) := by
  refine fd_mk D (fun F => bn_check_term F) fun f fd F => fn_mk F sc_check_term (fun ms d ⟨_, _, _, _, _, h, _⟩ => by rw [h]; rfl) fun cdv A outer s H E ms d hr ⟨ss, t, g, o, hd, h1, h2⟩ => ?_
  subst h1 h2
  exact bd_drop (ed_call F1 hr (ad_cons (ed_v 0) (ad_cons (ed_v 1) (ad_cons (ed_tup (ds := []) ad_nil) ad_nil))) ⟨ss, t, [], g, o, hd, by simpa using hn, rfl, rfl⟩) (bd_nil rfl)
include B
theorem tyd_not_int (t : Tm) : kitB (tyP t.d) "int" = some false := by cases t <;> rfl
theorem fd_is_term {n k : Nat} (D : DefAt K mg "is_term" "is_term" s_is_term) (F1 : FD P w K mg base k "check_term" P_check_term (R_check_term n)) : FD P w K mg base (k + 1) "is_term" P_is_term (R_is_term n) := by
  refine fd_mk D (fun F => bn_is_term F) fun f fd F => fn_mk F sc_is_term (fun ms d ⟨_, _, _, _, _, h, _⟩ => by rw [h]; rfl) fun cdv A outer s H E ms d hr ⟨ss, t, g, o, hd, h1, h2⟩ => ?_
  subst h1 h2
  refine bd_ifF (td_val (ed_isInt B (ed_v 1) (tyd_not_int B t))) ?_
  refine bd_try (fun G' => G' = [.val (.sig ss), .val (.d t.d)]) (bd_drop (ed_call F1 hr (ad_cons (ed_v 0) (ad_cons (ed_v 1) ad_nil)) ⟨ss, t, g, o, hd, rfl, rfl⟩) (bd_nil rfl)) fun G' e => ?_
  subst e
  exact bd_ret ed_bl rfl
theorem fd_item_at (D : DefAt K mg "item_at" "item_at" s_item_at) : FD P w K mg base 1 "item_at" P_item_at R_item_at := by
  refine fd_mk D (fun F => bn_item_at F) fun f fd F => fn_mk F sc_item_at (fun ms d ⟨_, _, _, h⟩ => by rw [h]; rfl) fun cdv A outer s H E ms d hr ⟨xs, i, hi, h1⟩ => ?_
  subst h1
  have hl := (List.getElem?_eq_some_iff.mp hi).1
  refine bd_ifT (fun _ => False) (td_is (wd_and (td_val (ed_isInt B (ed_v 1) rfl)) fun _ => wd_and1 (td_chain ed_int (ed_v 1) (ed_len B (ed_v 0) len_b) cmp_le cmp_lt)).pt ?_) (bd_ret (ed_ix (ed_v 0) (ed_v 1) (ix_b (atI_nat hi))) rfl) fun _ z => z.elim
  rw [decide_eq_true (by omega), decide_eq_true (by omega)] <;> rfl
omit B in
theorem fd_same_pair {n k : Nat} (D : DefAt K mg "same_pair" "same_pair" s_same_pair) (F1 : FD P w K mg base k "is_term" P_is_term (R_is_term n)) : FD P w K mg base (k + 1) "same_pair" P_same_pair (R_same_pair n) := by
  refine fd_mk D (fun F => bn_same_pair F) fun f fd F => fn_mk F sc_same_pair (fun ms d ⟨_, _, _, _, _, h, _⟩ => by rw [h]; rfl) fun cdv A outer s H E ms d hr ⟨ss, t, g, o, hd, h1, h2⟩ => ?_
  subst h1 h2
  exact bd_ifF (td_notT (td_val (ed_call F1 hr (ad_cons (ed_v 0) (ad_cons (ed_v 1) ad_nil)) ⟨ss, t, g, o, hd, rfl, rfl⟩))) (bd_ret (ed_t2 (ad_cons (ed_v 1) (ad_cons (ed_v 1) ad_nil))) rfl)
theorem fd_chain_pair (D : DefAt K mg "chain_pair" "chain_pair" s_chain_pair) : FD P w K mg base 1 "chain_pair" P_chain_pair R_chain_pair := by
  refine fd_mk D (fun F => bn_chain_pair F) fun f fd F => fn_mk F sc_chain_pair (fun ms d ⟨_, _, _, _, _, h, _⟩ => by rw [h]; rfl) fun cdv A outer s H E ms d hr ⟨a, b, c, hs, hb, h1, h2⟩ => ?_
  subst h1 h2
  refine bd_ifF (td_is (wd_or (td_cmp (ed_v 0) ed_non cmp_isN) fun _ => wd_or (td_cmp (ed_v 1) ed_non cmp_isN) fun _ => wd_or1 (td_cmp (ed_ix (ed_v 0) ed_int (ix_t (atI_nat (i := 1) rfl))) (ed_ix (ed_v 1) ed_int (ix_t (atI_nat (i := 0) rfl))) (cmp_neD (room64 hr) hs hs))).pt ?_) ?_
  · rw [hb] <;> rfl
  · exact bd_ret (ed_t2 (ad_cons (ed_ix (ed_v 0) ed_int (ix_t (atI_nat (i := 0) rfl))) (ad_cons (ed_ix (ed_v 1) ed_int (ix_t (atI_nat (i := 1) rfl))) ad_nil))) rfl
include T
theorem fd_turn_pair {n k : Nat} (D : DefAt K mg "turn_pair" "turn_pair" s_turn_pair) (F1 : FD P w K mg base k "is_term" P_is_term (R_is_term n)) (F2 : MD P w K mg base 1 (sigC K) "is_two_way" P_S_is_two_way R_is_two_way) (hk : 1 ≤ k) : FD P w K mg base (k + 1) "turn_pair" P_turn_pair (R_turn_pair n) := by
  refine fd_mk D (fun F => bn_turn_pair F) fun f fd F => fn_mk F sc_turn_pair (fun ms d ⟨_, _, _, _, _, _, _, _, _, _, _, _, h, _⟩ => by rw [h]; rfl) fun cdv A outer s H E ms d hr ⟨ss, i, y, p, q, g, hi, ht, op, oq, dp, dq, h1, h2⟩ => ?_
  subst h1 h2
  refine bd_ifF (td_is (wd_or (td_notT (td_val (ed_isStr B (ed_v 1) rfl))) fun _ => wd_or1 (td_not (td_val (b := y.tw) (ed_methS F2 T.cls (hr.mono hk) (ed_v 0) (ad_cons (ed_v 1) ad_nil) ⟨ss, i, y, hi, rfl, rfl⟩)))).pt ?_) ?_
  · rw [ht] <;> rfl
  refine bd_ifF (wd_or (td_notT (td_val (ed_call F1 hr (ad_cons (ed_v 0) (ad_cons (ed_v 2) ad_nil)) ⟨ss, p, g, op, dp, rfl, rfl⟩))) fun _ => wd_or1 (td_notT (td_val (ed_call F1 hr (ad_cons (ed_v 0) (ad_cons (ed_v 3) ad_nil)) ⟨ss, q, g, oq, dq, rfl, rfl⟩)))).pt ?_
  exact bd_ret (ed_t2 (ad_cons (ed_t3 (ad_cons (ed_v 1) (ad_cons (ed_v 2) (ad_cons (ed_v 3) ad_nil)))) (ad_cons (ed_t3 (ad_cons (ed_v 1) (ad_cons (ed_v 3) (ad_cons (ed_v 2) ad_nil)))) ad_nil))) rfl
end
end Tw

set_option maxHeartbeats 4000000
namespace Tw
open PySem PySem.Spec L2
open PyProof.Rows hiding St
section
variable {X : Cx} {G : List En} {it elt : Expr} {scope : Scope} {x : Str} {px pos : Pos} {n : Nat} {Y : Nat → PyData}
/-- [elt for x in it]: the list is known -/
theorem ed_comp (j : Nat) {zs : List PyData} (hI : ItD X G (.Name x px) it n Y) (he : ∀ i z, i < n → zs[i]? = some z → ∀ (s : Shared) (H : Hp) (C : Addr) (cl : List (Str × Addr)) (fp : List Addr), ED (XB X s H scope C cl fp) (envJ G j (Y i)) elt (.d z)) (hn : n = zs.length) (hN : X.N.Nodup) (hz : n < 100000)
    (hi : X.N[j]? = some x := by rfl) (hx : scope.names.lookup x = some .local := by rfl) (hb : blkC X.N X.env.scope scope [(x, j)] = true := by rfl) (hc : X.calm = true := by rfl)
    (hl : ∀ (s : Shared) (H : Hp) (C : Addr) (cl : List (Str × Addr)) (fp : List Addr), (XB X s H scope C cl fp).env.scope.names.lookup x = some .local := by exact fun _ _ _ _ _ => rfl) (hs : ∀ x, foldedSetIterable it X.env x = pure x := by intro _; rfl) :
    ED X G (.ListComp elt [⟨.Name x px, it, [], 0⟩] scope pos) (.d (.list zs)) :=
  ed_lc j hI (lc_noif j (zs := nthP zs) hN hi hx (fun i hi => he i _ hi (by rw [List.getElem?_eq_getElem (hn ▸ hi), nthP_get (List.getElem?_eq_getElem (hn ▸ hi))])) hl) hN hb hz (lc_eq hn) hc hs
/-- y = [elt for x in it] -/
theorem bd_setComp (i j : Nat) {y : Str} {py spos : Pos} {o : Ou} {rest : List Stmt} {zs : List PyData} (hI : ItD X G (.Name x px) it n Y) (he : ∀ i z, i < n → zs[i]? = some z → ∀ (s : Shared) (H : Hp) (C : Addr) (cl : List (Str × Addr)) (fp : List Addr), ED (XB X s H scope C cl fp) (envJ G j (Y i)) elt (.d z)) (hn : n = zs.length) (hN : X.N.Nodup) (hz : n < 100000)
    (hr : BD X (G.set i (.val (.d (.list zs)))) rest o) (hi : X.N[j]? = some x := by rfl) (hx : scope.names.lookup x = some .local := by rfl) (hb : blkC X.N X.env.scope scope [(x, j)] = true := by rfl)
    (hsw : swapsWith (.ListComp elt [⟨.Name x px, it, [], 0⟩] scope pos) (some (.Name y py)) spos.line X.env = pure true := by rfl) (hi2 : X.N[i]? = some y := by rfl) (hyl : X.env.scope.names.lookup y = some .local := by rfl) (hc : X.calm = true := by rfl)
    (hl : ∀ (s : Shared) (H : Hp) (C : Addr) (cl : List (Str × Addr)) (fp : List Addr), (XB X s H scope C cl fp).env.scope.names.lookup x = some .local := by exact fun _ _ _ _ _ => rfl) (hs : ∀ x, foldedSetIterable it X.env x = pure x := by intro _; rfl) :
    BD X G (.Assign [.Name y py] (.ListComp elt [⟨.Name x px, it, [], 0⟩] scope pos) spos :: rest) o :=
  bd_setLc i j hI (lc_noif j (zs := nthP zs) hN hi hx (fun i hi => he i _ hi (by rw [List.getElem?_eq_getElem (hn ▸ hi), nthP_get (List.getElem?_eq_getElem (hn ▸ hi))])) hl) hN hb hz (lc_eq hn) hr hsw hi2 hyl hc hs
end
section
variable {P : Program} {w : World} {K : PySem.W.Frag} {mg : Str → Option Value} {base : Heap} (B : Bi mg) (T : SF K)
include B T
theorem fd_within_pair (D : DefAt K mg "within_pair" "within_pair" s_within_pair) (F2 : MD P w K mg base 1 (sigC K) "arity" P_S_arity R_arity) : FD P w K mg base 2 "within_pair" P_within_pair R_within_pair := by
  refine fd_mk D (fun F => bn_within_pair F) fun f fd F => fn_mk F sc_within_pair (fun ms d ⟨_, _, _, _, _, _, _, h, _⟩ => by rw [h]; rfl) fun cdv A outer s H E ms d hr ⟨ss, i, y, qs, hi, hq, hy, h1, h2⟩ => ?_
  subst h1 h2
  have hl : (qs.map fun q => PyData.tuple [q.1, q.2]).length = qs.length := List.length_map _
  have hz : qs.length ≤ 2 := by omega
  have hget : ∀ i, i < qs.length → ∃ q, qs[i]? = some q := fun i hi => ⟨_, List.getElem?_eq_getElem hi⟩
  refine bd_ifF (td_is (wd_or (td_notT (td_val (ed_isStr B (ed_v 1) rfl))) fun _ => wd_or1 (td_cmp (ed_methS F2 T.cls hr (ed_v 0) (ad_cons (ed_v 1) ad_nil) ⟨ss, i, y, hi, rfl, rfl⟩) (ed_len B (ed_v 2) len_l) cmp_neI)).pt ?_) ?_
  · rw [hl, hq, decide_eq_true rfl] <;> rfl
  refine bd_for (fun i G => G.set 3 (.val (.d (nthP (qs.map fun q => PyData.tuple [q.1, q.2]) i)))) (fun i G' => ∃ z, G' = [.val (.sig ss), .val (.d (.str y.n)), .val (.d (.list (qs.map fun q => PyData.tuple [q.1, q.2]))), z]) (it_l (ed_v 2)) (pgN 3 sc_within_pair.nd) (fun i hi => tg_n 3) ⟨.no, rfl⟩ ?_ ?_
  · rintro i G' hi ⟨z, rfl⟩
    obtain ⟨q, hq⟩ := hget i (hl ▸ hi)
    rw [nth_map hq]
    exact bd_ifF (td_cmp (ed_v 3) ed_non cmp_isN) (bd_nil ⟨_, rfl⟩)
  · rintro G' ⟨z, rfl⟩
    refine bd_ret (ed_t2 (ad_cons (ed_ttup B (ed_bin (ed_l1 (a1 := .str y.n) (ad_cons (ed_v 1) ad_nil)) (ed_comp 3 (zs := qs.map (fun q : PyData × PyData => q.1)) (it_l (ed_v 2)) (fun i z hi hz s H C cl fp => ?_) (by rw [List.length_map, List.length_map]) sc_within_pair.nd (by omega)) (bin_addL (by simp; omega))) tup_l) (ad_cons (ed_ttup B (ed_bin (ed_l1 (a1 := .str y.n) (ad_cons (ed_v 1) ad_nil)) (ed_comp 3 (zs := qs.map (fun q : PyData × PyData => q.2)) (it_l (ed_v 2)) (fun i z hi hz s H C cl fp => ?_) (by rw [List.length_map, List.length_map]) sc_within_pair.nd (by omega)) (bin_addL (by simp; omega))) tup_l) ad_nil))) rfl
    · obtain ⟨q, hq⟩ := hget i (hl ▸ hi)
      rw [List.getElem?_map, hq] at hz
      cases hz
      rw [nth_map hq]
      exact ed_ix (ed_v 3) ed_int (ix_t (atI_nat (i := 0) rfl))
    · obtain ⟨q, hq⟩ := hget i (hl ▸ hi)
      rw [List.getElem?_map, hq] at hz
      cases hz
      rw [nth_map hq]
      exact ed_ix (ed_v 3) ed_int (ix_t (atI_nat (i := 1) rfl))
theorem fd_term_order (D : DefAt K mg "term_order" "term_order" s_term_order) (F1 : FD P w K mg base 1 "variable_key" P_variable_key R_variable_key) (F2 : MD P w K mg base 1 (sigC K) "rank" P_S_rank R_rank) : ∀ n, FD P w K mg base (n + 2) "term_order" P_term_order (R_term_order n) := by
  intro n
  induction n using Nat.strongRecOn with
  | ind n ih =>
  refine fd_mk D (fun F => bn_term_order F) fun f fd F => fn_mk F sc_term_order (fun ms d ⟨_, _, _, _, _, h, _⟩ => by rw [h]; rfl) fun cdv A outer s H E ms d hr ⟨ss, t, g, o, hd, h1, h2⟩ => ?_
  subst h1 h2
  cases hv : t.isV with
  | true =>
    obtain ⟨x, rfl⟩ := d_v hv
    have := (vFacts o).2.1
    exact bd_ifT (fun _ => False) (td_val (ed_isStr B (ed_v 1) rfl)) (bd_ret (ed_tup (ds := [.int 0, .int x.length, .str x]) (ad_cons ed_int (ad_star (.inr (ed_call F1 (hr.mono (by omega)) (ad_cons (ed_v 1) ad_nil) ⟨x, rfl, by omega, rfl⟩)) ad_nil))) rfl) fun _ z => z.elim
  | false =>
    obtain ⟨i, y, e1, e2, e3⟩ := ok_ap hv o
    have hn := dep_ap hv
    have hF := ih (n - 1) (by omega)
    have ha := args_le t
    have hk : key ss t = .tuple (.int 1 :: .int i :: t.args.map (key ss)) := by
      rw [← rk_of g e1, e2]
      cases t <;> first | rfl | cases hv
    rw [d_ap hv, hk]
    refine bd_ifF (td_val (ed_isStr B (ed_v 1) rfl)) ?_
    refine bd_ret (ed_tup (ds := .int 1 :: .int i :: t.args.map (key ss)) (ad_cons ed_int (ad_cons (ed_methS F2 T.cls (hr.mono (by omega)) (ed_v 0) (ad_cons (ed_ix (ed_v 1) ed_int (ix_t (atI_nat (i := 0) rfl))) ad_nil) ⟨ss, i, y, e1, by rw [e2], rfl⟩)
      (ad_star (.inl (ed_comp 2 (zs := t.args.map (key ss)) (it_t (ed_sl (ed_v 1) (od_some ed_int) od_none (sl_t cut1))) (fun i z hi hz s H C cl fp => ?_) (by rw [List.length_map, List.length_map]) sc_term_order.nd (by rw [List.length_map]; omega))) ad_nil))) (by simp) (by simp; omega)) rfl
    rw [List.length_map] at hi
    obtain ⟨a, ha⟩ : ∃ a, t.args[i]? = some a := ⟨_, List.getElem?_eq_getElem hi⟩
    obtain ⟨oa, da, _⟩ := ok_arg o (List.mem_of_getElem? ha)
    rw [List.getElem?_map, ha] at hz
    cases hz
    rw [nth_map ha]
    exact ed_call hF (hr.mono (by omega)) (ad_cons (ed_v 0) (ad_cons (ed_v 2) ad_nil)) ⟨ss, a, g, oa, by omega, rfl, rfl⟩
end
end Tw

set_option maxHeartbeats 4000000
namespace Tw
open PySem PySem.Spec L2
open PyProof.Rows hiding St
section
variable {P : Program} {w : World} {K : PySem.W.Frag} {mg : Str → Option Value} {base : Heap} (B : Bi mg) (T : SF K)
include B T
theorem fd_least_writing (D : DefAt K mg "least_writing" "least_writing" s_least_writing) (F1 : ∀ n, FD P w K mg base (n + 2) "term_order" P_term_order (R_term_order n)) (F2 : MD P w K mg base 1 (sigC K) "is_two_way" P_S_is_two_way R_is_two_way) : ∀ n, FD P w K mg base (n + 3) "least_writing" P_least_writing (R_least_writing n) := by
  intro n
  induction n using Nat.strongRecOn with
  | ind n ih =>
  refine fd_mk D (fun F => bn_least_writing F) fun f fd F => fn_mk F sc_least_writing (fun ms d ⟨_, _, _, _, _, _, h, _⟩ => by rw [h]; rfl) fun cdv A outer s H E ms d hr ⟨ss, t, g, o, hd, hn64, h1, h2⟩ => ?_
  subst h1 h2
  have hN := sc_least_writing.nd
  cases hv : t.isV with
  | true =>
    obtain ⟨x, rfl⟩ := d_v hv
    exact bd_ifT (fun _ => False) (td_val (ed_isStr B (ed_v 1) rfl)) (bd_ret (ed_v 1) rfl) fun _ z => z.elim
  | false =>
    obtain ⟨i, y, e1, e2, e3⟩ := ok_ap hv o
    have hn := dep_ap hv
    have hF := ih (n - 1) (by omega)
    have ha := args_le t
    have etw : ss.tw t.hd = y.tw := by rw [← e2]; exact (g.find (List.mem_of_getElem? e1)).2.1
    generalize hD : t.d = D0
    have hD2 := hD
    rw [d_ap hv] at hD2
    subst hD2
    refine bd_ifF (td_val (ed_isStr B (ed_v 1) rfl)) ?_
    refine bd_setComp 2 3 (zs := t.args.map fun a => (lw ss a).d) (it_t (ed_sl (ed_v 1) (od_some ed_int) od_none (sl_t cut1))) (fun i z hi hz s H C cl fp => ?_) (by rw [List.length_map, List.length_map]) hN (by rw [List.length_map]; omega) ?_
    · rw [List.length_map] at hi
      obtain ⟨a, ha⟩ : ∃ a, t.args[i]? = some a := ⟨_, List.getElem?_eq_getElem hi⟩
      obtain ⟨oa, da, _⟩ := ok_arg o (List.mem_of_getElem? ha)
      rw [List.getElem?_map, ha] at hz
      cases hz
      rw [nth_map ha]
      exact ed_call hF (hr.mono (by omega)) (ad_cons (ed_v 0) (ad_cons (ed_v 3) ad_nil)) ⟨ss, a, g, oa, by omega, by omega, rfl, rfl⟩
    have hm : ∀ {X : Cx} (hX : X.prog = P ∧ X.w = w ∧ X.K = K ∧ X.mg = mg ∧ X.base = base), True := fun _ => trivial
    cases htw : y.tw with
    | false =>
      have hl := lw_args (ss := ss) hv (.inl fun z => by rw [etw, htw] at z; cases z)
      rw [hl]
      refine bd_ifF (wd_and (c := false) (td_val (b := false) (ed_methS F2 T.cls (hr.mono (by omega)) (ed_v 0) (ad_cons (ed_ix (ed_v 1) ed_int (ix_t (atI_nat (i := 0) rfl))) ad_nil) ⟨ss, i, y, e1, by rw [e2], by rw [htw]⟩)) fun z => by cases z).pt ?_
      exact bd_ret (ed_tup (ds := .str t.hd :: t.args.map fun a => (lw ss a).d) (ad_cons (ed_ix (ed_v 1) ed_int (ix_t (atI_nat (i := 0) rfl))) (ad_star (.inl (ed_v 2)) ad_nil)) (by simp) (by simp; omega)) rfl
    | true =>
      obtain ⟨f', p, q, rfl⟩ := tw_b g o hv (by rw [etw, htw])
      obtain ⟨_, op, oq⟩ := o
      have dp : p.dep ≤ n - 1 := by simp only [Tm.dep] at hd; omega
      have dq : q.dep ≤ n - 1 := by simp only [Tm.dep] at hd; omega
      have hz : n - 1 + 2 ≤ n + 2 := by omega
      refine bd_if (b := true && (lw ss q).lt ss (lw ss p)) (fun G' => G' = [.val (.sig ss), .val (.d (.tuple [.str f', p.d, q.d])), .val (.d (.list (if (lw ss q).lt ss (lw ss p) = true then [(lw ss q).d, (lw ss p).d] else [(lw ss p).d, (lw ss q).d]))), .no])
        (wd_and (td_val (b := true) (ed_methS F2 T.cls (hr.mono (by omega)) (ed_v 0) (ad_cons (ed_ix (ed_v 1) ed_int (ix_t (atI_nat (i := 0) rfl))) ad_nil) ⟨ss, i, y, e1, by rw [e2] <;> rfl, by rw [htw]⟩)) fun _ => wd_and1 (td_cmp
          (ed_call (F1 (n - 1)) (hr.mono hz) (ad_cons (ed_v 0) (ad_cons (ed_ix (ed_v 2) ed_int (ix_l (atI_nat (i := 1) rfl))) ad_nil)) ⟨ss, lw ss q, g, ok_lw q oq, by rw [dep_lw]; exact dq, rfl, rfl⟩)
          (ed_call (F1 (n - 1)) (hr.mono hz) (ad_cons (ed_v 0) (ad_cons (ed_ix (ed_v 2) ed_int (ix_l (atI_nat (i := 0) rfl))) ad_nil)) ⟨ss, lw ss p, g, ok_lw p op, by rw [dep_lw]; exact dp, rfl, rfl⟩)
          (cmp_ltKey g (ok_lw q oq) (ok_lw p op) ?_))).pt (fun hb => ?_) (fun hb => ?_) ?_
      · rw [dep_lw]
        have := room_u hr
        show (A.deeper _).units + q.dep + 3 < cLine
        omega
      · have hb' : (lw ss q).lt ss (lw ss p) = true := by simpa using hb
        refine bd_set 2 (ed_l2 (ad_cons (ed_ix (ed_v 2) ed_int (ix_l (atI_nat (i := 1) rfl))) (ad_cons (ed_ix (ed_v 2) ed_int (ix_l (atI_nat (i := 0) rfl))) ad_nil))) (bd_nil ?_) hN
        show _ = _
        rw [if_pos hb']
        rfl
      · have hb' : ¬ (lw ss q).lt ss (lw ss p) = true := by simpa using hb
        refine bd_nil ?_
        show _ = _
        rw [if_neg hb']
        rfl
      · rintro G' rfl
        have e : (lw ss (.b f' p q)).d = .tuple (.str f' :: if (lw ss q).lt ss (lw ss p) = true then [(lw ss q).d, (lw ss p).d] else [(lw ss p).d, (lw ss q).d]) := by
          rw [lw_b]
          rw [show ss.tw f' = true from by rw [← htw, ← etw] <;> rfl]
          by_cases hb : (lw ss q).lt ss (lw ss p) = true
          · simp [hb, Tm.d]
          · simp [hb, Tm.d]
        rw [e]
        refine bd_ret (ed_tup (ds := .str f' :: if (lw ss q).lt ss (lw ss p) = true then [(lw ss q).d, (lw ss p).d] else [(lw ss p).d, (lw ss q).d]) (ad_cons (ed_ix (ed_v 1) ed_int (ix_t (atI_nat (i := 0) rfl))) (ad_star (.inl (ed_v 2)) ad_nil)) (by simp) (by split <;> simp)) rfl
omit B T in
theorem fd_are_alike {n k : Nat} (D : DefAt K mg "are_alike" "are_alike" s_are_alike) (F1 : FD P w K mg base k "least_writing" P_least_writing (R_least_writing n)) : FD P w K mg base (k + 1) "are_alike" P_are_alike (R_are_alike n) := by
  refine fd_mk D (fun F => bn_are_alike F) fun f fd F => fn_mk F sc_are_alike (fun ms d ⟨_, _, _, _, _, _, _, _, _, h, _⟩ => by rw [h]; rfl) fun cdv A outer s H E ms d hr ⟨ss, p, q, g, op, oq, dp, dq, hn, h1, h2⟩ => ?_
  subst h1 h2
  refine bd_ret (ed_cmp (ed_call F1 hr (ad_cons (ed_v 0) (ad_cons (ed_v 1) ad_nil)) ⟨ss, p, g, op, dp, hn, rfl, rfl⟩) (ed_call F1 hr (ad_cons (ed_v 0) (ad_cons (ed_v 2) ad_nil)) ⟨ss, q, g, oq, dq, hn, rfl, rfl⟩)
    (cmp_eqD (room64 hr) (shaped_d g (ok_lw p op) (by rw [dep_lw]; omega)) (shaped_d g (ok_lw q oq) (by rw [dep_lw]; omega)))) ?_
  show PyData.bool _ = .bool _
  rw [eqv_d]
end
end Tw

set_option maxHeartbeats 4000000
namespace Tw
open PySem PySem.Spec L2
open PyProof.Rows hiding St
def R_conclusion_after (n : Nat) : List Dm → PyData → Prop := fun ms d => ∃ (ss : Sg) (ax : PyData) (cs : List Pr) (l : Ln) (c : Pr), ss.Good ∧ n ≤ 64 ∧ Co ss n cs l c ∧ ms = [.sig ss, .d ax, .bor (cs.map Pr.d), .d l.d] ∧ d = Pr.d c
def R_conclusions (n : Nat) : List Dm → PyData → Prop := fun ms d => ∃ (ss : Sg) (ls : List Ln) (cs : List Pr), ss.Good ∧ n ≤ 64 ∧ Dv ss n ls cs ∧ ls.length ≤ 10000 ∧ ms = [.sig ss, .d (.list []), .d (.tuple (ls.map Ln.d))] ∧ d = .tuple (cs.map Pr.d)
section
variable {P : Program} {w : World} {K : PySem.W.Frag} {mg : Str → Option Value} {base : Heap} (B : Bi mg)
include B
theorem fd_conclusion_after {n k : Nat} (D : DefAt K mg "conclusion_after" "conclusion_after" s_conclusion_after) (F1 : FD P w K mg base k "same_pair" P_same_pair (R_same_pair n)) (F2 : FD P w K mg base k "turn_pair" P_turn_pair (R_turn_pair n)) (F3 : FD P w K mg base 1 "item_at" P_item_at R_item_at)
    (F4 : FD P w K mg base 1 "chain_pair" P_chain_pair R_chain_pair) (F5 : FD P w K mg base 2 "within_pair" P_within_pair R_within_pair) (hk : 2 ≤ k) : FD P w K mg base (k + 1) "conclusion_after" P_conclusion_after (R_conclusion_after n) := by
  refine fd_mk D (fun F => bn_conclusion_after F) fun f fd F => fn_mk F sc_conclusion_after (fun ms d ⟨_, _, _, _, _, _, _, _, h, _⟩ => by rw [h]; rfl) fun cdv A outer s H E ms d hr ⟨ss, ax, cs, l, c, g, hn, hc, h1, h2⟩ => ?_
  subst h1 h2
  have hN := sc_conclusion_after.nd
  have hr1 : Room 1 (A.deeper (envOfC "conclusion_after" (defScope s_conclusion_after) s.heap.objs.size f cdv)) := hr.mono (by omega)
  have hit : ∀ {i : Nat} {q : Pr}, cs[i]? = some q → (cs.map Pr.d)[i]? = some (Pr.d q) := fun h => by rw [List.getElem?_map, h] <;> rfl
  cases hc with
  | same t o hd =>
    refine bd_setStar 4 5 (d := .str "same") (ds := [t.d]) (ed_v 3) (by simp) ?_ hN
    refine bd_match (z := "same") (ed_v 4) (cd_no (by decide) (cd_yes (td_cmpT (ed_len B (ed_v 5) len_l) ed_int cmp_eqI rfl) ?_))
    exact bd_ret (ed_call F1 hr (ad_cons (ed_v 0) (ad_cons (ed_ix (ed_v 5) ed_int (ix_l (atI_nat (i := 0) rfl))) ad_nil)) ⟨ss, t, g, o, hd, rfl, rfl⟩) rfl
  | turn i y p q hi ht op oq dp dq =>
    refine bd_setStar 4 5 (d := .str "turn") (ds := [.str y.n, p.d, q.d]) (ed_v 3) (by simp) ?_ hN
    refine bd_match (z := "turn") (ed_v 4) (cd_no (by decide) (cd_no (by decide) (cd_yes (td_cmpT (ed_len B (ed_v 5) len_l) ed_int cmp_eqI rfl) ?_)))
    exact bd_ret (ed_callS F2 hr (ad_cons (ed_v 0) (ad_star (.inl (ed_v 5)) ad_nil)) ⟨ss, i, y, p, q, g, hi, ht, op, oq, dp, dq, rfl, rfl⟩) rfl
  | chain i j a b c ob db h1 h2 =>
    refine bd_setStar 4 5 (d := .str "chain") (ds := [.int (i : Nat), .int (j : Nat)]) (ed_v 3) (by simp) ?_ hN
    refine bd_match (z := "chain") (ed_v 4) (cd_no (by decide) (cd_no (by decide) (cd_no (by decide) (cd_no (by decide) (cd_yes (td_cmpT (ed_len B (ed_v 5) len_l) ed_int cmp_eqI rfl) ?_)))))
    exact bd_ret (ed_call F4 hr1 (ad_cons (ed_call F3 hr1 (ad_cons (ed_v 2) (ad_cons (ed_ix (ed_v 5) ed_int (ix_l (atI_nat (i := 0) rfl))) ad_nil)) ⟨_, i, hit h1, rfl⟩) (ad_cons (ed_call F3 hr1 (ad_cons (ed_v 2) (ad_cons (ed_ix (ed_v 5) ed_int (ix_l (atI_nat (i := 1) rfl))) ad_nil)) ⟨_, j, hit h2, rfl⟩) ad_nil))
      ⟨a.d, b.d, c.d, shaped_d g ob (by omega), by rw [eqv_d]; simp, rfl, rfl⟩) rfl
  | within i y ns qs hi hq hl hy hm =>
    refine bd_setStar 4 5 (d := .str "within") (ds := .str y.n :: ns.map fun n : Nat => .int (n : Nat)) (ed_v 3) (by simp; omega) ?_ hN
    refine bd_match (z := "within") (ed_v 4) (cd_no (by decide) (cd_no (by decide) (cd_no (by decide) (cd_no (by decide) (cd_no (by decide) (cd_yes (td_cmpT (ed_len B (ed_v 5) len_l) ed_int cmp_gt (decide_eq_true (by rw [List.length_cons]; omega))) ?_))))))
    have e1 : Pr.d (mkT y.n (qs.map (·.1)), mkT y.n (qs.map (·.2))) = .tuple [.tuple (.str y.n :: (qs.map fun q => (q.1.d, q.2.d)).map (·.1)), .tuple (.str y.n :: (qs.map fun q => (q.1.d, q.2.d)).map (·.2))] := by
      show PyData.tuple [_, _] = _
      rw [mkT_d (by simp; omega), mkT_d (by simp; omega)]
      simp [Function.comp_def]
    refine bd_ret (ed_call F5 (hr.mono hk) (ad_cons (ed_v 0) (ad_cons (ed_ix (ed_v 5) ed_int (ix_l (atI_nat (i := 0) rfl))) (ad_cons (ed_comp 6 (zs := qs.map Pr.d) (it_l (ed_sl (ed_v 5) (od_some ed_int) od_none (sl_l cut1))) (fun k z hk hz s H C cl fp => ?_) (by simp; omega) hN (by simp; omega)) ad_nil)))
      ⟨ss, i, y, qs.map fun q => (q.1.d, q.2.d), hi, by simpa using hq, hy, by rw [List.map_map]; rfl, e1⟩) rfl
    rw [List.length_map] at hk
    obtain ⟨m, hm1⟩ : ∃ m, ns[k]? = some m := ⟨_, List.getElem?_eq_getElem hk⟩
    obtain ⟨q, hq1, hq2⟩ := hm k m hm1
    rw [List.getElem?_map, hq1] at hz
    cases hz
    rw [nth_map hm1]
    exact ed_call F3 hr1 (ad_cons (ed_v 2) (ad_cons (ed_v 6) ad_nil)) ⟨_, m, hit hq2, rfl⟩
theorem fd_conclusions {n k : Nat} (D : DefAt K mg "conclusions" "conclusions" s_conclusions) (F1 : FD P w K mg base k "conclusion_after" P_conclusion_after (R_conclusion_after n)) : FD P w K mg base (k + 1) "conclusions" P_conclusions (R_conclusions n) := by
  refine fd_mk D (fun F => bn_conclusions F) fun f fd F => fn_mk F sc_conclusions (fun ms d ⟨_, _, _, _, _, _, _, h, _⟩ => by rw [h]; rfl) fun cdv A outer s H E ms d hr ⟨ss, ls, cs, g, hn, hv, hl, h1, h2⟩ => ?_
  subst h1 h2
  have hN := sc_conclusions.nd
  have hlen := hv.len
  refine bd_setO 3 (ds := []) ad_nil ?_ hN
  refine bd_for (fun i G => (G.set 4 (.val (.d (.int (i : Nat))))).set 5 (.val (.d (nthP (ls.map Ln.d) i)))) (fun i G' => ∃ y z u, G' = [.val (.sig ss), .val (.d (.list [])), .val (.d (.tuple (ls.map Ln.d))), .own ((cs.take i).map Pr.d), y, z, u]) (it_et (ed_v 2) B.enm) (pgT2 4 5 hN) (fun i hi => tg_tup (tgs_cons (tg_n 4) (tgs_cons (tg_n 5) tgs_nil))) ⟨.no, .no, .no, rfl⟩ ?_ ?_
  · rintro i G' hi ⟨y, z, u, rfl⟩
    rw [List.length_map] at hi
    obtain ⟨l, h1⟩ : ∃ l, ls[i]? = some l := ⟨_, List.getElem?_eq_getElem hi⟩
    obtain ⟨c, h2, h3⟩ := hv.at i l h1
    rw [nth_map h1]
    refine bd_set 6 (ed_call F1 hr (ad_cons (ed_v 0) (ad_cons (ed_v 1) (ad_cons (ed_o 3) (ad_cons (ed_v 5) ad_nil)))) ⟨ss, _, cs.take i, l, c, g, hn, h3, rfl, rfl⟩) ?_ hN
    refine bd_ifF (td_cmp (ed_v 6) ed_non cmp_isN) ?_
    refine bd_app 3 (ed_v 6) (bd_nil ⟨.val (.d (.int (i : Nat))), .val (.d l.d), .val (.d (Pr.d c)), ?_⟩) rfl (by simp; omega)
    show _ = _
    rw [List.take_succ, h2, List.map_append]
    rfl
  · rintro G' ⟨y, z, u, rfl⟩
    refine bd_ret (ed_ttup B (ed_o 3) tup_b) ?_
    show PyData.tuple _ = .tuple _
    rw [List.length_map, List.take_of_length_le (by omega)]
end
end Tw

set_option maxHeartbeats 4000000
namespace Tw
open PySem PySem.Spec L2
open PyProof.Rows hiding St
section
variable {X : Cx} {G : List En} {e o : Expr} {l p : Addr} {st : Ss} {ss : Sg} {d : PyData} {p1 apos cpos : Pos}
/-- self.pairs.append(e), self.lines.append(e) -/
theorem em_appP (F : DF X.K) (ho : ED X G o (.der l p ss)) (he : EP X l p G st e (.d d)) (hz : st.2.length < 100000) (hb : attributeBase o "pairs" X.env (eval o X.env) = eval o X.env := by rfl)
    (hbase : attributeBase (.Attribute o "pairs" p1) "append" X.env (eval (.Attribute o "pairs" p1) X.env) = eval (.Attribute o "pairs" p1) X.env := by rfl)
    (hfew : ((backTo cpos (starEach [e] X.env)).all (fun x => !x.1) && (backToKw cpos (keywordEach [] X.env)).all (fun x => x.1.isSome) && decide (([e] : List Expr).length + ([] : List Keyword).length + (if ([] : List Keyword).isEmpty then 0 else 1) < 30)) = true := by rfl)
    (hline : (apos.endLine == cpos.line) = true := by rfl) (hs : starEach [e] X.env = [(false, eval e X.env)] := by rfl) : EM X l p G st (.Call (.Attribute (.Attribute o "pairs" p1) "append" apos) [e] [] cpos) (.d .none) (st.1, st.2 ++ [d]) := by
  refine ⟨fun pins s σ H Q I ⟨W, E, L, k⟩ => (pe_bm PySem.F.plainAttrs_list PySem.F.slot_list_append PySem.F.type_list_append mt_append (pe_fld ho hb) (pa_cons he pa_nil hs) hbase hfew hline hs rfl).run pins s σ H Q I ⟨[], W, E, fun v H1 s1 r1 => ?_⟩⟩
  obtain ⟨b, dx, x, sv, h1, h2, h3, h4⟩ := r1
  have L1 := L.mono s1
  have L1' := L1
  obtain ⟨l1, l2, l3, lv, pv, l4, l5, l6, l7⟩ := L1
  refine ⟨b, _, dx, _, .ref p, h1, (hm_get h2).2, F.cls, F.par, lk_par, .inl ⟨rfl, pv, SqL.of l5⟩, W, E.mono s1, L1', fun u H2 s2 r2 => ?_⟩
  have e0 : Hm (upd H2 p (.lst (pv ++ [u]))) W = Hm H2 W := hm_upd l3
  refine ⟨p, pv, u, rfl, rfl, s2 _ _ l5, by rw [daa_len l7]; exact sz100L hz, k _ _ (fun a o n1 n2 h => ?_) ⟨l1, l2, l3, lv, pv ++ [u], ?_, upd_same, ?_, ?_⟩ .non⟩
  · rw [upd_ne n2]
    exact s2 _ _ (s1 _ _ h)
  · rw [upd_ne l1]
    exact s2 _ _ l4
  · rw [e0]
    exact daa_mono (same_hm s2 fun _ h => h) l6
  · rw [e0]
    exact daa_app (daa_mono (same_hm s2 fun _ h => h) l7) (.cons r2 .nil)
theorem em_appL (F : DF X.K) (ho : ED X G o (.der l p ss)) (he : EP X l p G st e (.d d)) (hz : st.1.length < 100000) (hb : attributeBase o "lines" X.env (eval o X.env) = eval o X.env := by rfl)
    (hbase : attributeBase (.Attribute o "lines" p1) "append" X.env (eval (.Attribute o "lines" p1) X.env) = eval (.Attribute o "lines" p1) X.env := by rfl)
    (hfew : ((backTo cpos (starEach [e] X.env)).all (fun x => !x.1) && (backToKw cpos (keywordEach [] X.env)).all (fun x => x.1.isSome) && decide (([e] : List Expr).length + ([] : List Keyword).length + (if ([] : List Keyword).isEmpty then 0 else 1) < 30)) = true := by rfl)
    (hline : (apos.endLine == cpos.line) = true := by rfl) (hs : starEach [e] X.env = [(false, eval e X.env)] := by rfl) : EM X l p G st (.Call (.Attribute (.Attribute o "lines" p1) "append" apos) [e] [] cpos) (.d .none) (st.1 ++ [d], st.2) := by
  refine ⟨fun pins s σ H Q I ⟨W, E, L, k⟩ => (pe_bm PySem.F.plainAttrs_list PySem.F.slot_list_append PySem.F.type_list_append mt_append (pe_fld ho hb) (pa_cons he pa_nil hs) hbase hfew hline hs rfl).run pins s σ H Q I ⟨[], W, E, fun v H1 s1 r1 => ?_⟩⟩
  obtain ⟨b, dx, x, sv, h1, h2, h3, h4⟩ := r1
  have L1 := L.mono s1
  have L1' := L1
  obtain ⟨l1, l2, l3, lv, pv, l4, l5, l6, l7⟩ := L1
  refine ⟨b, _, dx, _, .ref l, h1, (hm_get h2).2, F.cls, F.lin, lk_lin, .inl ⟨rfl, lv, SqL.of l4⟩, W, E.mono s1, L1', fun u H2 s2 r2 => ?_⟩
  have e0 : Hm (upd H2 l (.lst (lv ++ [u]))) W = Hm H2 W := hm_upd l2
  refine ⟨l, lv, u, rfl, rfl, s2 _ _ l4, by rw [daa_len l6]; exact sz100L hz, k _ _ (fun a o n1 n2 h => ?_) ⟨l1, l2, l3, lv ++ [u], pv, upd_same, ?_, ?_, ?_⟩ .non⟩
  · rw [upd_ne n1]
    exact s2 _ _ (s1 _ _ h)
  · rw [upd_ne (Ne.symm l1)]
    exact s2 _ _ l5
  · rw [e0]
    exact daa_app (daa_mono (same_hm s2 fun _ h => h) l6) (.cons r2 .nil)
  · rw [e0]
    exact daa_mono (same_hm s2 fun _ h => h) l7
end
/-! ### put and its kin -/
abbrev Sx (ls : List Ln) (cs : List Pr) : Ss := (ls.map Ln.d, cs.map Pr.d)
def PutR (ss : Sg) (n : Nat) (st : Ss) (l : Ln) (d : PyData) (st' : Ss) : Prop := ∃ (ls : List Ln) (cs : List Pr) (c : Pr), ss.Good ∧ n ≤ 64 ∧ Co ss n cs l c ∧ ls.length = cs.length ∧ ls.length < 10000 ∧ st = Sx ls cs ∧ d = .int (ls.length : Nat) ∧ st' = Sx (ls ++ [l]) (cs ++ [c])
def R_put (n : Nat) (ss : Sg) (ms : List Dm) (st : Ss) (d : PyData) (st' : Ss) : Prop := ∃ l : Ln, ms = [.d l.d] ∧ PutR ss n st l d st'
def R_same (n : Nat) (ss : Sg) (ms : List Dm) (st : Ss) (d : PyData) (st' : Ss) : Prop := ∃ t : Tm, ms = [.d t.d] ∧ PutR ss n st (.same t) d st'
def R_turn (n : Nat) (ss : Sg) (ms : List Dm) (st : Ss) (d : PyData) (st' : Ss) : Prop := ∃ (f : Str) (p q : Tm), ms = [.d (.str f), .d p.d, .d q.d] ∧ PutR ss n st (.turn f p q) d st'
def R_chain (n : Nat) (ss : Sg) (ms : List Dm) (st : Ss) (d : PyData) (st' : Ss) : Prop := ∃ i j : Nat, ms = [.d (.int (i : Nat)), .d (.int (j : Nat))] ∧ PutR ss n st (.chain i j) d st'
def R_within (n : Nat) (ss : Sg) (ms : List Dm) (st : Ss) (d : PyData) (st' : Ss) : Prop := ∃ (f : Str) (ns : List Nat), ns.length ≤ 2 ∧ ms = [.d (.str f), .d (.list (ns.map fun n : Nat => .int (n : Nat)))] ∧ PutR ss n st (.within f ns) d st'
def sameL (s t : Tm) (ss : Sg) : Bool := decide (s.args.map (lw ss) = t.args.map (lw ss))
def R_are_straight (n : Nat) : List Dm → PyData → Prop := fun ms d => ∃ (l p : Addr) (ss : Sg) (s t : Tm), ss.Good ∧ n ≤ 64 ∧ Ok ss s ∧ Ok ss t ∧ s.isV = false ∧ t.isV = false ∧ s.args.length = t.args.length ∧ s.dep ≤ n ∧ t.dep ≤ n ∧ ms = [.der l p ss, .d s.d, .d t.d] ∧ d = .bool (sameL s t ss)
section
variable {P : Program} {w : World} {K : PySem.W.Frag} {mg : Str → Option Value} {base : Heap} (B : Bi mg) (DFs : DF K)
theorem mm_mk {k : Nat} {m q : Str} {st : Stmt} {ps : List Str} {R : Sg → List Dm → Ss → PyData → Ss → Prop} (D : MethAt K (derC K) m q st) (hb : ∀ {f fd}, FnP K m q st f fd → Binds K fd ps [])
    (h : ∀ f fd, FnP K m q st f fd → FnOk P w K mg base CX0 k f fd ps (spM K R)) : MM P w K mg base k m ps R :=
  let ⟨f, fd, F, m⟩ := D.ex; ⟨f, fd, h f fd F, m, hb F⟩
include B DFs
theorem mm_put {n k : Nat} (D : MethAt K (derC K) "put" "Derivation.put" s_D_put) (F1 : FD P w K mg base k "conclusion_after" P_conclusion_after (R_conclusion_after n)) : MM P w K mg base (k + 1) "put" P_D_put (R_put n) := by
  refine mm_mk D (fun F => bn_D_put F) fun f fd F => fn_mkM F sc_D_put (fun ss ms st d st' ⟨_, h, _⟩ => by rw [h]; rfl) fun cdv A outer s H E l p ss ms st d st' hr ⟨li, h1, ls, cs, c, g, hn, hc, hl, hz, h2, h3, h4⟩ hm => ?_
  subst h1 h2 h3 h4
  have nb : noBorG (envN N_D_put [.der l p ss, .d li.d]) := nb_of rfl
  refine bm_drop nb (em_appP DFs (ed_v 0) (ep_call F1 hr (ap_cons (ep_ed (ed_fsig DFs (ed_v 0))) (ap_cons (ep_ed (ed_faxi DFs (ed_v 0))) (ap_cons (ep_par DFs (ed_v 0)) (ap_cons (ep_ed (ed_v 1)) ap_nil)))) ⟨ss, _, cs, li, c, g, hn, hc, rfl, rfl⟩) (by simp; omega)) ?_
  refine bm_drop nb (em_appL DFs (ed_v 0) (ep_ed (ed_v 1)) (by simp; omega)) ?_
  refine bm_ret (em_ep (ep_sub (ep_callB (ap_cons (ep_lin DFs (ed_v 0)) ap_nil) len_b B.len PySem.boot_len) ed_int)) ⟨?_, ?_⟩
  · show PyData.int _ = .int _
    simp
  · simp [Sx]
omit B in
theorem mm_same {n k : Nat} (D : MethAt K (derC K) "same" "Derivation.same" s_D_same) (F1 : MM P w K mg base k "put" P_D_put (R_put n)) : MM P w K mg base (k + 1) "same" P_D_same (R_same n) := by
  refine mm_mk D (fun F => bn_D_same F) fun f fd F => fn_mkM F sc_D_same (fun ss ms st d st' ⟨_, h, _⟩ => by rw [h]; rfl) fun cdv A outer s H E l p ss ms st d st' hr ⟨t, h1, h2⟩ hm => ?_
  subst h1
  have nb : noBorG (envN N_D_same [.der l p ss, .d t.d]) := nb_of rfl
  exact bm_ret (em_meth F1 DFs nb hr (ed_v 0) (am_cons nb (em_ed (ed_t2 (ad_cons ed_str (ad_cons (ed_v 1) ad_nil)))) am_nil) rfl ⟨.same t, rfl, h2⟩) ⟨rfl, rfl⟩
omit B in
theorem mm_turn {n k : Nat} (D : MethAt K (derC K) "turn" "Derivation.turn" s_D_turn) (F1 : MM P w K mg base k "put" P_D_put (R_put n)) : MM P w K mg base (k + 1) "turn" P_D_turn (R_turn n) := by
  refine mm_mk D (fun F => bn_D_turn F) fun f fd F => fn_mkM F sc_D_turn (fun ss ms st d st' ⟨_, _, _, h, _⟩ => by rw [h]; rfl) fun cdv A outer s H E l p ss ms st d st' hr ⟨x, a, b, h1, h2⟩ hm => ?_
  subst h1
  have nb : noBorG (envN N_D_turn [.der l p ss, .d (.str x), .d a.d, .d b.d]) := nb_of rfl
  exact bm_ret (em_meth F1 DFs nb hr (ed_v 0) (am_cons nb (em_ed (ed_t4 (ad_cons ed_str (ad_cons (ed_v 1) (ad_cons (ed_v 2) (ad_cons (ed_v 3) ad_nil)))))) am_nil) rfl ⟨.turn x a b, rfl, h2⟩) ⟨rfl, rfl⟩
omit B in
theorem mm_chain {n k : Nat} (D : MethAt K (derC K) "chain" "Derivation.chain" s_D_chain) (F1 : MM P w K mg base k "put" P_D_put (R_put n)) : MM P w K mg base (k + 1) "chain" P_D_chain (R_chain n) := by
  refine mm_mk D (fun F => bn_D_chain F) fun f fd F => fn_mkM F sc_D_chain (fun ss ms st d st' ⟨_, _, h, _⟩ => by rw [h]; rfl) fun cdv A outer s H E l p ss ms st d st' hr ⟨i, j, h1, h2⟩ hm => ?_
  subst h1
  have nb : noBorG (envN N_D_chain [.der l p ss, .d (.int (i : Nat)), .d (.int (j : Nat))]) := nb_of rfl
  exact bm_ret (em_meth F1 DFs nb hr (ed_v 0) (am_cons nb (em_ed (ed_t3 (ad_cons ed_str (ad_cons (ed_v 1) (ad_cons (ed_v 2) ad_nil))))) am_nil) rfl ⟨.chain i j, rfl, h2⟩) ⟨rfl, rfl⟩
theorem mm_within {n k : Nat} (D : MethAt K (derC K) "within" "Derivation.within" s_D_within) (F1 : MM P w K mg base k "put" P_D_put (R_put n)) : MM P w K mg base (k + 1) "within" P_D_within (R_within n) := by
  refine mm_mk D (fun F => bn_D_within F) fun f fd F => fn_mkM F sc_D_within (fun ss ms st d st' ⟨_, _, _, h, _⟩ => by rw [h]; rfl) fun cdv A outer s H E l p ss ms st d st' hr ⟨x, ns, hns, h1, h2⟩ hm => ?_
  subst h1
  have nb : noBorG (envN N_D_within [.der l p ss, .d (.str x), .d (.list (ns.map fun n : Nat => .int (n : Nat)))]) := nb_of rfl
  exact bm_ret (em_meth F1 DFs nb hr (ed_v 0) (am_cons nb (em_ed (ed_ttup B (ed_bin (ed_l2 (ad_cons ed_str (ad_cons (ed_v 1) ad_nil))) (ed_tlst B (ed_v 2) lst_l) (bin_addL (by simp; omega))) tup_l)) am_nil) rfl ⟨.within x ns, rfl, h2⟩) ⟨rfl, rfl⟩
theorem md_are_straight {n k : Nat} (D : MethAt K (derC K) "are_straight" "Derivation.are_straight" s_D_are_straight) (F1 : FD P w K mg base k "are_alike" P_are_alike (R_are_alike n)) : MD P w K mg base (k + 1) (derC K) "are_straight" P_D_are_straight (R_are_straight n) := by
  refine md_mk D (fun F => bn_D_are_straight F) fun f fd F => fn_mk F sc_D_are_straight (fun ms d ⟨_, _, _, _, _, _, _, _, _, _, _, _, _, _, h, _⟩ => by rw [h]; rfl) fun cdv A outer sh H E ms d hr ⟨l, p, ss, s, t, g, hn, os, ot, vs, vt, hlen, ds, dt, h1, h2⟩ => ?_
  subst h1 h2
  have hN := sc_D_are_straight.nd
  have la := args_le s
  rw [d_ap vs, d_ap vt]
  have hat : ∀ {u a : Tm} {i : Nat}, u.args[i]? = some a → atI (PyData.str u.hd :: u.args.map Tm.d) (1 + (i : Nat)) = some a.d := fun {u a i} h => by
    rw [show (1 + (i : Nat) : Int) = ((i + 1 : Nat) : Int) by omega]
    refine atI_nat ?_
    rw [List.getElem?_cons_succ, List.getElem?_map, h]
    rfl
  refine bd_for (fun i G => G.set 3 (.val (.d (.int (1 + (i : Nat)))))) (fun i G' => (∃ z, G' = [.val (.der l p ss), .val (.d (.tuple (.str s.hd :: s.args.map Tm.d))), .val (.d (.tuple (.str t.hd :: t.args.map Tm.d))), z]) ∧ ∀ (j : Nat) (a b : Tm), j < i → s.args[j]? = some a → t.args[j]? = some b → lw ss a = lw ss b)
    (it_r2 ed_int (ed_len B (ed_v 1) len_t) B.rng (by decide) (by decide) (by simp; omega) (by simp; omega)) (pgN 3 hN) (fun i hi => tg_n 3) ⟨⟨.no, rfl⟩, fun j a b h => absurd h (Nat.not_lt_zero _)⟩ ?_ ?_
  · rintro i G' hi ⟨⟨z, rfl⟩, hk⟩
    have hi' : i < s.args.length := by
      simp at hi
      omega
    obtain ⟨a, ha⟩ : ∃ a, s.args[i]? = some a := ⟨_, List.getElem?_eq_getElem hi'⟩
    obtain ⟨b, hb⟩ : ∃ b, t.args[i]? = some b := ⟨_, List.getElem?_eq_getElem (hlen ▸ hi')⟩
    obtain ⟨oa, da, _⟩ := ok_arg os (List.mem_of_getElem? ha)
    obtain ⟨ob, db, _⟩ := ok_arg ot (List.mem_of_getElem? hb)
    refine bd_ifR (td_not (td_val (ed_call F1 hr (ad_cons (ed_fsig DFs (ed_v 0)) (ad_cons (ed_ix (ed_v 1) (ed_v 3) (ix_t (hat ha))) (ad_cons (ed_ix (ed_v 2) (ed_v 3) (ix_t (hat hb))) ad_nil))) ⟨ss, a, b, g, oa, ob, by omega, by omega, hn, rfl, rfl⟩))) (fun hc => bd_ret ed_bl ?_) fun hc => bd_nil ⟨⟨_, rfl⟩, fun j a' b' hj h1 h2 => ?_⟩
    · show PyData.bool false = .bool (sameL s t ss)
      refine congrArg _ (Eq.symm (decide_eq_false fun e => ?_))
      have q1 : (s.args.map (lw ss))[i]? = some (lw ss a) := by rw [List.getElem?_map, ha] <;> rfl
      have q2 : (t.args.map (lw ss))[i]? = some (lw ss b) := by rw [List.getElem?_map, hb] <;> rfl
      rw [e, q2] at q1
      have := Option.some.inj q1
      simp [this] at hc
    · rcases Nat.lt_succ_iff_lt_or_eq.mp hj with h | h
      · exact hk j a' b' h h1 h2
      · subst h
        rw [ha] at h1
        rw [hb] at h2
        cases h1
        cases h2
        simpa using hc
  · rintro G' ⟨⟨z, rfl⟩, hk⟩
    refine bd_ret ed_bl ?_
    show PyData.bool true = .bool (sameL s t ss)
    refine congrArg _ (Eq.symm (decide_eq_true ?_))
    apply List.ext_getElem
    · simpa using hlen
    · intro i h1 h2
      rw [List.getElem_map, List.getElem_map]
      rw [List.length_map] at h1 h2
      exact hk i _ _ (by simp; omega) (List.getElem?_eq_getElem h1) (List.getElem?_eq_getElem h2)
end
end Tw

set_option maxHeartbeats 4000000
namespace Tw
open PySem PySem.Spec L2
open PyProof.Rows hiding St
theorem it_tail {X : Cx} {G : List En} {tg e : Expr} {x : PyData} {xs : List PyData} {j1} {p0 p1 p2 pos pos2 : Pos} (B : Bi X.mg) (h : ED X G e (.d (.tuple (x :: xs)))) (hz : xs.length ≤ 100000 := by simp) (hg : Gl X "range" := by rfl) (hg2 : Gl X "len" := by rfl)
    (hs : starEach [.Constant (.int 1) j1 p0, .Call (.Name "len" p2) [e] [] pos2] X.env = [(false, eval (.Constant (.int 1) j1 p0) X.env), (false, eval (.Call (.Name "len" p2) [e] [] pos2) X.env)] := by rfl) (hs2 : starEach [.Call (.Name "len" p2) [e] [] pos2] X.env = [(false, eval (.Call (.Name "len" p2) [e] [] pos2) X.env)] := by rfl)
    (he : starEach [e] X.env = (false, eval e X.env) :: starEach [] X.env := by rfl) (hpl : (backTo pos2 (starEach [] X.env)).any (·.1) = false := by rfl) :
    ItD X G tg (.Call (.Name "range" p1) [.Constant (.int 1) j1 p0, .Call (.Name "len" p2) [e] [] pos2] [] pos) xs.length (fun i => .int (1 + (i : Nat))) := by
  have q := it_r2 (tg := tg) (p := p1) (pos := pos) (ed_int (i := 1) (j := j1) (pos := p0)) (ed_len B h len_t hg2 he hpl) B.rng (by decide) (by decide) (by rw [List.length_cons]; omega) (by rw [List.length_cons]; omega) hg hs hs2
  have e : ((((x :: xs).length : Nat) : Int) - 1).toNat = xs.length := by rw [List.length_cons]; omega
  rw [e] at q
  exact q
def R_likeness (M n : Nat) (ss : Sg) (ms : List Dm) (st : Ss) (d : PyData) (st' : Ss) : Prop := ∃ (ls : List Ln) (cs : List Pr) (s t : Tm) (cs' : List Pr), ss.Good ∧ M ≤ 64 ∧ n ≤ M ∧ Ok ss s ∧ Ok ss t ∧ s.dep ≤ n ∧ t.dep ≤ n ∧ lw ss s = lw ss t ∧ Dv ss M ls cs ∧ ls.length + 3 * s.sz ≤ 9000 ∧
  ms = [.d s.d, .d t.d] ∧ st = Sx ls cs ∧ d = .int ((ls.length + (lik ss ls.length s t).length - 1 : Nat) : Int) ∧ Dv ss M (ls ++ lik ss ls.length s t) cs' ∧ st' = Sx (ls ++ lik ss ls.length s t) cs'
def sts2 (a b : Ss) : Nat → Ss
  | 0 => a
  | _ => b
def sts3 (a b c : Ss) : Nat → Ss
  | 0 => a
  | 1 => b
  | _ => c
theorem putR {ss : Sg} {M : Nat} {ls : List Ln} {cs cs' : List Pr} {l : Ln} (g : ss.Good) (hM : M ≤ 64) (dv : Dv ss M ls cs) (h : Dv ss M (ls ++ [l]) cs') (hz : ls.length < 10000) : PutR ss M (Sx ls cs) l (.int (ls.length : Nat)) (Sx (ls ++ [l]) cs') := by
  obtain ⟨c1, c, e, d1, d2⟩ := h.inv
  have := dv.uniq d1
  subst this e
  exact ⟨ls, cs, c, g, hM, d2, dv.len, hz, rfl, rfl, rfl⟩
section
variable {P : Program} {w : World} {K : PySem.W.Frag} {mg : Str → Option Value} {base : Heap} (B : Bi mg) (DFs : DF K)
include B DFs
theorem mm_likeness {M : Nat} (D : MethAt K (derC K) "likeness" "Derivation.likeness" s_D_likeness) (Fs : MM P w K mg base (M + 9) "same" P_D_same (R_same M)) (Ft : MM P w K mg base (M + 9) "turn" P_D_turn (R_turn M)) (Fc : MM P w K mg base (M + 9) "chain" P_D_chain (R_chain M)) (Fw : MM P w K mg base (M + 9) "within" P_D_within (R_within M))
    (Fa : MD P w K mg base (M + 9) (derC K) "are_straight" P_D_are_straight (R_are_straight M)) : ∀ n, n ≤ M → MM P w K mg base (n + M + 10) "likeness" P_D_likeness (R_likeness M n) := by
  intro n
  induction n using Nat.strongRecOn with
  | ind n ih =>
  intro hnM
  refine mm_mk D (fun F => bn_D_likeness F) fun f fd F => fn_mkM F sc_D_likeness (fun ss ms st d st' ⟨_, _, _, _, _, _, _, _, _, _, _, _, _, _, _, h, _⟩ => by rw [h]; rfl) fun cdv A outer sh H E l p ss ms st d st' hr ⟨ls, cs, s, t, cs', g, hM, hn, os, ot, ds, dt, hl, dv, hz, h1, h2, h3, dv', h4⟩ hm => ?_
  subst h1 h2 h3 h4
  have hN := sc_D_likeness.nd
  have nb : noBorG (envN N_D_likeness [.der l p ss, .d s.d, .d t.d]) := nb_of rfl
  have hr9 : Room (M + 9) (A.deeper (envOfC "Derivation.likeness" (defScope s_D_likeness) sh.heap.objs.size f cdv)) := hr.mono (by omega)
  refine bm_ifR (td_is (td_cmp (ed_v 1) (ed_v 2) (cmp_eqD (room64 hr) (shaped_d g os (by omega)) (shaped_d g ot (by omega)))) (eqv_d s t)) (fun hb => ?_) fun hb => ?_
  · have e : s = t := of_decide_eq_true hb
    subst e
    rw [lik_same] at dv' ⊢
    exact bm_ret (em_meth Fs DFs nb hr9 (ed_v 0) (am_cons nb (em_ed (ed_v 1)) am_nil) rfl ⟨s, rfl, putR g hM dv dv' (by omega)⟩) ⟨by simp, rfl⟩
  have hne : s ≠ t := of_decide_eq_false hb
  have hlik : ∀ {a b : Tm} {ls1 : List Ln} {cs1 cs2 : List Pr}, Ok ss a → Ok ss b → a.dep + 1 ≤ n → b.dep + 1 ≤ n → lw ss a = lw ss b → Dv ss M ls1 cs1 → Dv ss M (ls1 ++ lik ss ls1.length a b) cs2 → ls1.length + 3 * a.sz ≤ 9000 → R_likeness M (n - 1) ss [.d a.d, .d b.d] (Sx ls1 cs1) (.int ((ls1.length + (lik ss ls1.length a b).length - 1 : Nat) : Int)) (Sx (ls1 ++ lik ss ls1.length a b) cs2) :=
    fun {a b ls1 cs1 cs2} oa ob da db hab d1 d2 hz => ⟨ls1, cs1, a, b, cs2, g, hM, by omega, oa, ob, by omega, by omega, hab, d1, hz, rfl, rfl, rfl, d2, rfl⟩
  have hn1 : 1 ≤ n → MM P w K mg base (n - 1 + M + 10) "likeness" P_D_likeness (R_likeness M (n - 1)) := fun h => ih (n - 1) (by omega) (by omega)
  have hrr : 1 ≤ n → Room (n - 1 + M + 10) (A.deeper (envOfC "Derivation.likeness" (defScope s_D_likeness) sh.heap.objs.size f cdv)) := fun h => hr.mono (by omega)
  rcases alk_cases g hl os with e | ⟨f, a, b, rfl, rfl, hab'⟩ | ⟨f, a, b, c, e, rfl, rfl, h1, h2⟩ | ⟨f, a, b, c, e, rfl, rfl, hst, h1, h2⟩
  · exact absurd e hne
  ·
    have dep1 : 1 ≤ n := by simp only [Tm.dep] at ds; omega
    simp only [Tm.dep] at ds dt
    simp only [Tm.sz] at hz
    have hL : lik ss ls.length (.u f a) (.u f b) = lik ss ls.length a b ++ [.within f [ls.length + (lik ss ls.length a b).length - 1]] := by
      conv => lhs; unfold lik
      rw [if_neg hne]
    have hle := lik_le ss a b ls.length
    rw [hL, ← List.append_assoc] at dv'
    obtain ⟨c1, c, e1, d1, d2⟩ := dv'.inv
    refine bm_ifR (b := true) (td_val (ed_methD Fa DFs hr9 (ed_v 0) (ad_cons (ed_v 1) (ad_cons (ed_v 2) ad_nil)) ⟨l, p, ss, .u f a, .u f b, g, hM, os, ot, rfl, rfl, rfl, by simp only [Tm.dep]; omega, by simp only [Tm.dep]; omega, rfl, by simp [sameL, Tm.args, hab']⟩)) (fun _ => ?_) fun z => by cases z
    refine bm_ret (em_meth (st2 := Sx (ls ++ lik ss ls.length a b ++ [.within f [ls.length + (lik ss ls.length a b).length - 1]]) cs') Fw DFs nb hr9 (ed_v 0)
      (am_cons nb (em_ed (ed_ix (ed_v 1) ed_int (ix_t (atI_nat (i := 0) rfl)))) (am_cons nb (em_comp 6 (sts2 (Sx ls cs) (Sx (ls ++ lik ss ls.length a b) c1)) nb (zs := [.int ((ls.length + (lik ss ls.length a b).length - 1 : Nat) : Int)]) (it_tail B (x := .str f) (xs := [a.d]) (ed_v 1)) (fun i z hi hz s H C cl fp => ?_) rfl hN (by simp)) am_nil)) rfl
      ⟨f, [ls.length + (lik ss ls.length a b).length - 1], by simp, rfl, putR g hM d1 dv' (by rw [List.length_append]; omega)⟩) ⟨?_, ?_⟩
    · match i, hi with
      | 0, _ =>
        cases hz
        have nb2 : noBorG (envJ (envN N_D_likeness [.der l p ss, .d (Tm.u f a).d, .d (Tm.u f b).d]) 6 (.int (1 + ((0 : Nat) : Int)))) := nb_of rfl
        exact em_meth (hn1 dep1) DFs nb2 (hrr dep1) (ed_v 0) (am_cons nb2 (em_ed (ed_ix (ed_v 1) (ed_v 6) (ix_t rfl))) (am_cons nb2 (em_ed (ed_ix (ed_v 2) (ed_v 6) (ix_t rfl))) am_nil)) rfl (hlik os.2 ot.2 (by omega) (by omega) hab' dv d1 (by omega))
    · rw [hL]
      simp
    · rw [hL, List.append_assoc]
  ·
    have dep1 : 1 ≤ n := by simp only [Tm.dep] at ds; omega
    obtain ⟨_, oa, ob⟩ := id os
    obtain ⟨_, oc, oe⟩ := id ot
    simp only [Tm.dep] at ds dt
    simp only [Tm.sz] at hz
    have hL : lik ss ls.length (.b f a b) (.b f c e) = lik ss ls.length a c ++ lik ss (ls.length + (lik ss ls.length a c).length) b e ++ [.within f [ls.length + (lik ss ls.length a c).length - 1, ls.length + (lik ss ls.length a c).length + (lik ss (ls.length + (lik ss ls.length a c).length) b e).length - 1]] := by
      conv => lhs; unfold lik
      rw [if_neg hne, if_pos ⟨h1, h2⟩]
    generalize hL1 : lik ss ls.length a c = L1 at hL
    generalize hL2 : lik ss (ls.length + L1.length) b e = L2 at hL
    have hle1 := lik_le ss a c ls.length
    have hle2 := lik_le ss b e (ls.length + L1.length)
    rw [hL1] at hle1
    rw [hL2] at hle2
    rw [hL, ← List.append_assoc, ← List.append_assoc] at dv'
    obtain ⟨c2, _, _, d2, _⟩ := dv'.inv
    obtain ⟨c1, d1⟩ := d2.pre
    have r1 := hlik oa oc (by omega) (by omega) h1 dv (by rw [hL1]; exact d1) (by omega)
    have r2 := hlik (ls1 := ls ++ L1) ob oe (by omega) (by omega) h2 d1 (by rw [List.length_append, hL2]; exact d2) (by rw [List.length_append]; omega)
    rw [hL1] at r1
    rw [List.length_append, hL2] at r2
    refine bm_ifR (b := true) (td_val (ed_methD Fa DFs hr9 (ed_v 0) (ad_cons (ed_v 1) (ad_cons (ed_v 2) ad_nil)) ⟨l, p, ss, .b f a b, .b f c e, g, hM, os, ot, rfl, rfl, rfl, by simp only [Tm.dep]; omega, by simp only [Tm.dep]; omega, rfl, by simp [sameL, Tm.args, h1, h2]⟩)) (fun _ => ?_) fun z => by cases z
    refine bm_ret (em_meth (st2 := Sx (ls ++ L1 ++ L2 ++ [.within f [ls.length + L1.length - 1, ls.length + L1.length + L2.length - 1]]) cs') Fw DFs nb hr9 (ed_v 0)
      (am_cons nb (em_ed (ed_ix (ed_v 1) ed_int (ix_t (atI_nat (i := 0) rfl)))) (am_cons nb (em_comp 6 (sts3 (Sx ls cs) (Sx (ls ++ L1) c1) (Sx (ls ++ L1 ++ L2) c2)) nb (zs := [.int ((ls.length + L1.length - 1 : Nat) : Int), .int ((ls.length + L1.length + L2.length - 1 : Nat) : Int)]) (it_tail B (x := .str f) (xs := [a.d, b.d]) (ed_v 1)) (fun i z hi hz s H C cl fp => ?_) rfl hN (by simp)) am_nil)) rfl
      ⟨f, [ls.length + L1.length - 1, ls.length + L1.length + L2.length - 1], by simp, rfl, putR g hM d2 dv' (by rw [List.length_append, List.length_append]; omega)⟩) ⟨?_, ?_⟩
    · match i, hi with
      | 0, _ =>
        cases hz
        have nb2 : noBorG (envJ (envN N_D_likeness [.der l p ss, .d (Tm.b f a b).d, .d (Tm.b f c e).d]) 6 (.int (1 + ((0 : Nat) : Int)))) := nb_of rfl
        exact em_meth (hn1 dep1) DFs nb2 (hrr dep1) (ed_v 0) (am_cons nb2 (em_ed (ed_ix (ed_v 1) (ed_v 6) (ix_t rfl))) (am_cons nb2 (em_ed (ed_ix (ed_v 2) (ed_v 6) (ix_t rfl))) am_nil)) rfl r1
      | 1, _ =>
        cases hz
        have nb2 : noBorG (envJ (envN N_D_likeness [.der l p ss, .d (Tm.b f a b).d, .d (Tm.b f c e).d]) 6 (.int (1 + ((1 : Nat) : Int)))) := nb_of rfl
        exact em_meth (hn1 dep1) DFs nb2 (hrr dep1) (ed_v 0) (am_cons nb2 (em_ed (ed_ix (ed_v 1) (ed_v 6) (ix_t rfl))) (am_cons nb2 (em_ed (ed_ix (ed_v 2) (ed_v 6) (ix_t rfl))) am_nil)) rfl r2
    · rw [hL]
      refine congrArg (fun n : Nat => PyData.int (n : Int)) ?_
      simp only [List.length_append, List.length_cons, List.length_nil]
      omega
    · rw [hL, List.append_assoc, List.append_assoc, List.append_assoc]
  ·
    have dep1 : 1 ≤ n := by simp only [Tm.dep] at ds; omega
    obtain ⟨_, oa, ob⟩ := id os
    obtain ⟨_, oc, oe⟩ := id ot
    simp only [Tm.dep] at ds dt
    simp only [Tm.sz] at hz
    have hL : lik ss ls.length (.b f a b) (.b f c e) = [.turn f a b] ++ lik ss (ls.length + 1) b c ++ lik ss (ls.length + 1 + (lik ss (ls.length + 1) b c).length) a e ++
        [.within f [ls.length + 1 + (lik ss (ls.length + 1) b c).length - 1, ls.length + 1 + (lik ss (ls.length + 1) b c).length + (lik ss (ls.length + 1 + (lik ss (ls.length + 1) b c).length) a e).length - 1],
         .chain ls.length (ls.length + 1 + (lik ss (ls.length + 1) b c).length + (lik ss (ls.length + 1 + (lik ss (ls.length + 1) b c).length) a e).length)] := by
      conv => lhs; unfold lik
      rw [if_neg hne, if_neg hst]
    generalize hL1 : lik ss (ls.length + 1) b c = L1 at hL
    generalize hL2 : lik ss (ls.length + 1 + L1.length) a e = L2 at hL
    have hle1 := lik_le ss b c (ls.length + 1)
    have hle2 := lik_le ss a e (ls.length + 1 + L1.length)
    rw [hL1] at hle1
    rw [hL2] at hle2
    have hL' : ls ++ lik ss ls.length (.b f a b) (.b f c e) = ls ++ [.turn f a b] ++ L1 ++ L2 ++ [.within f [ls.length + 1 + L1.length - 1, ls.length + 1 + L1.length + L2.length - 1]] ++ [.chain ls.length (ls.length + 1 + L1.length + L2.length)] := by
      rw [hL]
      simp
    rw [hL'] at dv' ⊢
    obtain ⟨c3, _, _, d3, _⟩ := dv'.inv
    obtain ⟨c2, _, _, d2, _⟩ := d3.inv
    obtain ⟨c1, d1⟩ := d2.pre
    obtain ⟨c0, d0⟩ := d1.pre
    have l0 : (ls ++ [Ln.turn f a b]).length = ls.length + 1 := by simp
    have l1 : (ls ++ [Ln.turn f a b] ++ L1).length = ls.length + 1 + L1.length := by rw [List.length_append, l0]
    have l2 : (ls ++ [Ln.turn f a b] ++ L1 ++ L2).length = ls.length + 1 + L1.length + L2.length := by rw [List.length_append, l1]
    have r1 := hlik (ls1 := ls ++ [.turn f a b]) ob oc (by omega) (by omega) h2 d0 (by rw [l0, hL1]; exact d1) (by rw [l0]; omega)
    have r2 := hlik (ls1 := ls ++ [.turn f a b] ++ L1) oa oe (by omega) (by omega) h1 d1 (by rw [l1, hL2]; exact d2) (by rw [l1]; omega)
    rw [l0, hL1] at r1
    rw [l1, hL2] at r2
    have p3 := putR (l := Ln.within f [ls.length + 1 + L1.length - 1, ls.length + 1 + L1.length + L2.length - 1]) g hM d2 d3 (by rw [l2]; omega)
    rw [l2] at p3
    have l3 : (ls ++ [Ln.turn f a b] ++ L1 ++ L2 ++ [Ln.within f [ls.length + 1 + L1.length - 1, ls.length + 1 + L1.length + L2.length - 1]]).length = ls.length + 1 + L1.length + L2.length + 1 := by rw [List.length_append, l2]; rfl
    have p4 := putR (l := Ln.chain ls.length (ls.length + 1 + L1.length + L2.length)) g hM d3 dv' (by rw [l3]; omega)
    rw [l3] at p4
    have hk : ls.length + (lik ss ls.length (.b f a b) (.b f c e)).length - 1 = ls.length + 1 + L1.length + L2.length + 1 := by
      rw [hL]
      simp only [List.length_append, List.length_cons, List.length_nil]
      omega
    rw [hk]
    refine bm_ifR (b := false) (td_val (ed_methD Fa DFs hr9 (ed_v 0) (ad_cons (ed_v 1) (ad_cons (ed_v 2) ad_nil)) ⟨l, p, ss, .b f a b, .b f c e, g, hM, os, ot, rfl, rfl, rfl, by simp only [Tm.dep]; omega, by simp only [Tm.dep]; omega, rfl, ?_⟩)) (fun z => by cases z) fun _ => ?_
    · refine congrArg _ (Eq.symm (decide_eq_false fun z => hst ?_))
      simpa [Tm.args] using z
    refine bm_set 3 nb (em_meth Ft DFs nb hr9 (ed_v 0) (am_cons nb (em_ed (ed_ix (ed_v 1) ed_int (ix_t (atI_nat (i := 0) rfl)))) (am_cons nb (em_ed (ed_ix (ed_v 1) ed_int (ix_t (atI_nat (i := 1) rfl)))) (am_cons nb (em_ed (ed_ix (ed_v 1) ed_int (ix_t (atI_nat (i := 2) rfl)))) am_nil))) rfl ⟨f, a, b, rfl, putR g hM dv d0 (by omega)⟩) ?_ hN
    have nb3 : noBorG ((envN N_D_likeness [.der l p ss, .d (Tm.b f a b).d, .d (Tm.b f c e).d]).set 3 (.val (.d (.int (ls.length : Nat))))) := nb_of rfl
    refine bm_set 4 nb3 (em_meth (hn1 dep1) DFs nb3 (hrr dep1) (ed_v 0) (am_cons nb3 (em_ed (ed_ix (ed_v 1) ed_int (ix_t (atI_nat (i := 2) rfl)))) (am_cons nb3 (em_ed (ed_ix (ed_v 2) ed_int (ix_t (atI_nat (i := 1) rfl)))) am_nil)) rfl r1) ?_ hN
    have nb4 : noBorG (((envN N_D_likeness [.der l p ss, .d (Tm.b f a b).d, .d (Tm.b f c e).d]).set 3 (.val (.d (.int (ls.length : Nat))))).set 4 (.val (.d (.int ((ls.length + 1 + L1.length - 1 : Nat) : Int))))) := nb_of rfl
    refine bm_set 5 nb4 (em_meth (hn1 dep1) DFs nb4 (hrr dep1) (ed_v 0) (am_cons nb4 (em_ed (ed_ix (ed_v 1) ed_int (ix_t (atI_nat (i := 1) rfl)))) (am_cons nb4 (em_ed (ed_ix (ed_v 2) ed_int (ix_t (atI_nat (i := 2) rfl)))) am_nil)) rfl r2) ?_ hN
    have nb5 : noBorG ((((envN N_D_likeness [.der l p ss, .d (Tm.b f a b).d, .d (Tm.b f c e).d]).set 3 (.val (.d (.int (ls.length : Nat))))).set 4 (.val (.d (.int ((ls.length + 1 + L1.length - 1 : Nat) : Int))))).set 5 (.val (.d (.int ((ls.length + 1 + L1.length + L2.length - 1 : Nat) : Int))))) := nb_of rfl
    exact bm_ret (em_meth Fc DFs nb5 hr9 (ed_v 0) (am_cons nb5 (em_ed (ed_v 3)) (am_cons nb5 (em_meth Fw DFs nb5 hr9 (ed_v 0) (am_cons nb5 (em_ed (ed_ix (ed_v 1) ed_int (ix_t (atI_nat (i := 0) rfl)))) (am_cons nb5 (em_ed (ed_l2 (ad_cons (ed_v 4) (ad_cons (ed_v 5) ad_nil)))) am_nil)) rfl ⟨f, [ls.length + 1 + L1.length - 1, ls.length + 1 + L1.length + L2.length - 1], by simp, rfl, p3⟩) am_nil)) rfl
      ⟨ls.length, ls.length + 1 + L1.length + L2.length, rfl, p4⟩) ⟨rfl, rfl⟩
end
end Tw

set_option maxHeartbeats 4000000
namespace Tw
open PySem PySem.Spec L2
open PyProof.Rows hiding St
abbrev derFs (t : Addr) (sv : V) (l p : Addr) : List (Str × V) := putF "pairs" (.ref p) (putF "lines" (.ref l) (putF "axioms" (.ref t) (putF "signature" sv [])))
def spDI (K : PySem.W.Frag) : Sp := fun vs H Q _ => ∃ (x dx : Addr) (sv : V) (t : Addr), vs = [.ref x, sv, .ref t] ∧ H x = some (.ins (derC K) dx []) ∧ H t = some (.tup []) ∧
  ∀ (l p : Addr) (H' : Hp), l ≠ p → l ≠ x → p ≠ x → H l = none → H p = none → H' x = some (.ins (derC K) dx (derFs t sv l p)) → H' l = some (.lst []) → H' p = some (.lst []) → (∀ a, a ≠ x → a ≠ l → a ≠ p → H' a = H a) → Q .non H'
section
variable {P : Program} {w : World} {K : PySem.W.Frag} {mg : Str → Option Value} {base : Heap} (B : Bi mg) (DFs : DF K)
include B DFs
theorem ok_D_init {f : Addr} {fd : FuncData} (F : FnP K "__init__" "Derivation.__init__" s_D_init f fd) : FnOk P w K mg base CX0 1 f fd P_D_init (spDI K) := by
  refine F.ok sc_D_init (fun vs H Q E ⟨_, _, _, _, h, _⟩ => by rw [h]; rfl) fun cdv A outer s H vs Q E hr ⟨x, dx, sv, t, h1, h2, h3, k⟩ => ?_
  subst h1
  refine ⟨_, PSs.nox (pss_cons (ps_fld (pe_var (i := 0) rfl (.inl rfl)) (pe_var (i := 1) rfl (.inl rfl)) rfl) (pss_cons (ps_fld (pe_var (i := 0) rfl (.inl rfl)) (pe_callTy call_tuple_of rfl B.tup PyProof.Rows.boot_tuple (pa_cons (pe_var (i := 2) rfl (.inl rfl)) pa_nil) (by decide) (by decide) rfl rfl) rfl)
    (pss_cons (ps_fld (pe_var (i := 0) rfl (.inl rfl)) (pe_lst pa_nil) rfl) (pss_cons (ps_fld (pe_var (i := 0) rfl (.inl rfl)) (pe_lst pa_nil) rfl) pss_nil)))), ?_⟩
  have xt : t ≠ x := fun z => by rw [z, h2] at h3; cases h3
  refine ⟨sv, rfl, .ref x, rfl, x, _, dx, [], rfl, h2, DFs.cls, DFs.sig, of_decide_eq_true rfl, ?_⟩
  refine ⟨.ref t, rfl, t, [], rfl, .inr ⟨SqT.of (by rw [upd_ne xt]; exact h3), .ref x, rfl, x, _, dx, _, rfl, upd_same, DFs.cls, DFs.axi, of_decide_eq_true rfl, ?_⟩⟩
  refine ⟨Nat.zero_le _, fun l hl => ⟨.ref x, rfl, x, _, dx, putF "axioms" (.ref t) (putF "signature" sv []), rfl, ?_, DFs.cls, DFs.lin, of_decide_eq_true rfl, Nat.zero_le _, fun p hp => ⟨.ref x, rfl, x, _, dx, putF "lines" (.ref l) (putF "axioms" (.ref t) (putF "signature" sv [])), rfl, ?_, DFs.cls, DFs.par, of_decide_eq_true rfl, ?_⟩⟩⟩
  · have lx : x ≠ l := fun z => by rw [← z, upd_same] at hl; cases hl
    rw [upd_ne lx, upd_same]
  · have px : x ≠ p := fun z => by rw [← z, upd_same] at hp; cases hp
    rw [upd_ne px, upd_same]
  · have lx : l ≠ x := fun z => by rw [z, upd_same] at hl; cases hl
    have px : p ≠ x := fun z => by rw [z, upd_same] at hp; cases hp
    rw [upd_ne px] at hp
    have lp : l ≠ p := fun z => by rw [← z, upd_same] at hp; cases hp
    rw [upd_ne (Ne.symm lp), upd_ne px, upd_ne px] at hp
    rw [upd_ne lx, upd_ne lx] at hl
    refine k l p _ lp lx px hl hp upd_same ?_ ?_ fun a a1 a2 a3 => ?_
    · rw [upd_ne lx, upd_ne lp, upd_ne lx, upd_same]
    · rw [upd_ne px, upd_same]
    · rw [upd_ne a1, upd_ne a3, upd_ne a1, upd_ne a2, upd_ne a1, upd_ne a1]
end
end Tw

set_option maxHeartbeats 4000000
namespace Tw
open PySem PySem.Spec L2
open PyProof.Rows hiding St
def flB : En → Bool
  | .val (.bor _) => false
  | .own _ => false
  | .tab _ _ => false
  | _ => true
theorem env_flat {K : PySem.W.Frag} {O Oc W : List Addr} {σ : St} {H H' : Hp} {G : List En} (E : EnvR K O Oc σ H G) (fl : G.all flB = true) (s : Same (Hm H (O ++ Oc)) (Hm H' W)) (hW : ∀ a ∈ W, H' a ≠ none) : EnvR K [] W σ H' G := by
  have key : ∀ (i : Nat) (e : En), G[i]? = some e → flB e = true := fun i e h => List.all_eq_true.mp fl _ (List.mem_of_getElem? h)
  refine ⟨E.len, hW, (fun a h => (nomatch h)), fun i m h => ?_, fun i ds h => (nomatch (key i _ h)), E.apart, fun i n f h => (nomatch (key i _ h))⟩
  obtain ⟨v, h1, h2⟩ := E.val i m h
  refine ⟨v, h1, rm_to s ?_ h2⟩
  have := key i _ h
  cases m with
  | bor xs => cases this
  | _ => rfl
structure NewD (P : Program) (w : World) (K : PySem.W.Frag) (mg : Str → Option Value) (base : Heap) : Prop where
  ex : ∃ f fd, Mk K (derC K) f ∧ FnOk P w K mg base CX0 1 f fd P_D_init (spDI K) ∧ Binds K fd P_D_init [] ∧ mg "Derivation" = some (.ref (derC K))
section
variable {X : Cx} {G : List En} {e1 e2 : Expr} {ss : Sg} {o : Ou} {rest : List Stmt}
theorem bd_newDer (i : Nat) {y : Str} {p pos cpos py : Pos} (Nd : NewD X.prog X.w X.K X.mg X.base) (hr0 : Room 2 X.A) (fl : G.all flB = true) (h1 : ED X G e1 (.sig ss)) (h2 : ED X G e2 (.d (.tuple []))) (hr : ∀ l p, BM X l p (G.set i (.val (.der l p ss))) ([], []) rest ⟨fun _ _ => False, fun d _ => o.rt d⟩)
    (hN : X.N.Nodup) (hi : X.N[i]? = some y := by rfl) (hx : Loc X.env.scope y := by first | exact Or.inl rfl | exact Or.inr rfl) (hg : Gl X "Derivation" := by rfl) (hs1 : starEach [e1, e2] X.env = (false, eval e1 X.env) :: starEach [e2] X.env := by rfl) (hs2 : starEach [e2] X.env = (false, eval e2 X.env) :: starEach [] X.env := by rfl) (hpl : (backTo cpos (starEach [e2] X.env)).any (·.1) = false := by rfl)
    (hs : swapsWith (.Call (.Name "Derivation" p) [e1, e2] [] cpos) (some (.Name y py)) pos.line X.env = pure false := by rfl) (hf : X.fn y = true ∨ X.env.scope.names.lookup y = some .local := by first | exact .inl rfl | exact .inr rfl | assumption) :
    BD X G (.Assign [.Name y py] (.Call (.Name "Derivation" p) [e1, e2] [] cpos) pos :: rest) o := by
  obtain ⟨f, fd, M, F, hb, hm⟩ := Nd.ex
  have hr' : PSs X rest (fun D σ H => ∃ lp : Addr × Addr, tSM X.K lp.1 lp.2 (G.set i (.val (.der lp.1 lp.2 ss))) ([], []) ⟨fun _ _ => False, fun d _ => o.rt d⟩ D σ H) := bd_fam fun lp => hr lp.1 lp.2
  refine bd_weak (pss_cons (ps_set hN hi hx (pe_make M F hr0 hg hm hb .nil pass0 (ad_cons h1 (ad_cons h2 ad_nil hs2) hs1) (by decide) hs1 hpl) hs hf) hr') fun D σ H ⟨B, O, Oc, hB, E, k1, k2, _⟩ => ⟨O, Oc, E, fun vs H1 s1 r1 => ?_⟩
  obtain ⟨sv, tv, rfl, r2, r3⟩ := rma2 r1
  intro x dx hx hdx ne
  have E1 := E.mono s1
  have r3' : Da (Hm H1 (O ++ Oc)) tv (.tuple []) := r3
  cases r3' with
  | @tup t vs _ ht hvs =>
  cases hvs
  have ht1 := (hm_get ht).2
  have tx : t ≠ x := fun z => by rw [z, hx] at ht1; cases ht1
  have tdx : t ≠ dx := fun z => by rw [z, hdx] at ht1; cases ht1
  refine ⟨x, dx, sv, t, rfl, upd_same, by rw [upd_ne tx, upd_ne tdx]; exact ht1, fun l p H' lp lx px hl hp q1 q2 q3 q4 => ⟨rfl, ?_⟩⟩
  have ldx : l ≠ dx := fun z => by rw [upd_ne lx, z, upd_same] at hl; cases hl
  have pdx : p ≠ dx := fun z => by rw [upd_ne px, z, upd_same] at hp; cases hp
  rw [upd_ne lx, upd_ne ldx] at hl
  rw [upd_ne px, upd_ne pdx] at hp
  have grow : ∀ a u, H1 a = some u → a ≠ l ∧ a ≠ p ∧ H' a = some u := fun a u q => by
    have a1 : a ≠ x := fun z => by rw [z, hx] at q; cases q
    have a2 : a ≠ dx := fun z => by rw [z, hdx] at q; cases q
    have a3 : a ≠ l := fun z => by rw [z, hl] at q; cases q
    have a4 : a ≠ p := fun z => by rw [z, hp] at q; cases q
    refine ⟨a3, a4, ?_⟩
    rw [q4 a a1 a3 a4, upd_ne a1, upd_ne a2]
    exact q
  have sW : Same (Hm H1 (O ++ Oc)) (Hm H' (l :: p :: (O ++ Oc))) := fun a u q => by
    obtain ⟨n1, n2⟩ := hm_get q
    obtain ⟨g1, g2, g3⟩ := grow a u n2
    refine hm_mk (fun z => ?_) g3
    rcases List.mem_cons.mp z with z | z
    · exact g1 z
    · rcases List.mem_cons.mp z with z | z
      · exact g2 z
      · exact n1 z
  have hW : ∀ a ∈ l :: p :: (O ++ Oc), H' a ≠ none := fun a z => by
    rcases List.mem_cons.mp z with z | z
    · rw [z, q2]
      exact fun z => nomatch z
    · rcases List.mem_cons.mp z with z | z
      · rw [z, q3]
        exact fun z => nomatch z
      · cases q : H1 a with
        | none => exact absurd q (E1.inW a z)
        | some u =>
          rw [(grow a u q).2.2]
          exact fun z => nomatch z
  have xW : x ∉ l :: p :: (O ++ Oc) := fun z => by
    rcases List.mem_cons.mp z with z | z
    · exact lx z.symm
    · rcases List.mem_cons.mp z with z | z
      · exact px z.symm
      · exact E1.inW x z hx
  have E2 : EnvR X.K [] (l :: p :: (O ++ Oc)) σ H' G := env_flat E1 fl sW hW
  have rd : Rm X.K (l :: p :: (O ++ Oc)) (l :: p :: (O ++ Oc)) H' (.ref x) (.der l p ss) := ⟨x, dx, t, sv, rfl, hm_mk xW q1, sig_mono sW r2, sW _ _ ht⟩
  refine ⟨(l, p), l :: p :: (O ++ Oc), E2.set_val (m := .der l p ss) rd, ⟨lp, List.mem_cons_self, List.mem_cons_of_mem _ List.mem_cons_self, [], [], q2, q3, .nil, .nil⟩, fun _ _ _ _ n => n.elim, fun v H'' d st' n g' L' r' => k2 v H'' d n ?_ ?_⟩
  · intro a u q
    have q5 := (hm_get (hB a u q)).2
    obtain ⟨g1, g2, g3⟩ := grow a u (s1 a u q5)
    exact g' a u g1 g2 g3
  · exact da_mono (same_hm (Same.refl H'') fun a h => List.mem_cons_of_mem _ (List.mem_cons_of_mem _ (List.mem_append_right _ h))) r'
end
def told (ss : Sg) (s t : Tm) : PyData := if lw ss s = lw ss t then .tuple ((lik ss 0 s t).map Ln.d) else .none
def R_derive_alike (M : Nat) : List Dm → PyData → Prop := fun ms d => ∃ (ss : Sg) (s t : Tm), ss.Good ∧ M ≤ 64 ∧ Ok ss s ∧ Ok ss t ∧ s.dep ≤ M ∧ t.dep ≤ M ∧ s.sz ≤ 1000 ∧ ms = [.sig ss, .d s.d, .d t.d] ∧ d = told ss s t
section
variable {P : Program} {w : World} {K : PySem.W.Frag} {mg : Str → Option Value} {base : Heap} (B : Bi mg) (DFs : DF K)
include B DFs
theorem fd_derive_alike {M k : Nat} (D : DefAt K mg "derive_alike" "derive_alike" s_derive_alike) (Nd : NewD P w K mg base) (F1 : FD P w K mg base k "are_alike" P_are_alike (R_are_alike M)) (F2 : MM P w K mg base k "likeness" P_D_likeness (R_likeness M M)) (hk : 2 ≤ k) : FD P w K mg base (k + 1) "derive_alike" P_derive_alike (R_derive_alike M) := by
  refine fd_mk D (fun F => bn_derive_alike F) fun f fd F => fn_mk F sc_derive_alike (fun ms d ⟨_, _, _, _, _, _, _, _, _, _, h, _⟩ => by rw [h]; rfl) fun cdv A outer sh H E ms d hr ⟨ss, s, t, g, hM, os, ot, ds, dt, hz, h1, h2⟩ => ?_
  subst h1 h2
  have hN := sc_derive_alike.nd
  refine bd_ifR (td_not (td_val (ed_call F1 hr (ad_cons (ed_v 0) (ad_cons (ed_v 1) (ad_cons (ed_v 2) ad_nil))) ⟨ss, s, t, g, os, ot, ds, dt, hM, rfl, rfl⟩))) (fun hb => bd_ret ed_non ?_) fun hb => ?_
  · have : ¬ lw ss s = lw ss t := by simpa using hb
    show PyData.none = told ss s t
    unfold told
    rw [if_neg this]
  · have hl : lw ss s = lw ss t := by simpa using hb
    obtain ⟨ds', d1, _⟩ := lik_ok g s t os ot ds dt hl [] [] .nil
    refine bd_newDer 3 Nd (hr.mono hk) rfl (ed_v 0) (ed_tup (ds := []) ad_nil) (fun l p => ?_) hN
    have nb : noBorG ((envN N_derive_alike [.sig ss, .d s.d, .d t.d]).set 3 (.val (.der l p ss))) := nb_of rfl
    refine bm_drop nb (em_meth F2 DFs nb hr (ed_v 3) (am_cons nb (em_ed (ed_v 1)) (am_cons nb (em_ed (ed_v 2)) am_nil)) rfl ⟨[], [], s, t, ds', g, hM, Nat.le_refl _, os, ot, ds, dt, hl, .nil, by simp; omega, rfl, rfl, rfl, d1, rfl⟩) ?_
    refine bm_ret (em_ep (ep_callTy (ap_cons (ep_lin DFs (ed_v 3)) ap_nil) tup_b B.tup PyProof.Rows.boot_tuple)) ?_
    show PyData.tuple _ = told ss s t
    unfold told
    rw [if_pos hl]
    rfl
end
end Tw

set_option maxHeartbeats 4000000
namespace Tw
open PySem PySem.Spec L2
open PyProof.Rows hiding St
/-! ### a dict of names, the body's own -/
section
variable {X : Cx} {G : List En} {e v : Expr} {o : Ou} {rest : List Stmt} {x y : Str} {n : Nat} {f : Str → Option PyData} {d : PyData}
theorem td_inT (j : Nat) {p pos : Pos} (hu : X.A.units + 200 < cLine) (hi : ED X G e (.d (.str x))) (h0 : G[j]? = some (.tab n f) := by rfl) (hj : X.N[j]? = some y := by rfl)
    (hv : Vis X.env.scope y := by first | exact Or.inl rfl | exact Or.inr (Or.inl rfl) | exact Or.inr (Or.inr rfl)) (hd : (y == ("__debug__" : Str)) = false := by decide) (hcd : (y == ("__classdict__" : Str)) = false := by decide) (hm : behindInMarks .In (.Name y p) = false := by rfl) : TD X G (.Compare e [.In] [.Name y p] pos) (f x).isSome := by
  refine td_of (pt_cmp (pc_din (by omega) hi (pe_var hj hv hd hcd)) hm) fun O Oc σ H Q E k => ⟨O, Oc, E, fun u H1 s1 r1 => ?_⟩
  cases r1
  obtain ⟨t, kvs, g1, g2, g3, g4, g5⟩ := (E.mono s1).tab j n f h0
  have hx := g5 x
  refine ⟨.ref t, g1, t, valV kvs (Sum.inr x), rfl, DGet.k (k := Sum.inr x) g3, (f x).isSome, ?_, k H1 s1⟩
  revert hx
  cases f x with
  | none =>
    intro hx
    rw [show valV kvs (Sum.inr x) = none from hx]
    rfl
  | some d =>
    rintro ⟨v, hv, _⟩
    rw [hv]
    rfl
theorem bd_putT (j : Nat) {p1 p2 pos : Pos} (hu : X.A.units + 200 < cLine) (hi : ED X G e (.d (.str x))) (hv : ED X G v (.d d)) (hf : f x = none) (nt : ∀ i m g, i ≠ j → G[i]? ≠ some (.tab m g)) (hz : n < 100000) (hr : BD X (G.set j (.tab (n + 1) fun z => if z = x then some d else f z)) rest o) (h0 : G[j]? = some (.tab n f) := by rfl) (hj : X.N[j]? = some y := by rfl)
    (hvi : Vis X.env.scope y := by first | exact Or.inl rfl | exact Or.inr (Or.inl rfl) | exact Or.inr (Or.inr rfl)) (hd : (y == ("__debug__" : Str)) = false := by decide) (hcd : (y == ("__classdict__" : Str)) = false := by decide)
    (hs : swapsWith v (some (.Subscript (.Name y p1) e p2)) pos.line X.env = pure false := by rfl) : BD X G (.Assign [.Subscript (.Name y p1) e p2] v pos :: rest) o := by
  refine bd_weak (pss_cons (ps_dput (by omega) (pe_var hj hvi hd hcd) hi hv hs) hr) fun D σ H ⟨B, O, Oc, hB, E, k⟩ => ⟨O, Oc, E, fun u H1 s1 r1 => ?_⟩
  have E1 := E.mono s1
  obtain ⟨t, kvs, g1, g2, g3, g4, g5⟩ := E1.tab j n f h0
  refine ⟨.ref t, g1, O, Oc, E1, fun w H2 s2 r2 => ?_⟩
  cases r2
  have g3' := s2 _ _ g3
  refine ⟨t, _, rfl, DPut.k (k := Sum.inr x) g3' (by exact sz100L (by omega)), B, O, Oc, ?_, (E1.mono s2).put_tab h0 (fun i m g hne => nt i m g hne) g1 g3' (rm_mono (m := .d d) s2 r1) hf, k⟩
  rw [hm_upd g2]
  exact hB.trans (same_hm (s1.trans s2) fun _ h => h)
end
/-- for, then whatever -/
theorem pss_forR {X : Cx} {G : List En} {rest : List Stmt} {tg it : Expr} {body : List Stmt} {pos : Pos} {n : Nat} {Y : Nat → PyData} {g : TG} {tr : TS} (F : Nat → List En → List En) (N : Nat → List En → Prop) (hI : ItD X G tg it n Y) (hg : PG X tg g) (hT : ∀ i, i < n → TgD X g (Y i) (F i))
    (hs : ∀ i G', i < n → N i G' → BD X (F i G') body { nx := N (i + 1), rt := fun _ => False, ct := N (i + 1) }) (hr : PSs X rest tr) (hp : PassesOwn (model X.prog X.w) X.A X.env X.xe := by exact PassesOwn.never) (hc : X.calm = true := by rfl) (hfs : ∀ x, foldedSetIterable it X.env x = pure x := by intro _; rfl) :
    PSs X (.For tg it body [] pos :: rest) (fun D σ H => ∃ O Oc, EnvR X.K O Oc σ H G ∧ N 0 G ∧ ∀ σ' H' O' G', N n G' → Same (Hm H O) (Hm H' O') → EnvR X.K O' Oc σ' H' G' → tr D σ' H') := by
  obtain ⟨wi, hI1, hI2⟩ := hI
  have hb : PSs X body (tForB X.K n F N { nx := fun _ => False, rt := fun _ => False }) := bd_fam fun a => hs a.1.1 a.1.2 a.2.1 a.2.2
  refine bd_weak (pss_cons (ps_for hp hc hI1 hg hb hfs) hr) fun D σ H ⟨O, Oc, E, h0, k⟩ => ?_
  refine hI2 O Oc σ H _ E fun J H1 s1 wk => ?_
  have E1 := E.mono s1
  refine for_it wk (fun i σ' H' => ∃ G' O', N i G' ∧ Same (Hm H1 O) (Hm H' O') ∧ EnvR X.K O' Oc σ' H' G') ⟨G, O, h0, Same.refl _, E1⟩ (fun i σ' H' _ ⟨G', O', _, q, _⟩ => (same_WW (Oc := Oc) q).trans same_out) ?_ ?_
  · rintro i v σ' H' H'' hi ⟨G', O', hN, q, E'⟩ ⟨s2, y⟩
    have r := y (O' ++ Oc) E'.inW (same_WW q)
    have q2 : Same (Hm H1 O) (Hm H'' O') := q.trans (same_hm s2 fun _ h => h)
    refine hT i hi O' Oc σ' H'' G' v _ (E'.mono s2) r fun σ2 E2 => ?_
    exact ⟨⟨(i, G'), hi, hN⟩, Hm H1 O, O', Oc, q2, E2, fun σ3 H3 G3 O3 n3 q3 E3 => ⟨G3, O3, n3, q3, E3⟩, fun v3 H3 d3 n3 => n3.elim, fun _ _ _ _ z => z.elim, fun σ3 H3 G3 O3 n3 q3 E3 => ⟨G3, O3, n3, q3, E3⟩⟩
  · rintro σ' H' ⟨G', O', hN, q, E'⟩
    exact k σ' H' O' G' hN ((same_hm s1 fun _ h => h).trans q) E'
/-! ### Signature(symbols) -/
def Sy.d (s : Sy) : PyData := .tuple [.str s.n, .int s.ar, .bool s.tw]
def Sy.e (i : Nat) (s : Sy) : PyData := .tuple [.int (i : Nat), .int s.ar, .bool s.tw]
def sy (ss : Sg) (i : Nat) : Sy := ss.getD i ⟨"", 0, false⟩
theorem sy_get {ss : Sg} {i : Nat} {s : Sy} (h : ss[i]? = some s) : sy ss i = s := by unfold sy; rw [List.getD_eq_getElem?_getD, h, Option.getD_some]
def spSI (K : PySem.W.Frag) : Sp := fun vs H Q _ => ∃ (W : List Addr) (x dx : Addr) (sl : V) (ss : Sg), vs = [.ref x, sl] ∧ (∀ a ∈ W, H a ≠ none) ∧ x ∉ W ∧ H x = some (.ins (sigC K) dx []) ∧ ss.Good ∧ Da (Hm H (x :: W)) sl (.list (ss.map Sy.d)) ∧
  ∀ H', (∀ a u, a ≠ x → a ∉ W → H a = some u → H' a = some u) → (∀ a ∈ W, H' a = H a) → SigAt (sigC K) (Hm H' W) (.ref x) ss → Q .non H'
theorem good_ar {ss : Sg} (g : ss.Good) {i : Nat} {s : Sy} (h : ss[i]? = some s) : s.ar = 0 ∨ s.ar = 1 ∨ s.ar = 2 := by
  have := g.ar s (List.mem_of_getElem? h)
  omega
theorem good_nd {ss : Sg} (g : ss.Good) {i j : Nat} {s t : Sy} (h1 : ss[i]? = some s) (h2 : ss[j]? = some t) (e : s.n = t.n) : i = j := by
  rw [← rk_of g h1, ← rk_of g h2, e]
section
variable {P : Program} {w : World} {K : PySem.W.Frag} {mg : Str → Option Value} {base : Heap} (B : Bi mg) (T : SF K)
def SiN (x : Addr) (ss : Sg) (i : Nat) (G' : List En) : Prop := ∃ (f : Str → Option PyData) (a b c d : En), G' = [.val (.raw (.ref x)), .val (.d (.list (ss.map Sy.d))), .own ((ss.take i).map Sy.d), .tab i f, a, b, c, d] ∧ noTab [a, b, c, d] ∧
  (∀ (k : Nat) (s : Sy), k < i → ss[k]? = some s → f s.n = some (s.e k)) ∧ ∀ y, (∀ (k : Nat) (s : Sy), k < i → ss[k]? = some s → s.n ≠ y) → f y = none
include B T
theorem ok_S_init {f : Addr} {fd : FuncData} (F : FnP K "__init__" "Signature.__init__" s_S_init f fd) (F1 : FD P w K mg base 2 "is_symbol_name" P_is_symbol_name R_is_symbol_name) : FnOk P w K mg base CX0 3 f fd P_S_init (spSI K) := by
  refine F.ok sc_S_init (fun vs H Q E ⟨_, _, _, _, _, h, _⟩ => by rw [h]; rfl) fun cdv A outer s H vs Q E hr ⟨W, x, dx, sl, ss, h1, hW, xW, hx, g, hd, k⟩ => ?_
  subst h1
  have hN := sc_S_init.nd
  have hu := room_u hr
  have hWx : ∀ a ∈ x :: W, H a ≠ none := fun a z => by
    rcases List.mem_cons.mp z with z | z
    · rw [z, hx]
      exact fun z => nomatch z
    · exact hW a z
  have E0 : EnvR K [] (x :: W) (L2.start N_S_init [.ref x, sl]) H (envN N_S_init [.raw (.ref x), .d (.list (ss.map Sy.d))]) := env_start hWx ⟨rfl, hd, trivial⟩
  have lz := g.len
  have t0 : x ≠ x → False := fun h => h rfl
  refine ⟨_, PSs.nox (pss_cons (ps_set (i := 2) hN rfl (.inl rfl) (pe_lst pa_nil) rfl) (pss_cons (ps_set (i := 3) hN rfl (.inl rfl) pe_dnewK rfl)
    (pss_forR (G := [.val (.raw (.ref x)), .val (.d (.list (ss.map Sy.d))), .own [], .tab 0 fun _ => none, .no, .no, .no, .no]) (fun i G => (((G.set 4 (.val (.d (.int (i : Nat))))).set 5 (.val (.d (.str (sy ss i).n)))).set 6 (.val (.d (.int (sy ss i).ar)))).set 7 (.val (.d (.bool (sy ss i).tw)))) (SiN x ss) (it_el (ed_v 1) B.enm)
      (pg_tup rfl (pgs_cons (pg_name (i := 4) hN rfl (.inl rfl)) (pgs_cons (pg_tup rfl (pgs_cons (pg_name (i := 5) hN rfl (.inl rfl)) (pgs_cons (pg_name (i := 6) hN rfl (.inl rfl)) (pgs_cons (pg_name (i := 7) hN rfl (.inl rfl)) pgs_nil)))) pgs_nil)))
      (fun i hi => ?_) (fun i G' hi hN' => ?_) (pss_cons (ps_fld (pe_var (i := 0) rfl (.inl rfl)) (pe_callTy call_tuple_of rfl B.tup PyProof.Rows.boot_tuple (pa_cons (pe_var (i := 2) rfl (.inl rfl)) pa_nil) (by decide) (by decide) rfl rfl) rfl) (pss_cons (ps_fld (pe_var (i := 0) rfl (.inl rfl)) (pe_var (i := 3) rfl (.inl rfl)) rfl) pss_nil))))), ?_⟩
  · rw [List.length_map] at hi
    obtain ⟨s1, hs1⟩ : ∃ s1, ss[i]? = some s1 := ⟨_, List.getElem?_eq_getElem hi⟩
    rw [nth_map hs1, sy_get hs1]
    exact tg_tup (tgs_cons (tg_n 4) (tgs_cons (tg_tup (tgs_cons (tg_n 5) (tgs_cons (tg_n 6) (tgs_cons (tg_n 7) tgs_nil)))) tgs_nil))
  · rw [List.length_map] at hi
    obtain ⟨s1, hs1⟩ : ∃ s1, ss[i]? = some s1 := ⟨_, List.getElem?_eq_getElem hi⟩
    obtain ⟨fn, a, b, c, d, rfl, nt, q1, q2⟩ := hN'
    rw [sy_get hs1]
    have hf : fn s1.n = none := q2 _ fun k s2 hk h2 e => by
      have := good_nd g h2 hs1 e
      omega
    refine bd_ifF (td_is (wd_or (td_notT (td_val (ed_call F1 hr (ad_cons (ed_v 5) ad_nil) ⟨s1.n, rfl, g.nm s1 (List.mem_of_getElem? hs1), rfl⟩))) fun _ => wd_or1 (td_inT 3 hu (ed_v 5))).pt ?_) ?_
    · rw [hf] <;> rfl
    refine bd_ifF (td_is (wd_or (td_cmp (ed_v 6) (ed_t3 (ad_cons ed_int (ad_cons ed_int (ad_cons ed_int ad_nil)))) (cmp_ninT rfl rfl)) fun _ => wd_or1 (wd_and (td_val (ed_v 7)) fun _ => wd_and1 (td_cmp (ed_v 6) ed_int cmp_neI)).pt).pt ?_) ?_
    · rcases good_ar g hs1 with e | e | e
      · have : s1.tw = false := by
          cases h : s1.tw with
          | false => rfl
          | true =>
            have := g.tw s1 (List.mem_of_getElem? hs1) h
            omega
        rw [e, this] <;> rfl
      · have : s1.tw = false := by
          cases h : s1.tw with
          | false => rfl
          | true =>
            have := g.tw s1 (List.mem_of_getElem? hs1) h
            omega
        rw [e, this] <;> rfl
      · rw [e]
        cases s1.tw <;> rfl
    refine bd_app 2 (ed_t3 (ad_cons (ed_v 5) (ad_cons (ed_v 6) (ad_cons (ed_v 7) ad_nil)))) ?_ rfl (by rw [List.length_map, List.length_take]; omega)
    refine bd_putT 3 (n := i) (f := fn) hu (ed_v 5) (ed_t3 (ad_cons (ed_v 4) (ad_cons (ed_v 6) (ad_cons (ed_v 7) ad_nil)))) hf ?_ (by omega) (bd_nil ?_)
    · intro m n' g' hm e
      match m, hm, e with
      | 0, _, e => cases e
      | 1, _, e => cases e
      | 2, _, e => cases e
      | 4, _, e => cases e
      | 5, _, e => cases e
      | 6, _, e => cases e
      | 7, _, e => cases e
    · refine ⟨fun y => if y = s1.n then some (s1.e i) else fn y, .val (.d (.int (i : Nat))), .val (.d (.str s1.n)), .val (.d (.int s1.ar)), .val (.d (.bool s1.tw)), ?_, ?_, ?_, ?_⟩
      · rw [List.take_succ, hs1, List.map_append]
        rfl
      · intro m n' g' e
        match m, e with
        | 0, e => cases e
        | 1, e => cases e
        | 2, e => cases e
        | 3, e => cases e
      · intro k' s2 hk h2
        rcases Nat.lt_succ_iff_lt_or_eq.mp hk with h | h
        · show (if s2.n = s1.n then _ else _) = _
          rw [if_neg (fun e => by have := good_nd g h2 hs1 e; omega)]
          exact q1 k' s2 h h2
        · subst h
          rw [hs1] at h2
          cases h2
          exact if_pos rfl
      · intro y hy
        show (if y = s1.n then _ else _) = _
        rw [if_neg (fun e => hy i s1 (Nat.lt_succ_self _) hs1 e.symm)]
        exact q2 y fun k' s2 hk h2 => hy k' s2 (Nat.lt_succ_of_lt hk) h2
  · refine ⟨Nat.zero_le _, fun tl htl tb htb => ⟨[tb, tl], x :: W, (E0.set_own (i := 2) htl .nil).set_tab (i := 3) htb ?_, ⟨fun _ => none, .no, .no, .no, .no, rfl, ?_, fun k s2 hk => absurd hk (Nat.not_lt_zero _), fun _ _ => rfl⟩, ?_⟩⟩
    · intro m n' g' e
      match m, e with
      | 0, e => cases e
      | 1, e => cases e
      | 2, e => cases e
      | 3, e => cases e
      | 4, e => cases e
      | 5, e => cases e
      | 6, e => cases e
      | 7, e => cases e
    · intro m n' g' e
      match m, e with
      | 0, e => cases e
      | 1, e => cases e
      | 2, e => cases e
      | 3, e => cases e
    rintro σ' H' O' G' ⟨fn, a, b, c, d, rfl, nt, q1, q2⟩ hS E'
    rw [List.length_map] at q1 q2 E'
    obtain ⟨l, vs, l1, l2, l3, l4⟩ := E'.own 2 _ rfl
    obtain ⟨t, kvs, t1, t2, t3, t4, t5⟩ := E'.tab 3 _ _ rfl
    obtain ⟨v0, v1, v2⟩ := E'.val 0 _ rfl
    have v2' : v0 = .ref x := v2
    subst v2'
    have back : ∀ a u, H a = some u → a ∉ O' ∧ H' a = some u := fun a u q => by
      have a1 : a ≠ tl := fun z => by rw [z] at q; rw [q] at htl; cases htl
      have a2 : a ≠ tb := fun z => by
        rw [upd_ne (show tb ≠ tl from fun y => by rw [y, upd_same] at htb; cases htb)] at htb
        rw [z] at q
        rw [q] at htb
        cases htb
      refine hm_get (hS a u (hm_mk (fun z => ?_) ?_))
      · rcases List.mem_cons.mp z with z | z
        · exact a2 z
        · exact a1 (List.mem_singleton.mp z)
      · rw [upd_ne a2, upd_ne a1]
        exact q
    have hx' := (back x _ hx).2
    have tx : t ≠ x := fun z => by rw [z, hx'] at t3; cases t3
    refine ⟨.ref l, l1, l, vs, rfl, .inl ⟨SqL.of l3, fun q hq => ⟨.ref x, v1, x, _, dx, [], rfl, ?_, T.cls, T.sym, by decide, ?_⟩⟩⟩
    · have : x ≠ q := fun z => by rw [← z, hx'] at hq; cases hq
      rw [upd_ne this]
      exact hx'
    have tq : t ≠ q := fun z => by rw [z, hq] at t3; cases t3
    have xq : x ≠ q := fun z => by rw [← z, hx'] at hq; cases hq
    refine ⟨.ref t, t1, .ref x, v1, x, _, dx, putF "symbols" (.ref q) [], rfl, upd_same, T.cls, T.tab, of_decide_eq_true rfl, ?_⟩
    have fin : ∀ a u, a ≠ x → H' a = some u → (upd (upd (upd H' q (.tup vs)) x (.ins (sigC K) dx (putF "symbols" (.ref q) []))) x (.ins (sigC K) dx (putF "table" (.ref t) (putF "symbols" (.ref q) [])))) a = some u := fun a u n1 h => by
      rw [upd_ne n1, upd_ne n1, upd_ne (fun z => by rw [z, hq] at h; cases h)]
      exact h
    refine k _ (fun a u n1 _ h => fin a u n1 (back a u h).2) (fun a ha => ?_) ⟨x, dx, q, t, kvs, rfl, hm_mk xW upd_same, hm_mk (fun z => E'.dis t t2 (List.mem_cons_of_mem _ z)) (fin t _ tx t3), fun i s2 h2 => ?_⟩
    · have ax : a ≠ x := fun z => xW (z ▸ ha)
      cases e : H a with
      | none => exact absurd e (hW a ha)
      | some u => exact fin a u ax (back a u e).2
    · have h3 := q1 i s2 (List.getElem?_eq_some_iff.mp h2).1 h2
      have h4 := t5 s2.n
      rw [h3] at h4
      obtain ⟨v, w1, w2⟩ := h4
      have w3 : Da (Hm H' (O' ++ x :: W)) v (.tuple [.int (i : Nat), .int s2.ar, .bool s2.tw]) := w2
      cases w3 with
      | @tup p' us _ u1 u2 =>
        obtain ⟨m1, m2⟩ := hm_get u1
        refine ⟨p', w1, ?_⟩
        have hus : us = [.int (i : Nat), .int s2.ar, .bl s2.tw] := by
          cases u2 with
          | cons a1 a2 =>
            cases a1
            cases a2 with
            | cons b1 b2 =>
              cases b1
              cases b2 with
              | cons c1 c2 =>
                cases c1
                cases c2
                rfl
        subst hus
        exact hm_mk (fun z => m1 (List.mem_append_right _ (List.mem_cons_of_mem _ z))) (fin p' _ (fun z => m1 (List.mem_append_right _ (z ▸ List.mem_cons_self))) m2)
end
end Tw

set_option maxHeartbeats 4000000
namespace Tw
open PySem PySem.Spec L2
open PyProof.Rows hiding St
structure NewS (P : Program) (w : World) (K : PySem.W.Frag) (mg : Str → Option Value) (base : Heap) : Prop where
  ex : ∃ f fd, Mk K (sigC K) f ∧ FnOk P w K mg base CX0 3 f fd P_S_init (spSI K) ∧ Binds K fd P_S_init [] ∧ mg "Signature" = some (.ref (sigC K))
section
variable {X : Cx} {G : List En} {e : Expr} {ss : Sg}
theorem ed_newSig {p cpos : Pos} (Nd : NewS X.prog X.w X.K X.mg X.base) (hr0 : Room 4 X.A) (g : ss.Good) (h1 : ED X G e (.d (.list (ss.map Sy.d))))
    (hg : Gl X "Signature" := by rfl) (hs1 : starEach [e] X.env = (false, eval e X.env) :: starEach [] X.env := by rfl) (hpl : (backTo cpos (starEach [] X.env)).any (·.1) = false := by rfl) : ED X G (.Call (.Name "Signature" p) [e] [] cpos) (.sig ss) := by
  obtain ⟨f, fd, M, F, hb, hm⟩ := Nd.ex
  refine ed_of (pe_make M F hr0 hg hm hb .nil pass0 (ad_cons h1 ad_nil hs1) (by decide) hs1 hpl) fun O Oc σ H Q E k => ⟨O, Oc, E, fun vs H1 s1 r1 => ?_⟩
  obtain ⟨sl, rfl, r2⟩ := rma1 r1
  intro x dx hx hdx ne
  have E1 := E.mono s1
  have old : ∀ a u, H1 a = some u → (upd (upd H1 dx (.own x)) x (.ins (sigC X.K) dx [])) a = some u := fun a u q => by
    rw [upd_ne (fun z => by rw [z, hx] at q; cases q), upd_ne (fun z => by rw [z, hdx] at q; cases q)]
    exact q
  have nn : ∀ a u, H1 a = some u → a ≠ x := fun a u q z => by rw [z, hx] at q; cases q
  have xW : x ∉ O ++ Oc := fun z => E1.inW x z hx
  refine ⟨O ++ Oc, x, dx, sl, ss, rfl, fun a ha z => ?_, xW, upd_same, g, da_mono (fun a u q => ?_) r2, fun H' q1 q2 q3 => ⟨rfl, k _ H' (s1.trans fun a u q => ?_) q3⟩⟩
  · cases q : H1 a with
    | none => exact E1.inW a ha q
    | some u =>
      rw [old a u q] at z
      cases z
  · obtain ⟨n1, n2⟩ := hm_get q
    refine hm_mk (fun z => ?_) (old a u n2)
    rcases List.mem_cons.mp z with z | z
    · exact nn a u n2 z
    · exact n1 z
  · by_cases m : a ∈ O ++ Oc
    · rw [q2 a m]
      exact old a u q
    · exact q1 a u (nn a u q) m (old a u q)
end
end Tw

set_option maxHeartbeats 4000000
namespace Tw
open PySem PySem.Spec L2
open PyProof.Rows hiding St
/-! ### repr -/
def shOk (d : PyData) : Prop := d.showable = true ∧ d.hasDict = false ∧ d.depth ≤ 100 ∧ d.shown.length ≤ sizeLine
section
variable {X : Cx} {G : List En} {e : Expr}
theorem rep_d {d : PyData} (hg : X.A.guards = some []) (hu : X.A.units + 200 < cLine) (ok : shOk d) (ht : ∃ ds, d = .tuple ds) : CallD X (.builtin "repr") [.d d] (.d (.str d.shown)) := by
  refine ⟨fun xs H Q => ∃ x, xs = [x] ∧ Da H x d ∧ Q (.str d.shown) H, fun pins s σ H xs us Q I r ⟨x, e1, h1, q⟩ => ?_, fun W H vs Q hW r k => ?_⟩
  · subst e1
    obtain ⟨u, rfl, r1⟩ := vals1 r
    obtain ⟨as, hr⟩ := Dp.reads I d x u (da_p X.K h1) r1
    obtain ⟨o1, o2, o3, o4⟩ := ok
    have ra : ∃ a, u = .ref a := by
      obtain ⟨ds, rfl⟩ := ht
      cases hr with
      | tuple => exact ⟨_, rfl⟩
    obtain ⟨a, rfl⟩ := ra
    exact repr_of_reads' hr o1 (fun z => by rw [o2] at z; cases z) hg (by omega) (fun b o h => h) (fun h' u tk kp => ⟨.str d.shown, H, I.kept kp, ⟨_, rfl⟩, q⟩) o4
  · obtain ⟨v, rfl, r1⟩ := rma1 r
    exact ⟨v, rfl, da_mono same_out r1, k _ H (Same.refl H) (.str _)⟩
theorem rep_z {x : Str} (hz : (reprText x).length ≤ sizeLine) : CallD X (.builtin "repr") [.d (.str x)] (.d (.str (reprText x))) := by
  refine ⟨fun xs H Q => xs = [.str x] ∧ Q (.str (reprText x)) H, fun pins s σ H xs us Q I r ⟨e1, q⟩ => ?_, fun W H vs Q hW r k => ?_⟩
  · subst e1
    obtain ⟨u, rfl, t, rfl⟩ := vals1 r
    exact PySem.P.repr_of_str ⟨.str _, H, I.tok _, ⟨_, rfl⟩, q⟩ hz
  · obtain ⟨v, rfl, r1⟩ := rma1 r
    cases r1
    exact ⟨rfl, k _ H (Same.refl H) (.str _)⟩
theorem rep_n : CallD X (.builtin "repr") [.d .none] (.d (.str "None")) := by
  refine ⟨fun xs H Q => xs = [.non] ∧ Q (.str "None") H, fun pins s σ H xs us Q I r ⟨e1, q⟩ => ?_, fun W H vs Q hW r k => ?_⟩
  · subst e1
    obtain ⟨u, rfl, r1⟩ := vals1 r
    obtain rfl : u = Value.none := r1
    exact PySem.P.repr_of_none ⟨.str _, H, I.tok _, ⟨_, rfl⟩, q⟩
  · obtain ⟨v, rfl, r1⟩ := rma1 r
    cases r1
    exact ⟨rfl, k _ H (Same.refl H) (.str _)⟩
end
/-! ### defs that are called where no repr is under way -/
structure FnG (P : Program) (w : World) (K : PySem.W.Frag) (mg : Str → Option Value) (base : Heap) (k : Nat) (fa : Addr) (fc : FuncData) (ps : List Str) (sp : Sp) : Prop where
  len : ∀ ws Hq Qq Eq, sp ws Hq Qq Eq → ws.length = ps.length
  run : ∀ (Ar : Around) (fr : List Env) (sh : Shared) (Hq : Hp) (as : Args) (rs : List Value) (ws : List V) (Qq : VK) (Eq : XK), Ar.guards = some [] → Room k Ar → Env0 P w K mg base Ar fr sh Hq → BindsTo sh fc as (ps.zip rs) → Vals ws rs → sp ws Hq Qq Eq →
    codeAny (model P w) Ar (.call (.ref fa) as) (CR CX0 fr P w Hq sh Qq Eq) sh
theorem FnG.mono {P : Program} {w : World} {K : PySem.W.Frag} {mg : Str → Option Value} {base : Heap} {j k : Nat} {fa : Addr} {fc : FuncData} {ps : List Str} {sp : Sp} (F : FnG P w K mg base j fa fc ps sp) (h : j ≤ k) : FnG P w K mg base k fa fc ps sp :=
  ⟨F.len, fun Ar fr sh Hq as rs ws Qq Eq hg hr => F.run Ar fr sh Hq as rs ws Qq Eq hg (hr.mono h)⟩
section
variable {P : Program} {w : World} {K : PySem.W.Frag} {mg : Str → Option Value} {base : Heap} {x qual : Str} {params : Arguments} {body : List Stmt} {scope : Scope} {fa : Addr} {fc : FuncData} {N ps : List Str} {k : Nat} {sp : Sp}
theorem fng_mk (F : FunD K x qual params body scope [] [] fa fc) (Sc : FnScope N ps scope) (hlen : ∀ ws Hq Qq Eq, sp ws Hq Qq Eq → ws.length = ps.length)
    (hB : ∀ (cd : Value) (Ar : Around) (fr : List Env) (sh : Shared) (Hq : Hp) (ws : List V) (Qq : VK) (Eq : XK), Ar.guards = some [] → Room k (Ar.deeper (envOfC qual scope sh.heap.objs.size fa cd)) → sp ws Hq Qq Eq →
      ∃ t, PSs (XC P w K mg base N qual scope fa cd Ar fr sh Hq Eq) body t ∧ t { nx := fun _ Hz => Qq .non Hz, rt := Qq } (L2.start N ws) Hq) : FnG P w K mg base (k + 1) fa fc ps sp := by
  obtain ⟨oc, od, dV, kV, doc, pm, an, cd, ct, osl, rfl, lk, hcode, _, _⟩ := F.ex
  refine ⟨hlen, fun Ar fr sh Hq as rs ws Qq Eq hguard hroom en hbind hrel hspec => ?_⟩
  have inK : K.In sh.heap := en.mod.kin.keeps fun a u q => (en.bs a u q).1
  have hnl : sh.heap.NoLimit := en.mod.nolimit.keeps fun a u q => (en.bs a u q).1
  have kinds : ∀ z ∈ ps.zip rs, scope.names.lookup z.1 = some .local ∨ (scope.names.lookup z.1 = some .cell ∧ ((cellsFrom (sh.heap.objs.size + 1) scope.names []).lookup z.1).isSome = true) := fun ⟨nm, vl⟩ hz =>
    (Sc.par nm (List.of_mem_zip hz).1).elim .inl fun c => .inr ⟨c, PySem.W.cellsFrom_some _ _ _ (.inl c)⟩
  refine codeAny_call_function hroom.depth (inK _ _ lk) rfl Sc.co Sc.gen rfl (PySem.W.codeRec_of inK hcode) (hbind _ _ _ _ (wpAny_newFunctionEnv_cells Sc.kind kinds fun en2 he2 sh1 xc => ?_))
  subst he2
  refine ⟨hnl.keeps xc.toInCall.keep, codeAny_func ?_⟩
  obtain ⟨t, hrun, hstart⟩ := hB cd Ar fr sh Hq ws Qq Eq hguard (hroom.deeper _) hspec
  have J0 : Inv (cxOf CX0 P w K mg base N qual scope fa cd Ar fr sh Hq Eq) [] (L2.start N ws) Hq sh1 := inv_start Sc hroom.hd en (hlen _ _ _ _ hspec) hrel xc
  have done : ∀ {τ : St} {Hz : Hp} {y : V} {z : Value} {sz : Shared}, Inv (cxOf CX0 P w K mg base N qual scope fa cd Ar fr sh Hq Eq) [] τ Hz sz → RelV y z → Qq y Hz → CE fr P w Hq sh Qq z sz := fun {τ Hz y z sz} J ry qy => ⟨y, Hz, J.os, J.bare, J.base, J.hok, ry, qy⟩
  refine wpAny_mono (hrun.nox.run [] sh1 (L2.start N ws) Hq _ J0 hstart) (fun fl sz hz => ?_) fun _ _ hz => hz
  match fl, hz with
  | .ret z, ⟨y, τ, Hz, J, ry, qy⟩ => exact done J ry qy
  | .next, ⟨τ, Hz, J, qy⟩ => exact done (y := .non) (z := .none) J rfl qy
  | .brk, ⟨_, _, _, qy⟩ => exact qy.elim
  | .cont, ⟨_, _, _, qy⟩ => exact qy.elim
end
structure FDG (P : Program) (w : World) (K : PySem.W.Frag) (mg : Str → Option Value) (base : Heap) (k : Nat) (x : Str) (ps : List Str) (R : List Dm → PyData → Prop) : Prop where
  ex : ∃ f fd, FnG P w K mg base k f fd ps (spD K R) ∧ mg x = some (.ref f) ∧ PySem.W.keepIn K (.ref f) = true ∧ Binds K fd ps []
section
variable {X : Cx} {G : List En} {e : Expr} {es : List Expr} {ms : List Dm}
theorem run_fng {pins : List (Addr × Obj)} {σ : St} {Hq : Hp} {sh : Shared} {Qq : VK} {rs : List Value} {ws : List V} {k : Nat} {fa : Addr} {fc : FuncData} {ps : List Str} {sp : Sp} (F : FnG X.prog X.w X.K X.mg X.base k fa fc ps sp) (hg : X.A.guards = some []) (hr : Room k X.A) (hb : Binds X.K fc ps [])
    (J : Inv X pins σ Hq sh) (r : Vals ws rs) (h : sp ws Hq Qq L2.E0) : wpAny (model X.prog X.w) X.A (call (.ref fa) rs) (L2.EP X pins σ Qq) X.xe sh := by
  have hl : (rs ++ []).length = ps.length := by rw [List.append_nil, ← r.length]; exact F.len _ _ _ _ h
  have bd := hb sh rs J.kIn hl
  rw [List.append_nil] at bd
  refine wpAny_call (codeAny_mono (F.run X.A X.stack sh Hq ⟨rs, []⟩ rs ws Qq L2.E0 hg hr J.env0 bd r h) fun res sz hz => ?_)
  match res, hz with
  | .error _, hz => exact hz.elim
  | .ok (.ret _), hz => exact J.after hz
  | .ok .next, hz => exact hz.elim
  | .ok .brk, hz => exact hz.elim
  | .ok .cont, hz => exact hz.elim
theorem ed_callG {x : Str} {k : Nat} {ps : List Str} {R : List Dm → PyData → Prop} {d : PyData} {p pos : Pos} (F : FDG X.prog X.w X.K X.mg X.base k x ps R) (hg : X.A.guards = some []) (hr : Room k X.A) (ha : AD X G (e :: es) ms) (hR : R ms d) (hgl : Gl X x := by rfl)
    (hdb : (x == ("__debug__" : Str)) = false := by decide) (he : starEach (e :: es) X.env = (false, eval e X.env) :: starEach es X.env := by rfl) (hpl : (backTo pos (starEach es X.env)).any (·.1) = false := by rfl) : ED X G (.Call (.Name x p) (e :: es) [] pos) (.d d) := by
  obtain ⟨f, fd, F1, hm, hk, hb⟩ := F.ex
  refine ⟨fun pins s σ H Q I ⟨O, Oc, E, q⟩ => ?_⟩
  refine wpAny_Call_Name_kw (ld_glob I hgl hm ?_ hdb)
  refine PySem.W.callWith_K (h₀ := X.base) I.ok.mod.kin hk (thn (ha.run pos pins s σ H (fun vs H1 => spD X.K R vs H1 Q L2.E0) I ⟨O, Oc, E, fun vs H1 s1 r1 => ⟨O ++ Oc, ms, d, (E.mono s1).inW, r1, hR, fun v H2 s2 r2 => q v H2 (s1.trans s2) r2⟩⟩) fun us s1 ⟨vs, H1, I1, r, z⟩ => ⟨I1.kIn, ?_⟩) he hpl
  exact run_fng F1 hg hr hb I1 r z
end
theorem fdg_mk {P : Program} {w : World} {K : PySem.W.Frag} {mg : Str → Option Value} {base : Heap} {k : Nat} {x q : Str} {st : Stmt} {N ps : List Str} {R : List Dm → PyData → Prop} (D : DefAt K mg x q st) (hb : ∀ {f fd}, FnP K x q st f fd → Binds K fd ps []) (Sc : FnScope N ps (defScope st)) (hl : ∀ ms d, R ms d → ms.length = ps.length)
    (hbody : ∀ (f : Addr) (cdv : Value) (A : Around) (outer : List Env) (s : Shared) (H : Hp) (E : XK) (ms : List Dm) (d : PyData), A.guards = some [] → Room k (A.deeper (envOfC q (defScope st) s.heap.objs.size f cdv)) → R ms d →
      BD (XC P w K mg base N q (defScope st) f cdv A outer s H E) (envN N ms) (defBody st) (.ret d)) : FDG P w K mg base (k + 1) x ps R := by
  obtain ⟨f, fd, F, m⟩ := D.ex
  refine ⟨f, fd, fng_mk F Sc (fun vs H Q E ⟨W, ms, d, hW, r, hR, _⟩ => (rma_len r).trans (hl ms d hR)) fun cdv A outer s H vs Q E hg hr ⟨W, ms, d, hW, r, hR, q⟩ => ?_, m, F.kp, hb F⟩
  exact ⟨_, hbody f cdv A outer s H E ms d hg hr hR, body_run hW r q⟩
end Tw

set_option maxHeartbeats 4000000
namespace Tw
open PySem PySem.Spec L2
open PyProof.Rows hiding St
theorem fm_congr {α β : Type} {f g : α → Option β} : ∀ l : List α, (∀ i ∈ l, f i = g i) → l.filterMap f = l.filterMap g
  | [], _ => rfl
  | a :: r, h => by rw [List.filterMap_cons, List.filterMap_cons, h a List.mem_cons_self, fm_congr r fun i hi => h i (List.mem_cons_of_mem _ hi)]
theorem rg_fm {α β : Type} (g : α → Option β) (xs : List α) : (List.range xs.length).filterMap (fun i => xs[i]?.bind g) = xs.filterMap g := by
  have key : ∀ (n : Nat) (xs : List α), xs.length = n → (List.range xs.length).filterMap (fun i => xs[i]?.bind g) = xs.filterMap g := fun n => by
   induction n with
   | zero =>
    intro xs e
    rw [List.length_eq_zero_iff.mp e]
    rfl
   | succ n ihn =>
    intro ys e
    have ne : ys ≠ [] := fun z => by rw [z] at e; cases e
    obtain ⟨xs, a, rfl⟩ : ∃ xs a, ys = xs ++ [a] := ⟨_, _, (List.dropLast_concat_getLast ne).symm⟩
    have ih := ihn xs (by simpa using e)
    rw [List.length_append, List.length_singleton, List.range_succ, List.filterMap_append, List.filterMap_append]
    have h1 : (List.range xs.length).filterMap (fun i => (xs ++ [a])[i]?.bind g) = xs.filterMap g := by
      rw [← ih]
      refine fm_congr _ fun i hi => ?_
      rw [List.mem_range] at hi
      rw [List.getElem?_append_left hi]
    have h2 : [xs.length].filterMap (fun i => (xs ++ [a])[i]?.bind g) = [a].filterMap g := by
      rw [List.filterMap_cons, List.filterMap_cons]
      have : (xs ++ [a])[xs.length]? = some a := by simp
      rw [this]
      rfl
    rw [h1, h2]
  exact key _ xs rfl
section
variable {X : Cx} {G : List En} {it elt c : Expr} {scope : Scope} {x : Str} {px pos : Pos} {n : Nat} {Y : Nat → PyData} {α : Type}
/-- [elt for x in it if c] -/
theorem ed_filt (j : Nat) (xs : List α) (Yd : α → PyData) (p : α → Bool) (h : α → PyData) (hI : ItD X G (.Name x px) it n Y) (hY : ∀ i a, xs[i]? = some a → Y i = Yd a) (hn : n = xs.length)
    (ht : ∀ a ∈ xs, ∀ (s : Shared) (H : Hp) (C : Addr) (cl : List (Str × Addr)) (fp : List Addr), TD (XB X s H scope C cl fp) (envJ G j (Yd a)) c (p a))
    (he : ∀ a ∈ xs, p a = true → ∀ (s : Shared) (H : Hp) (C : Addr) (cl : List (Str × Addr)) (fp : List Addr), ED (XB X s H scope C cl fp) (envJ G j (Yd a)) elt (.d (h a))) (hN : X.N.Nodup) (hz : n < 100000)
    (hi : X.N[j]? = some x := by rfl) (hb : blkC X.N X.env.scope scope [(x, j)] = true := by rfl) (hc : X.calm = true := by rfl)
    (hl : ∀ (s : Shared) (H : Hp) (C : Addr) (cl : List (Str × Addr)) (fp : List Addr), (XB X s H scope C cl fp).env.scope.names.lookup x = some .local := by exact fun _ _ _ _ _ => rfl) (hs : ∀ x, foldedSetIterable it X.env x = pure x := by intro _; rfl) :
    ED X G (.ListComp elt [⟨.Name x px, it, [c], 0⟩] scope pos) (.d (.list ((xs.filter p).map h))) := by
  have get : ∀ i, i < n → ∃ a, xs[i]? = some a ∧ a ∈ xs := fun i hi => ⟨xs[i]'(hn ▸ hi), List.getElem?_eq_getElem _, List.getElem_mem _⟩
  refine ed_lc j hI (lc_if j (zs := fun i => xs[i]?.bind fun a => if p a = true then some (h a) else none) hN hi (fun i hi s H C cl fp => ?_) (fun i z hi hz s H C cl fp => ?_) hl) hN hb hz ?_ hc hs
  · obtain ⟨a, e, m⟩ := get i hi
    have q := ht a m s H C cl fp
    rw [hY i a e]
    refine td_is q ?_
    rw [e]
    show p a = (if p a = true then some (h a) else none).isSome
    cases p a <;> rfl
  · obtain ⟨a, e, m⟩ := get i hi
    rw [e] at hz
    have hz' : (if p a = true then some (h a) else none) = some z := hz
    rw [hY i a e]
    split at hz'
    · next pa =>
      cases hz'
      exact he a m pa s H C cl fp
    · cases hz'
  · rw [hn, rg_fm]
    induction xs with
    | nil => rfl
    | cons a r ih =>
      clear get ih hY ht he hn
      generalize a :: r = l
      induction l with
      | nil => rfl
      | cons b s ih2 =>
        rw [List.filterMap_cons, List.filter_cons]
        cases p b with
        | true => simp [ih2]
        | false => simp [ih2]
end
/-! ### the law's own small defs -/
def R_law_whole : List Dm → PyData → Prop := fun ms d => ∃ i : Int, ms = [.d (.int i)] ∧ d = .bool true
def R_law_among : List Dm → PyData → Prop := fun ms d => ∃ i n : Int, ms = [.d (.int i), .d (.int n)] ∧ d = .bool (decide (0 ≤ i) && decide (i < n))
def R_law_two : List Dm → PyData → Prop := fun ms d => ∃ ss : Sg, ss.Good ∧ ms = [.d (.list (ss.map Sy.d))] ∧ d = .list (ss.two.map .str)
def R_law_is_variable : List Dm → PyData → Prop := fun ms d => ∃ x : Str, ms = [.d (.str x)] ∧ x ∈ vNames ∧ d = .bool true
def R_law_is_term (n : Nat) : List Dm → PyData → Prop := fun ms d => ∃ (ss : Sg) (t : Tm), ss.Good ∧ Ok ss t ∧ t.dep ≤ n ∧ ms = [.d (.list (ss.map Sy.d)), .d t.d] ∧ d = .bool true
mutual
def tuB : PyData → Bool
  | .str _ => true
  | .tuple ds => decide (ds.length ≤ 10000) && tuAll ds
  | _ => false
def tuAll : List PyData → Bool
  | [] => true
  | d :: r => tuB d && tuAll r
end
theorem tuAll_get : ∀ {ds : List PyData} {i : Nat} {d : PyData}, tuAll ds = true → ds[i]? = some d → tuB d = true
  | [], _, _, _, h => by simp at h
  | a :: r, 0, d, h, e => by
    simp at e
    subst e
    simp only [tuAll, Bool.and_eq_true] at h
    exact h.1
  | a :: r, i + 1, d, h, e => by
    simp only [tuAll, Bool.and_eq_true] at h
    exact tuAll_get h.2 (by simpa using e)
theorem depAll_get : ∀ {ds : List PyData} {i : Nat} {d : PyData}, ds[i]? = some d → d.depth ≤ PyData.depthAll ds
  | [], _, _, h => by simp at h
  | a :: r, 0, d, e => by
    simp at e
    subst e
    exact Nat.le_max_left _ _
  | a :: r, i + 1, d, e => Nat.le_trans (depAll_get (i := i) (by simpa using e)) (Nat.le_max_right _ _)
def R_law_equal (n : Nat) : List Dm → PyData → Prop := fun ms d => ∃ z : PyData, tuB z = true ∧ z.depth ≤ n ∧ ms = [.d z, .d z] ∧ d = .bool true
section
variable {P : Program} {w : World} {K : PySem.W.Frag} {mg : Str → Option Value} {base : Heap} (B : Bi mg)
include B
theorem fd_law_whole (D : DefAt K mg "_law_whole" "_law_whole" s_law_whole) : FD P w K mg base 1 "_law_whole" P_law_whole R_law_whole := by
  refine fd_mk D (fun F => bn_law_whole F) fun f fd F => fn_mk F sc_law_whole (fun ms d ⟨_, h, _⟩ => by rw [h]; rfl) fun cdv A outer s H E ms d hr ⟨i, h1, h2⟩ => ?_
  subst h1 h2
  exact bd_ret (ed_andT (ed_isInt B (ed_v 0) rfl) (ed_one (ed_not (b := false) (ed_isBool B (ed_v 0) rfl)))) rfl
omit B in
theorem fd_law_among (D : DefAt K mg "_law_among" "_law_among" s_law_among) (F1 : FD P w K mg base 1 "_law_whole" P_law_whole R_law_whole) : FD P w K mg base 2 "_law_among" P_law_among R_law_among := by
  refine fd_mk D (fun F => bn_law_among F) fun f fd F => fn_mk F sc_law_among (fun ms d ⟨_, _, h, _⟩ => by rw [h]; rfl) fun cdv A outer s H E ms d hr ⟨i, n, h1, h2⟩ => ?_
  subst h1 h2
  exact bd_ret (ed_andT (ed_call F1 hr (ad_cons (ed_v 0) ad_nil) ⟨i, rfl, rfl⟩) (ed_and (ed_cmp ed_int (ed_v 0) cmp_le) fun _ => ed_one (ed_cmp (ed_v 0) (ed_v 1) cmp_lt))) rfl
omit B in
theorem fd_law_two (D : DefAt K mg "_law_two" "_law_two" s_law_two) : FD P w K mg base 1 "_law_two" P_law_two R_law_two := by
  refine fd_mk D (fun F => bn_law_two F) fun f fd F => fn_mk F sc_law_two (fun ms d ⟨_, _, h, _⟩ => by rw [h]; rfl) fun cdv A outer s H E ms d hr ⟨ss, g, h1, h2⟩ => ?_
  subst h1 h2
  have lz := g.len
  refine bd_ret (ed_filt 1 ss Sy.d (·.tw) (fun y => .str y.n) (it_l (ed_v 0)) (fun i a h => nth_map h) (List.length_map _) (fun a _ s H C cl fp => td_val (ed_ix (ed_v 1) ed_int (ix_t (atI_nat (i := 2) rfl)))) (fun a _ _ s H C cl fp => ed_ix (ed_v 1) ed_int (ix_t (atI_nat (i := 0) rfl))) sc_law_two.nd (by rw [List.length_map]; omega)) ?_
  show PyData.list _ = .list _
  unfold Sg.two
  rw [List.map_map]
  rfl
theorem fd_law_is_variable (D : DefAt K mg "_law_is_variable" "_law_is_variable" s_law_is_variable) : FD P w K mg base 1 "_law_is_variable" P_law_is_variable R_law_is_variable := by
  refine fd_mk D (fun F => bn_law_is_variable F) fun f fd F => fn_mk F sc_law_is_variable (fun ms d ⟨_, h, _⟩ => by rw [h]; rfl) fun cdv A outer s H E ms d hr ⟨x, h1, h2, h3⟩ => ?_
  subst h1 h3
  obtain ⟨q1, q2, ⟨c, q3, q4'⟩, q5⟩ := vFacts h2
  have q4 : c ∈ (Str.ofString "ABCDEFGHIJKLMNOPQRSTUVWXYZ").cps.toList := q4'
  refine bd_ifF (td_is (wd_or (td_cmp (ed_len B (ed_v 0) (len_z (by omega))) ed_int cmp_lt) fun _ => wd_or (td_cmp (ed_len B (ed_v 0) (len_z (by omega))) ed_int cmp_gt) fun _ => wd_or1 (td_cmp (ed_ix (ed_v 0) ed_int (ix_z q3 (by omega))) ed_str cmp_ninC)).pt ?_) ?_
  · rw [decide_eq_false (by omega), decide_eq_false (by omega), decide_eq_true q4] <;> rfl
  have hz : (cutS x (some 1) none).cps.toList.length ≤ 8 := by
    have q := List.all_eq_true.mp (show (vNames.all fun x => decide ((cutS x (some 1) none).cps.toList.length ≤ 8)) = true by decide +kernel) x h2
    exact of_decide_eq_true q
  have hf : ((cutS x (some 1) none).cps.toList.filter fun k => !decide (k ∈ tDig.cps.toList)) = [] := by
    rw [List.filter_eq_nil_iff]
    intro a ha
    have := List.all_eq_true.mp q5 a ha
    simpa using this
  refine bd_ret (ed_cmp (ed_len B (ed_filt 1 (cutS x (some 1) none).cps.toList (fun k => .str ⟨#[k]⟩) (fun k => !decide (k ∈ tDig.cps.toList)) (fun k => .str ⟨#[k]⟩) (it_z (ed_sl (ed_v 0) (od_some ed_int) od_none (sl_z (by omega)))) (fun i a h => ?_) (by simp) (fun a _ s H C cl fp => td_cmp (ed_v 1) ed_str cmp_ninC) (fun a _ _ s H C cl fp => ed_v 1) sc_law_is_variable.nd (by rw [← Array.length_toList]; omega)) len_l) ed_int cmp_eqI) ?_
  · show PyData.str _ = _
    rw [Array.getD_eq_getD_getElem?, ← Array.getElem?_toList, h] <;> rfl
  · show PyData.bool _ = .bool true
    rw [hf]
    rfl
theorem fd_law_is_term (D : DefAt K mg "_law_is_term" "_law_is_term" s_law_is_term) (F1 : FD P w K mg base 1 "_law_is_variable" P_law_is_variable R_law_is_variable) : ∀ n, FD P w K mg base (n + 2) "_law_is_term" P_law_is_term (R_law_is_term n) := by
  intro n
  induction n using Nat.strongRecOn with
  | ind n ih =>
  refine fd_mk D (fun F => bn_law_is_term F) fun f fd F => fn_mk F sc_law_is_term (fun ms d ⟨_, _, _, _, _, h, _⟩ => by rw [h]; rfl) fun cdv A outer s H E ms d hr ⟨ss, t, g, o, hd, h1, h2⟩ => ?_
  subst h1 h2
  have hN := sc_law_is_term.nd
  cases hv : t.isV with
  | true =>
    obtain ⟨x, rfl⟩ := d_v hv
    exact bd_ifT (fun _ => False) (td_val (ed_isStr B (ed_v 1) rfl)) (bd_ret (ed_call F1 (hr.mono (by omega)) (ad_cons (ed_v 1) ad_nil) ⟨x, rfl, o, rfl⟩) rfl) fun _ z => z.elim
  | false =>
    obtain ⟨i, y, e1, e2, e3⟩ := ok_ap hv o
    have hn := dep_ap hv
    have hF := ih (n - 1) (by omega)
    have ha := args_le t
    have lz := g.len
    rw [d_ap hv]
    refine bd_ifF (td_val (ed_isStr B (ed_v 1) rfl)) ?_
    refine bd_ifF (td_is (wd_or (td_notT (td_val (ed_isTup B (ed_v 1) rfl))) fun _ => wd_or (td_cmp (ed_len B (ed_v 1) len_t) ed_int cmp_eqI) fun _ => wd_or1 (td_notT (td_val (ed_isStr B (ed_ix (ed_v 1) ed_int (ix_t (atI_nat (i := 0) rfl))) rfl)))).pt ?_) ?_
    · rw [decide_eq_false (by simp; omega)] <;> rfl
    refine bd_ifF (td_cmpF (ed_len B (ed_filt 2 ss Sy.d (fun z => decide (z.n = t.hd) && decide ((z.ar : Int) + 1 = ((PyData.str t.hd :: t.args.map Tm.d).length : Nat))) Sy.d (it_l (ed_v 0)) (fun i a h => nth_map h) (List.length_map _)
      (fun a _ s H C cl fp => (wd_and (td_cmp (ed_ix (ed_v 2) ed_int (ix_t (atI_nat (i := 0) rfl))) (ed_ix (ed_v 1) ed_int (ix_t (atI_nat (i := 0) rfl))) cmp_eqS) fun _ => wd_and1 (td_cmp (ed_bin (ed_ix (ed_v 2) ed_int (ix_t (atI_nat (i := 1) rfl))) ed_int bin_add) (ed_len B (ed_v 1) len_t) cmp_eqI)).pt)
      (fun a _ _ s H C cl fp => ed_v 2) hN (by rw [List.length_map]; omega)) len_l) ed_int cmp_eqI (decide_eq_false fun z => ?_)) ?_
    · have z' : (ss.filter fun z => decide (z.n = t.hd) && decide ((z.ar : Int) + 1 = ((PyData.str t.hd :: t.args.map Tm.d).length : Nat))).length = 0 := by
        rw [List.length_map] at z
        omega
      have hm := List.mem_of_getElem? e1
      have : y ∈ ss.filter fun z => decide (z.n = t.hd) && decide ((z.ar : Int) + 1 = ((PyData.str t.hd :: t.args.map Tm.d).length : Nat)) := List.mem_filter.mpr ⟨hm, by rw [e2, e3]; simp⟩
      rw [List.length_eq_zero_iff.mp z'] at this
      cases this
    refine bd_ret (ed_cmp (ed_len B (ed_filt 3 t.args Tm.d (fun _ => false) Tm.d (it_t (ed_sl (ed_v 1) (od_some ed_int) od_none (sl_t cut1))) (fun i a h => nth_map h) (List.length_map _) (fun a ha s H C cl fp => ?_) (fun a _ z => by cases z) hN (by rw [List.length_map]; omega)) len_l) ed_int cmp_eqI) ?_
    · obtain ⟨oa, da, _⟩ := ok_arg o ha
      exact td_notT (td_val (ed_call hF (hr.mono (by omega)) (ad_cons (ed_v 0) (ad_cons (ed_v 3) ad_nil)) ⟨ss, a, g, oa, by omega, rfl, rfl⟩))
    · show PyData.bool _ = .bool true
      have : (t.args.filter fun _ => false) = [] := by simp
      rw [this]
      rfl
theorem fd_law_equal (D : DefAt K mg "_law_equal" "_law_equal" s_law_equal) : ∀ n, FD P w K mg base (n + 1) "_law_equal" P_law_equal (R_law_equal n) := by
  intro n
  induction n using Nat.strongRecOn with
  | ind n ih =>
  refine fd_mk D (fun F => bn_law_equal F) fun f fd F => fn_mk F sc_law_equal (fun ms d ⟨_, _, _, h, _⟩ => by rw [h]; rfl) fun cdv A outer s H E ms d hr ⟨z, hz, hd, h1, h2⟩ => ?_
  subst h1 h2
  have hN := sc_law_equal.nd
  cases z with
  | str x =>
    refine bd_ifT (fun _ => False) (td_val (ed_isStr B (ed_v 1) rfl)) (bd_ret (ed_andT (ed_isStr B (ed_v 0) rfl) (ed_one (ed_cmp (ed_v 0) (ed_v 1) cmp_eqS))) ?_) fun _ z => z.elim
    show PyData.bool _ = .bool true
    rw [decide_eq_true rfl]
  | tuple ds =>
    simp only [tuB, Bool.and_eq_true, decide_eq_true_eq] at hz
    have hdp : PyData.depthAll ds + 1 ≤ n := by
      simp only [PyData.depth] at hd
      omega
    refine bd_ifF (td_val (ed_isStr B (ed_v 1) rfl)) ?_
    refine bd_ifF (td_is (wd_or (td_notT (td_val (ed_isTup B (ed_v 0) rfl))) fun _ => wd_or1 (td_cmp (ed_len B (ed_v 0) len_t) (ed_len B (ed_v 1) len_t) cmp_neI)).pt ?_) ?_
    · rw [decide_eq_true rfl] <;> rfl
    refine bd_for (fun i G => G.set 2 (.val (.d (.int (i : Nat))))) (fun i G' => ∃ y, G' = [.val (.d (.tuple ds)), .val (.d (.tuple ds)), y]) (it_r (ed_len B (ed_v 1) len_t) B.rng (by omega) (by omega)) (pgN 2 hN) (fun i hi => tg_n 2) ⟨.no, rfl⟩ ?_ ?_
    · rintro i G' hi ⟨y, rfl⟩
      have hi' : i < ds.length := by simpa using hi
      obtain ⟨a, ha⟩ : ∃ a, ds[i]? = some a := ⟨_, List.getElem?_eq_getElem hi'⟩
      have h1 := depAll_get ha
      exact bd_ifF (td_notT (td_val (ed_call (ih (n - 1) (by omega)) (hr.mono (by omega)) (ad_cons (ed_ix (ed_v 0) (ed_v 2) (ix_t (atI_nat ha))) (ad_cons (ed_ix (ed_v 1) (ed_v 2) (ix_t (atI_nat ha))) ad_nil)) ⟨a, tuAll_get hz.2 ha, by omega, rfl, rfl⟩))) (bd_nil ⟨_, rfl⟩)
    · rintro G' ⟨y, rfl⟩
      exact bd_ret ed_bl rfl
  | _ => cases hz
end
end Tw

set_option maxHeartbeats 4000000
namespace Tw
open PySem PySem.Spec L2
open PyProof.Rows hiding St
theorem eqP_two (ss : Sg) (g : ss.Good) {i : Nat} {y : Sy} (h : ss[i]? = some y) : ((ss.two.map PyData.str).any fun w => eqP w (.str y.n)) = y.tw := by
  have hm := List.mem_of_getElem? h
  cases ht : y.tw with
  | true =>
    rw [List.any_eq_true]
    refine ⟨.str y.n, List.mem_map.mpr ⟨y.n, List.mem_map.mpr ⟨y, List.mem_filter.mpr ⟨hm, ht⟩, rfl⟩, rfl⟩, ?_⟩
    show (y.n == y.n) = true
    simp
  | false =>
    rw [List.any_eq_false]
    intro w hw
    obtain ⟨n, hn, rfl⟩ := List.mem_map.mp hw
    obtain ⟨z, hz, rfl⟩ := List.mem_map.mp hn
    obtain ⟨hz1, hz2⟩ := List.mem_filter.mp hz
    show ¬ (z.n == y.n) = true
    intro e
    have e' : z.n = y.n := by simpa using e
    have := sy_eq g hz1 hm e'
    subst this
    rw [ht] at hz2
    cases hz2
theorem two_flat (ss : Sg) : (ss.two.map PyData.str).all flatP = true := by
  rw [List.all_eq_true]
  intro w hw
  obtain ⟨n, _, rfl⟩ := List.mem_map.mp hw
  rfl
section
variable {X : Cx} {G : List En} {e : Expr} {p pos : Pos} {ss : Sg}
theorem ed_reprT {t : Tm} (B : Bi X.mg) (hg : X.A.guards = some []) (hu : X.A.units + 200 < cLine) (g : ss.Good) (o : Ok ss t) (hd : t.dep ≤ 64) (hz : t.sz ≤ 1000) (ha : ED X G e (.d t.d)) (hgl : Gl X "repr" := by rfl)
    (he : starEach [e] X.env = (false, eval e X.env) :: starEach [] X.env := by rfl) (hpl : (backTo pos (starEach [] X.env)).any (·.1) = false := by rfl) : ED X G (.Call (.Name "repr" p) [e] [] pos) (.d (.str t.d.shown)) := by
  have hl := len_sh g t o
  have hz2 : t.d.shown.length ≤ sizeLine := sz100 (by omega)
  have hs := showable_d t
  have hdp := depth_d t
  cases t with
  | v x => exact ed_callB (ad_cons ha ad_nil he) (rep_z hz2) B.rep PyProof.Rows.boot_repr hgl (by decide) (by decide) he hpl
  | c f => exact ed_callB (ad_cons ha ad_nil he) (rep_d hg hu ⟨hs.1, hs.2, by omega, hz2⟩ ⟨_, rfl⟩) B.rep PyProof.Rows.boot_repr hgl (by decide) (by decide) he hpl
  | u f t => exact ed_callB (ad_cons ha ad_nil he) (rep_d hg hu ⟨hs.1, hs.2, by omega, hz2⟩ ⟨_, rfl⟩) B.rep PyProof.Rows.boot_repr hgl (by decide) (by decide) he hpl
  | b f s t => exact ed_callB (ad_cons ha ad_nil he) (rep_d hg hu ⟨hs.1, hs.2, by omega, hz2⟩ ⟨_, rfl⟩) B.rep PyProof.Rows.boot_repr hgl (by decide) (by decide) he hpl
end
theorem nf_args {ss : Sg} {lt : Tm → Tm → Bool} {t : Tm} (h : t.isV = false) (n : (ss.tw t.hd = true → False) ∨ ∃ f p q, t = .b f p q ∧ lt (nf ss lt q) (nf ss lt p) = false) : (nf ss lt t).d = .tuple (.str t.hd :: t.args.map fun a => (nf ss lt a).d) := by
  cases t with
  | v x => cases h
  | c f => rfl
  | u f t => rfl
  | b f s t =>
    rw [nf_b, if_neg]
    · rfl
    · rcases n with n | ⟨f', p, q, e, n⟩
      · intro z
        rw [Bool.and_eq_true] at z
        exact n z.1
      · cases e
        rw [n]
        simp
def R_law_form (n : Nat) : List Dm → PyData → Prop := fun ms d => ∃ (ss : Sg) (t : Tm), ss.Good ∧ Ok ss t ∧ t.dep ≤ n ∧ n ≤ 64 ∧ t.sz ≤ 1000 ∧ ms = [.d (.list (ss.two.map .str)), .d t.d] ∧ d = (nf ss ltR t).d
def R_law_concluded (n : Nat) : List Dm → PyData → Prop := fun ms d => ∃ (ss : Sg) (cs : List Pr) (l : Ln) (c : Pr), ss.Good ∧ n ≤ 64 ∧ cs.length ≤ 10000 ∧ Co ss n cs l c ∧ ms = [.d (.list (ss.map Sy.d)), .d (.list []), .bor (cs.map Pr.d), .d l.d] ∧ d = Pr.d c
def R_law_walked (n : Nat) : List Dm → PyData → Prop := fun ms d => ∃ (ss : Sg) (ls : List Ln) (cs : List Pr), ss.Good ∧ n ≤ 64 ∧ Dv ss n ls cs ∧ ls.length ≤ 10000 ∧ ms = [.d (.list (ss.map Sy.d)), .d (.list []), .d (.tuple (ls.map Ln.d))] ∧ d = .list (cs.map Pr.d)
section
variable {P : Program} {w : World} {K : PySem.W.Frag} {mg : Str → Option Value} {base : Heap} (B : Bi mg)
include B
theorem fdg_law_form (D : DefAt K mg "_law_form" "_law_form" s_law_form) : ∀ n, FDG P w K mg base (n + 1) "_law_form" P_law_form (R_law_form n) := by
  intro n
  induction n using Nat.strongRecOn with
  | ind n ih =>
  refine fdg_mk D (fun F => bn_law_form F) sc_law_form (fun ms d ⟨_, _, _, _, _, _, _, h, _⟩ => by rw [h]; rfl) fun f cdv A outer s H E ms d hg hr ⟨ss, t, g, o, hd, hn64, hz, h1, h2⟩ => ?_
  subst h1 h2
  have hN := sc_law_form.nd
  have hgX : (A.deeper (envOfC "_law_form" (defScope s_law_form) s.heap.objs.size f cdv)).guards = some [] := hg
  cases hv : t.isV with
  | true =>
    obtain ⟨x, rfl⟩ := d_v hv
    exact bd_ifT (fun _ => False) (td_val (ed_isStr B (ed_v 1) rfl)) (bd_ret (ed_v 1) rfl) fun _ z => z.elim
  | false =>
    obtain ⟨i, y, e1, e2, e3⟩ := ok_ap hv o
    have hn := dep_ap hv
    have hF := ih (n - 1) (by omega)
    have ha := args_le t
    have etw : ss.tw t.hd = y.tw := by rw [← e2]; exact (g.find (List.mem_of_getElem? e1)).2.1
    have hin : ((ss.two.map PyData.str).any fun w => eqP w (.str t.hd)) = y.tw := by
      rw [← e2]
      exact eqP_two ss g e1
    generalize hD : t.d = D0
    have hD2 := hD
    rw [d_ap hv] at hD2
    subst hD2
    refine bd_ifF (td_val (ed_isStr B (ed_v 1) rfl)) ?_
    refine bd_setComp 2 3 (zs := t.args.map fun a => (nf ss ltR a).d) (it_t (ed_sl (ed_v 1) (od_some ed_int) od_none (sl_t cut1))) (fun i z hi hz s H C cl fp => ?_) (by rw [List.length_map, List.length_map]) hN (by rw [List.length_map]; omega) ?_
    · rw [List.length_map] at hi
      obtain ⟨a, ha⟩ : ∃ a, t.args[i]? = some a := ⟨_, List.getElem?_eq_getElem hi⟩
      obtain ⟨oa, da, za⟩ := ok_arg o (List.mem_of_getElem? ha)
      rw [List.getElem?_map, ha] at hz
      cases hz
      rw [nth_map ha]
      exact ed_callG hF hgX (hr.mono (by omega)) (ad_cons (ed_v 0) (ad_cons (ed_v 3) ad_nil)) ⟨ss, a, g, oa, by omega, by omega, by omega, rfl, rfl⟩
    cases htw : y.tw with
    | false =>
      have hl := nf_args (ss := ss) (lt := ltR) hv (.inl fun z => by rw [etw, htw] at z; cases z)
      rw [hl]
      refine bd_ifF (wd_and (c := false) (b := false) (td_is (td_cmp (ed_ix (ed_v 1) ed_int (ix_t (atI_nat (i := 0) rfl))) (ed_v 0) (cmp_inL rfl (two_flat ss))) (hin.trans htw)) fun z => by cases z).pt ?_
      refine bd_ret (ed_ttup B (ed_bin (ed_l1 (ad_cons (ed_ix (ed_v 1) ed_int (ix_t (atI_nat (i := 0) rfl))) ad_nil)) (ed_v 2) (bin_addL (by simp; omega))) tup_l) rfl
    | true =>
      obtain ⟨f', p, q, rfl⟩ := tw_b g o hv (by rw [etw, htw])
      obtain ⟨_, op, oq⟩ := o
      simp only [Tm.dep] at hd
      simp only [Tm.sz] at hz
      have op' := ok_nf (lt := ltR) p op
      have oq' := ok_nf (lt := ltR) q oq
      refine bd_if (b := true && ltR (nf ss ltR q) (nf ss ltR p)) (fun G' => G' = [.val (.d (.list (ss.two.map .str))), .val (.d (.tuple [.str f', p.d, q.d])), .val (.d (.list (if ltR (nf ss ltR q) (nf ss ltR p) = true then [(nf ss ltR q).d, (nf ss ltR p).d] else [(nf ss ltR p).d, (nf ss ltR q).d]))), .no])
        (wd_and (b := true) (td_is (td_cmp (ed_ix (ed_v 1) ed_int (ix_t (atI_nat (i := 0) rfl))) (ed_v 0) (cmp_inL rfl (two_flat ss))) (hin.trans htw)) fun _ => wd_and1 (td_cmp
          (ed_reprT B hgX (room_u hr) g oq' (by rw [dep_nf]; omega) (by rw [sz_nf]; omega) (ed_ix (ed_v 2) ed_int (ix_l (atI_nat (i := 1) rfl))))
          (ed_reprT B hgX (room_u hr) g op' (by rw [dep_nf]; omega) (by rw [sz_nf]; omega) (ed_ix (ed_v 2) ed_int (ix_l (atI_nat (i := 0) rfl)))) cmp_ltS)).pt (fun hb => ?_) (fun hb => ?_) ?_
      · have hb' : ltR (nf ss ltR q) (nf ss ltR p) = true := by simpa using hb
        refine bd_set 2 (ed_l2 (ad_cons (ed_ix (ed_v 2) ed_int (ix_l (atI_nat (i := 1) rfl))) (ad_cons (ed_ix (ed_v 2) ed_int (ix_l (atI_nat (i := 0) rfl))) ad_nil))) (bd_nil ?_) hN
        show _ = _
        rw [if_pos hb']
        rfl
      · have hb' : ¬ ltR (nf ss ltR q) (nf ss ltR p) = true := by simpa using hb
        refine bd_nil ?_
        show _ = _
        rw [if_neg hb']
        rfl
      · rintro G' rfl
        have e : (nf ss ltR (.b f' p q)).d = .tuple (.str f' :: if ltR (nf ss ltR q) (nf ss ltR p) = true then [(nf ss ltR q).d, (nf ss ltR p).d] else [(nf ss ltR p).d, (nf ss ltR q).d]) := by
          rw [nf_b]
          rw [show ss.tw f' = true from by rw [← htw, ← etw] <;> rfl]
          by_cases hb : ltR (nf ss ltR q) (nf ss ltR p) = true
          · simp [hb, Tm.d]
          · simp [hb, Tm.d]
        rw [e]
        have hl2 : (if ltR (nf ss ltR q) (nf ss ltR p) = true then [(nf ss ltR q).d, (nf ss ltR p).d] else [(nf ss ltR p).d, (nf ss ltR q).d]).length ≤ 2 := by split <;> simp
        refine bd_ret (ed_ttup B (ed_bin (ed_l1 (ad_cons (ed_ix (ed_v 1) ed_int (ix_t (atI_nat (i := 0) rfl))) ad_nil)) (ed_v 2) (bin_addL (Nat.le_trans (Nat.add_le_add_left hl2 1) (by decide)))) tup_l) rfl
end
end Tw

set_option maxHeartbeats 4000000
namespace Tw
open PySem PySem.Spec L2
open PyProof.Rows hiding St
section
variable {X : Cx} {G : List En} {it elt c : Expr} {scope : Scope} {x : Str} {px pos : Pos} {n : Nat} {Y : Nat → PyData} {α : Type} {o : Ou} {rest : List Stmt}
/-- y = [elt for x in it if c] -/
theorem bd_setFilt (i0 j : Nat) {y : Str} {py spos : Pos} (xs : List α) (Yd : α → PyData) (p : α → Bool) (h : α → PyData) (hI : ItD X G (.Name x px) it n Y) (hY : ∀ i a, xs[i]? = some a → Y i = Yd a) (hn : n = xs.length)
    (ht : ∀ a ∈ xs, ∀ (s : Shared) (H : Hp) (C : Addr) (cl : List (Str × Addr)) (fp : List Addr), TD (XB X s H scope C cl fp) (envJ G j (Yd a)) c (p a))
    (he : ∀ a ∈ xs, p a = true → ∀ (s : Shared) (H : Hp) (C : Addr) (cl : List (Str × Addr)) (fp : List Addr), ED (XB X s H scope C cl fp) (envJ G j (Yd a)) elt (.d (h a))) (hN : X.N.Nodup) (hz : n < 100000)
    (hr : BD X (G.set i0 (.val (.d (.list ((xs.filter p).map h))))) rest o) (hi : X.N[j]? = some x := by rfl) (hb : blkC X.N X.env.scope scope [(x, j)] = true := by rfl)
    (hsw : swapsWith (.ListComp elt [⟨.Name x px, it, [c], 0⟩] scope pos) (some (.Name y py)) spos.line X.env = pure true := by rfl) (hi2 : X.N[i0]? = some y := by rfl) (hyl : X.env.scope.names.lookup y = some .local := by rfl) (hc : X.calm = true := by rfl)
    (hl : ∀ (s : Shared) (H : Hp) (C : Addr) (cl : List (Str × Addr)) (fp : List Addr), (XB X s H scope C cl fp).env.scope.names.lookup x = some .local := by exact fun _ _ _ _ _ => rfl) (hs : ∀ x, foldedSetIterable it X.env x = pure x := by intro _; rfl) :
    BD X G (.Assign [.Name y py] (.ListComp elt [⟨.Name x px, it, [c], 0⟩] scope pos) spos :: rest) o := by
  have get : ∀ i, i < n → ∃ a, xs[i]? = some a ∧ a ∈ xs := fun i hi => ⟨xs[i]'(hn ▸ hi), List.getElem?_eq_getElem _, List.getElem_mem _⟩
  refine bd_setLc i0 j hI (lc_if j (zs := fun i => xs[i]?.bind fun a => if p a = true then some (h a) else none) hN hi (fun i hi s H C cl fp => ?_) (fun i z hi hz s H C cl fp => ?_) hl) hN hb hz ?_ hr hsw hi2 hyl hc hs
  · obtain ⟨a, e, m⟩ := get i hi
    have q := ht a m s H C cl fp
    rw [hY i a e]
    refine td_is q ?_
    rw [e]
    show p a = (if p a = true then some (h a) else none).isSome
    cases p a <;> rfl
  · obtain ⟨a, e, m⟩ := get i hi
    rw [e] at hz
    have hz' : (if p a = true then some (h a) else none) = some z := hz
    rw [hY i a e]
    split at hz'
    · next pa =>
      cases hz'
      exact he a m pa s H C cl fp
    · cases hz'
  · rw [hn, rg_fm]
    clear get hY ht he hn hr
    induction xs with
    | nil => rfl
    | cons b s ih2 =>
      rw [List.filterMap_cons, List.filter_cons]
      cases p b with
      | true => simp [ih2]
      | false => simp [ih2]
/-- if word == 'other' and ..: not taken -/
theorem bd_skip {w z : Str} {e e2 : Expr} {es : List Expr} {body : List Stmt} {p1 p2 p3 p4 : Pos} {jj} (he : ED X G e (.d (.str w))) (hw : w ≠ z) (hr : BD X G rest o) (hm : behindInMarks .Eq (.Constant (.str z) jj p1) = false := by first | exact nomark _ | rfl) :
    BD X G (.If (.BoolOp .And (.Compare e [.Eq] [.Constant (.str z) jj p1] p2 :: e2 :: es) p3) body [] p4 :: rest) o :=
  bd_ifF (wd_and (b := false) (c := false) (td_cmpF he ed_str cmp_eqS (decide_eq_false hw) hm) fun q => by cases q).pt hr
end
theorem cut2 {x y : PyData} {xs : List PyData} : cutP (x :: y :: xs) (some 2) none = xs := by
  unfold cutP
  simp [HT.sIx]
theorem nd_of_map {α β : Type} {f : α → β} : ∀ {l : List α}, (l.map f).Nodup → l.Nodup
  | [], _ => List.nodup_nil
  | a :: r, h => by
    rw [List.map_cons, List.nodup_cons] at h
    rw [List.nodup_cons]
    exact ⟨fun m => h.1 (List.mem_map.mpr ⟨a, m, rfl⟩), nd_of_map h.2⟩
theorem filter_one {ss : Sg} (g : ss.Good) {y : Sy} (hy : y ∈ ss) (p : Sy → Bool) (h1 : p y = true) (h2 : ∀ s ∈ ss, p s = true → s.n = y.n) : ss.filter p = [y] := by
  have nd := nd_of_map g.nd
  have key : ∀ l : List Sy, l.Nodup → (∀ s ∈ l, s = y) → y ∈ l → l = [y]
    | [], _, _, h => by cases h
    | [a], _, h, _ => by rw [h a List.mem_cons_self]
    | a :: b :: r, nd, h, _ => by
      have e1 := h a List.mem_cons_self
      have e2 := h b (List.mem_cons_of_mem _ List.mem_cons_self)
      rw [List.nodup_cons] at nd
      rw [e1, e2] at nd
      exact absurd List.mem_cons_self nd.1
  refine key _ (nd.filter _) (fun s hs => ?_) (List.mem_filter.mpr ⟨hy, h1⟩)
  obtain ⟨a, b⟩ := List.mem_filter.mp hs
  exact sy_eq g a hy (h2 s a b)
section
variable {P : Program} {w : World} {K : PySem.W.Frag} {mg : Str → Option Value} {base : Heap} (B : Bi mg)
include B
theorem fd_law_concluded {n k : Nat} (D : DefAt K mg "_law_concluded" "_law_concluded" s_law_concluded) (F1 : FD P w K mg base k "_law_is_term" P_law_is_term (R_law_is_term n)) (F2 : FD P w K mg base 1 "_law_two" P_law_two R_law_two) (F3 : FD P w K mg base 2 "_law_among" P_law_among R_law_among) (hk : 2 ≤ k) :
    FD P w K mg base (k + 1) "_law_concluded" P_law_concluded (R_law_concluded n) := by
  refine fd_mk D (fun F => bn_law_concluded F) fun f fd F => fn_mk F sc_law_concluded (fun ms d ⟨_, _, _, _, _, _, _, _, h, _⟩ => by rw [h]; rfl) fun cdv A outer s H E ms d hr ⟨ss, cs, l, c, g, hn, hcl, hc, h1, h2⟩ => ?_
  subst h1 h2
  have hN := sc_law_concluded.nd
  have hr2 : Room 2 (A.deeper (envOfC "_law_concluded" (defScope s_law_concluded) s.heap.objs.size f cdv)) := hr.mono hk
  have hr1 : Room 1 (A.deeper (envOfC "_law_concluded" (defScope s_law_concluded) s.heap.objs.size f cdv)) := hr.mono (by omega)
  have lz := g.len
  have hit : ∀ {i : Nat} {q : Pr}, cs[i]? = some q → (cs.map Pr.d)[i]? = some (Pr.d q) := fun h => by rw [List.getElem?_map, h] <;> rfl
  cases hc with
  | same t o hd =>
    refine bd_ifF (wd_or (td_notT (td_val (ed_isTup B (ed_v 3) rfl))) fun _ => wd_or (td_cmpF (ed_len B (ed_v 3) (len_t (xs := [.str "same", t.d]))) ed_int cmp_lt rfl) fun _ => wd_or1 (td_notT (td_val (ed_isStr B (ed_ix (ed_v 3) ed_int (ix_t (xs := [.str "same", t.d]) (atI_nat (i := 0) rfl))) rfl)))).pt ?_
    refine bd_set 4 (ed_ix (ed_v 3) ed_int (ix_t (xs := [.str "same", t.d]) (atI_nat (i := 0) rfl))) ?_ hN
    refine bd_set 5 (ed_len B (ed_v 3) (len_t (xs := [.str "same", t.d]))) ?_ hN
    refine bd_set 6 (ed_len B (ed_v 2) len_b) ?_ hN
    refine bd_skip (ed_v 4) (by decide) ?_
    exact bd_ifT (fun _ => False) (wd_and (td_cmpT (ed_v 4) ed_str cmp_eqS rfl) fun _ => wd_and (td_cmpT (ed_v 5) ed_int cmp_eqI rfl) fun _ => wd_and1 (td_val (ed_call F1 hr (ad_cons (ed_v 0) (ad_cons (ed_ix (ed_v 3) ed_int (ix_t (xs := [.str "same", t.d]) (atI_nat (i := 1) rfl))) ad_nil)) ⟨ss, t, g, o, hd, rfl, rfl⟩))).pt
      (bd_ret (ed_t2 (ad_cons (ed_ix (ed_v 3) ed_int (ix_t (xs := [.str "same", t.d]) (atI_nat (i := 1) rfl))) (ad_cons (ed_ix (ed_v 3) ed_int (ix_t (xs := [.str "same", t.d]) (atI_nat (i := 1) rfl))) ad_nil))) rfl) fun _ z => z.elim
  | turn i y p q hi ht op oq dp dq =>
    have hin := (eqP_two ss g hi).trans ht
    refine bd_ifF (wd_or (td_notT (td_val (ed_isTup B (ed_v 3) rfl))) fun _ => wd_or (td_cmpF (ed_len B (ed_v 3) (len_t (xs := [.str "turn", .str y.n, p.d, q.d]))) ed_int cmp_lt rfl) fun _ => wd_or1 (td_notT (td_val (ed_isStr B (ed_ix (ed_v 3) ed_int (ix_t (xs := [.str "turn", .str y.n, p.d, q.d]) (atI_nat (i := 0) rfl))) rfl)))).pt ?_
    refine bd_set 4 (ed_ix (ed_v 3) ed_int (ix_t (xs := [.str "turn", .str y.n, p.d, q.d]) (atI_nat (i := 0) rfl))) ?_ hN
    refine bd_set 5 (ed_len B (ed_v 3) (len_t (xs := [.str "turn", .str y.n, p.d, q.d]))) ?_ hN
    refine bd_set 6 (ed_len B (ed_v 2) len_b) ?_ hN
    refine bd_skip (ed_v 4) (by decide) ?_
    refine bd_skip (ed_v 4) (by decide) ?_
    have i1 : IxD (XC P w K mg base N_law_concluded "_law_concluded" (defScope s_law_concluded) f cdv A outer s H E) (.d (.tuple [.str "turn", .str y.n, p.d, q.d])) (.d (.int 1)) (.d (.str y.n)) := ix_t (atI_nat (i := 1) rfl)
    have i2 : IxD (XC P w K mg base N_law_concluded "_law_concluded" (defScope s_law_concluded) f cdv A outer s H E) (.d (.tuple [.str "turn", .str y.n, p.d, q.d])) (.d (.int 2)) (.d p.d) := ix_t (atI_nat (i := 2) rfl)
    have i3 : IxD (XC P w K mg base N_law_concluded "_law_concluded" (defScope s_law_concluded) f cdv A outer s H E) (.d (.tuple [.str "turn", .str y.n, p.d, q.d])) (.d (.int 3)) (.d q.d) := ix_t (atI_nat (i := 3) rfl)
    refine bd_ifT (fun _ => False) (wd_and (td_cmpT (ed_v 4) ed_str cmp_eqS rfl) fun _ => wd_and (td_cmpT (ed_v 5) ed_int cmp_eqI rfl) fun _ => wd_and (td_val (ed_isStr B (ed_ix (ed_v 3) ed_int i1) rfl)) fun _ => wd_and1 (td_cmpT (ed_ix (ed_v 3) ed_int i1) (ed_call F2 hr1 (ad_cons (ed_v 0) ad_nil) ⟨ss, g, rfl, rfl⟩) (cmp_inL rfl (two_flat ss)) hin)).pt ?_ fun _ z => z.elim
    exact bd_ifT (fun _ => False) (wd_and (td_val (ed_call F1 hr (ad_cons (ed_v 0) (ad_cons (ed_ix (ed_v 3) ed_int i2) ad_nil)) ⟨ss, p, g, op, dp, rfl, rfl⟩)) fun _ => wd_and1 (td_val (ed_call F1 hr (ad_cons (ed_v 0) (ad_cons (ed_ix (ed_v 3) ed_int i3) ad_nil)) ⟨ss, q, g, oq, dq, rfl, rfl⟩))).pt
      (bd_ret (ed_t2 (ad_cons (ed_t3 (ad_cons (ed_ix (ed_v 3) ed_int i1) (ad_cons (ed_ix (ed_v 3) ed_int i2) (ad_cons (ed_ix (ed_v 3) ed_int i3) ad_nil)))) (ad_cons (ed_t3 (ad_cons (ed_ix (ed_v 3) ed_int i1) (ad_cons (ed_ix (ed_v 3) ed_int i3) (ad_cons (ed_ix (ed_v 3) ed_int i2) ad_nil)))) ad_nil))) rfl) fun _ z => z.elim
  | chain i j a b c ob db h1 h2 =>
    have hi1 := (List.getElem?_eq_some_iff.mp h1).1
    have hi2 := (List.getElem?_eq_some_iff.mp h2).1
    refine bd_ifF (wd_or (td_notT (td_val (ed_isTup B (ed_v 3) rfl))) fun _ => wd_or (td_cmpF (ed_len B (ed_v 3) (len_t (xs := [.str "chain", .int (i : Nat), .int (j : Nat)]))) ed_int cmp_lt rfl) fun _ => wd_or1 (td_notT (td_val (ed_isStr B (ed_ix (ed_v 3) ed_int (ix_t (xs := [.str "chain", .int (i : Nat), .int (j : Nat)]) (atI_nat (i := 0) rfl))) rfl)))).pt ?_
    refine bd_set 4 (ed_ix (ed_v 3) ed_int (ix_t (xs := [.str "chain", .int (i : Nat), .int (j : Nat)]) (atI_nat (i := 0) rfl))) ?_ hN
    refine bd_set 5 (ed_len B (ed_v 3) (len_t (xs := [.str "chain", .int (i : Nat), .int (j : Nat)]))) ?_ hN
    refine bd_set 6 (ed_len B (ed_v 2) len_b) ?_ hN
    refine bd_skip (ed_v 4) (by decide) ?_
    refine bd_skip (ed_v 4) (by decide) ?_
    refine bd_skip (ed_v 4) (by decide) ?_
    refine bd_skip (ed_v 4) (by decide) ?_
    have i1 : IxD (XC P w K mg base N_law_concluded "_law_concluded" (defScope s_law_concluded) f cdv A outer s H E) (.d (.tuple [.str "chain", .int (i : Nat), .int (j : Nat)])) (.d (.int 1)) (.d (.int (i : Nat))) := ix_t (atI_nat (i := 1) rfl)
    have i2 : IxD (XC P w K mg base N_law_concluded "_law_concluded" (defScope s_law_concluded) f cdv A outer s H E) (.d (.tuple [.str "chain", .int (i : Nat), .int (j : Nat)])) (.d (.int 2)) (.d (.int (j : Nat))) := ix_t (atI_nat (i := 2) rfl)
    have am : ∀ m : Nat, m < cs.length → (decide (0 ≤ (m : Int)) && decide ((m : Int) < ((cs.map Pr.d).length : Nat))) = true := fun m h => by
      rw [decide_eq_true (by omega), decide_eq_true (by rw [List.length_map]; omega)]
      rfl
    refine bd_ifT (fun _ => False) (wd_and (td_cmpT (ed_v 4) ed_str cmp_eqS rfl) fun _ => wd_and (td_cmpT (ed_v 5) ed_int cmp_eqI rfl) fun _ => wd_and (td_is (td_val (ed_call F3 hr2 (ad_cons (ed_ix (ed_v 3) ed_int i1) (ad_cons (ed_v 6) ad_nil)) ⟨_, _, rfl, rfl⟩)) (am i hi1)) fun _ => wd_and1 (td_is (td_val (ed_call F3 hr2 (ad_cons (ed_ix (ed_v 3) ed_int i2) (ad_cons (ed_v 6) ad_nil)) ⟨_, _, rfl, rfl⟩)) (am j hi2))).pt ?_ fun _ z => z.elim
    have g1 := ix_b (X := XC P w K mg base N_law_concluded "_law_concluded" (defScope s_law_concluded) f cdv A outer s H E) (atI_nat (hit h1))
    have g2 := ix_b (X := XC P w K mg base N_law_concluded "_law_concluded" (defScope s_law_concluded) f cdv A outer s H E) (atI_nat (hit h2))
    have sb := shaped_d g ob (by omega)
    exact bd_ifT (fun _ => False) (td_cmpT (ed_ix (ed_ix (ed_v 2) (ed_ix (ed_v 3) ed_int i1) g1) ed_int (ix_t (xs := [a.d, b.d]) (atI_nat (i := 1) rfl))) (ed_ix (ed_ix (ed_v 2) (ed_ix (ed_v 3) ed_int i2) g2) ed_int (ix_t (xs := [b.d, c.d]) (atI_nat (i := 0) rfl))) (cmp_eqD (room64 hr) sb sb) (by rw [eqv_d]; simp))
      (bd_ret (ed_t2 (ad_cons (ed_ix (ed_ix (ed_v 2) (ed_ix (ed_v 3) ed_int i1) g1) ed_int (ix_t (xs := [a.d, b.d]) (atI_nat (i := 0) rfl))) (ad_cons (ed_ix (ed_ix (ed_v 2) (ed_ix (ed_v 3) ed_int i2) g2) ed_int (ix_t (xs := [b.d, c.d]) (atI_nat (i := 1) rfl))) ad_nil))) rfl) fun _ z => z.elim
  | within i y ns qs hi hq hl hy hm =>
    have hyv := List.mem_of_getElem? hi
    generalize hLD : PyData.tuple (.str "within" :: .str y.n :: ns.map fun n : Nat => .int (n : Nat)) = LD
    have hLd : (Ln.within y.n ns).d = LD := hLD
    rw [hLd]
    subst hLD
    refine bd_ifF (wd_or (td_notT (td_val (ed_isTup B (ed_v 3) rfl))) fun _ => wd_or (td_cmpF (ed_len B (ed_v 3) len_t) ed_int cmp_lt (decide_eq_false (by rw [List.length_cons, List.length_cons]; omega))) fun _ => wd_or1 (td_notT (td_val (ed_isStr B (ed_ix (ed_v 3) ed_int (ix_t (atI_nat (i := 0) rfl))) rfl)))).pt ?_
    refine bd_set 4 (ed_ix (ed_v 3) ed_int (ix_t (atI_nat (i := 0) rfl))) ?_ hN
    refine bd_set 5 (ed_len B (ed_v 3) len_t) ?_ hN
    refine bd_set 6 (ed_len B (ed_v 2) len_b) ?_ hN
    refine bd_skip (ed_v 4) (by decide) ?_
    refine bd_skip (ed_v 4) (by decide) ?_
    refine bd_skip (ed_v 4) (by decide) ?_
    refine bd_skip (ed_v 4) (by decide) ?_
    refine bd_skip (ed_v 4) (by decide) ?_
    refine bd_ifT (fun _ => False) (wd_and (td_cmpT (ed_v 4) ed_str cmp_eqS rfl) fun _ => wd_and1 (td_val (ed_isStr B (ed_ix (ed_v 3) ed_int (ix_t (atI_nat (i := 1) rfl))) rfl))).pt ?_ fun _ z => z.elim
    have ll : (PyData.str "within" :: .str y.n :: ns.map fun n : Nat => PyData.int (n : Nat)).length = y.ar + 2 := by simp [hl]
    refine bd_setFilt 7 12 ss Sy.d (fun z => decide (z.n = y.n) && decide ((z.ar : Int) + 2 = ((PyData.str "within" :: .str y.n :: ns.map fun n : Nat => PyData.int (n : Nat)).length : Nat))) Sy.d (it_l (ed_v 0)) (fun i a h => nth_map h) (List.length_map _)
      (fun a _ s H C cl fp => (wd_and (td_cmp (ed_ix (ed_v 12) ed_int (ix_t (atI_nat (i := 0) rfl))) (ed_ix (ed_v 3) ed_int (ix_t (atI_nat (i := 1) rfl))) cmp_eqS) fun _ => wd_and1 (td_cmp (ed_bin (ed_ix (ed_v 12) ed_int (ix_t (atI_nat (i := 1) rfl))) ed_int bin_add) (ed_v 5) cmp_eqI)).pt)
      (fun a _ _ s H C cl fp => ed_v 12) hN (by rw [List.length_map]; omega) ?_
    have hfit := filter_one g hyv (fun z => decide (z.n = y.n) && decide ((z.ar : Int) + 2 = ((PyData.str "within" :: .str y.n :: ns.map fun n : Nat => PyData.int (n : Nat)).length : Nat))) (by rw [ll]; simp) (fun s hs hp => by
      rw [Bool.and_eq_true] at hp
      exact of_decide_eq_true hp.1)
    rw [hfit]
    have hlt : ∀ m ∈ ns, m < cs.length := fun m hmm => by
      obtain ⟨k', hk', e⟩ := List.mem_iff_getElem.mp hmm
      obtain ⟨q, _, h2⟩ := hm k' m (by rw [List.getElem?_eq_getElem hk', e])
      exact (List.getElem?_eq_some_iff.mp h2).1
    refine bd_setFilt 8 11 ns (fun n : Nat => .int (n : Nat)) (fun m : Nat => decide (0 ≤ (m : Int)) && decide ((m : Int) < ((cs.map Pr.d).length : Nat))) (fun m => nthP (cs.map Pr.d) m) (it_t (ed_sl (ed_v 3) (od_some ed_int) od_none (sl_t (cut2 (xs := ns.map fun n : Nat => PyData.int (n : Nat)))))) (fun i a h => nth_map (g := fun n : Nat => PyData.int (n : Nat)) h) (List.length_map _)
      (fun a _ s H C cl fp => td_val (ed_call F3 hr2 (ad_cons (ed_v 11) (ad_cons (ed_v 6) ad_nil)) ⟨_, _, rfl, rfl⟩)) (fun m hmm _ s H C cl fp => ?_) hN (by rw [List.length_map]; omega) ?_
    · have h := hlt m hmm
      have e : (cs.map Pr.d)[m]? = some (nthP (cs.map Pr.d) m) := by
        rw [nthP_get (List.getElem?_eq_getElem (by rw [List.length_map]; exact h))]
        exact List.getElem?_eq_getElem _
      exact ed_ix (ed_v 2) (ed_v 11) (ix_b (atI_nat e))
    have hkn : ((ns.filter fun m : Nat => decide (0 ≤ (m : Int)) && decide ((m : Int) < ((cs.map Pr.d).length : Nat))).map fun m => nthP (cs.map Pr.d) m) = qs.map Pr.d := by
      have e1 : (ns.filter fun m : Nat => decide (0 ≤ (m : Int)) && decide ((m : Int) < ((cs.map Pr.d).length : Nat))) = ns := List.filter_eq_self.mpr fun m hmm => by
        have := hlt m hmm
        rw [decide_eq_true (by omega), decide_eq_true (by rw [List.length_map]; omega)]
        rfl
      rw [e1]
      apply List.ext_getElem
      · simp; omega
      · intro k' h1 h2
        rw [List.length_map] at h1
        obtain ⟨q, a1, a2⟩ := hm k' _ (List.getElem?_eq_getElem h1)
        rw [List.getElem_map, List.getElem_map, nth_map a2]
        rw [List.length_map] at h2
        rw [List.getElem?_eq_getElem h2] at a1
        rw [Option.some.inj a1]
    rw [hkn]
    have lq : (qs.map Pr.d).length = y.ar := by rw [List.length_map, hq]
    refine bd_ifT (fun _ => False) (wd_and (td_cmpT (ed_len B (ed_v 7) len_l) ed_int cmp_eqI rfl) fun _ => wd_and1 (td_cmpT (ed_bin (ed_len B (ed_v 8) len_l) ed_int bin_add) (ed_v 5) cmp_eqI (decide_eq_true (by rw [ll, lq]; omega)))).pt ?_ fun _ z => z.elim
    have hlen : qs.length ≤ 2 := by omega
    have e1 : Pr.d (mkT y.n (qs.map (·.1)), mkT y.n (qs.map (·.2))) = .tuple [.tuple (.str y.n :: qs.map fun q => q.1.d), .tuple (.str y.n :: qs.map fun q => q.2.d)] := by
      show PyData.tuple [_, _] = _
      rw [mkT_d (by simp; omega), mkT_d (by simp; omega)]
      simp [Function.comp_def]
    rw [e1]
    refine bd_set 9 (ed_ttup B (ed_bin (ed_l1 (a1 := .str y.n) (ad_cons (ed_ix (ed_v 3) ed_int (ix_t (atI_nat (i := 1) rfl))) ad_nil)) (ed_comp 13 (zs := qs.map fun q : Pr => q.1.d) (it_l (ed_v 8)) (fun k' z hk' hz s H C cl fp => ?_) (by rw [List.length_map, List.length_map]) hN (by rw [lq]; omega)) (bin_addL (by simp; omega))) tup_l) ?_ hN
    · rw [lq] at hk'
      obtain ⟨q, hq'⟩ : ∃ q, qs[k']? = some q := ⟨_, List.getElem?_eq_getElem (by omega)⟩
      rw [List.getElem?_map, hq'] at hz
      cases hz
      rw [nth_map hq']
      exact ed_ix (ed_v 13) ed_int (ix_t (atI_nat (i := 0) rfl))
    refine bd_ret (ed_t2 (ad_cons (ed_v 9) (ad_cons (ed_ttup B (ed_bin (ed_l1 (a1 := .str y.n) (ad_cons (ed_ix (ed_v 3) ed_int (ix_t (atI_nat (i := 1) rfl))) ad_nil)) (ed_comp 13 (zs := qs.map fun q : Pr => q.2.d) (it_l (ed_v 8)) (fun k' z hk' hz s H C cl fp => ?_) (by rw [List.length_map, List.length_map]) hN (by rw [lq]; omega)) (bin_addL (by simp; omega))) tup_l) ad_nil))) rfl
    · rw [lq] at hk'
      obtain ⟨q, hq'⟩ : ∃ q, qs[k']? = some q := ⟨_, List.getElem?_eq_getElem (by omega)⟩
      rw [List.getElem?_map, hq'] at hz
      cases hz
      rw [nth_map hq']
      exact ed_ix (ed_v 13) ed_int (ix_t (atI_nat (i := 1) rfl))
theorem fd_law_walked {n k : Nat} (D : DefAt K mg "_law_walked" "_law_walked" s_law_walked) (F1 : FD P w K mg base k "_law_concluded" P_law_concluded (R_law_concluded n)) : FD P w K mg base (k + 1) "_law_walked" P_law_walked (R_law_walked n) := by
  refine fd_mk D (fun F => bn_law_walked F) fun f fd F => fn_mk F sc_law_walked (fun ms d ⟨_, _, _, _, _, _, _, h, _⟩ => by rw [h]; rfl) fun cdv A outer s H E ms d hr ⟨ss, ls, cs, g, hn, hv, hl, h1, h2⟩ => ?_
  subst h1 h2
  have hN := sc_law_walked.nd
  have hlen := hv.len
  refine bd_ifF (td_notT (td_val (ed_isTup B (ed_v 2) rfl))) ?_
  refine bd_setO 3 (ds := []) ad_nil ?_ hN
  refine bd_for (fun i G => G.set 4 (.val (.d (nthP (ls.map Ln.d) i)))) (fun i G' => ∃ y z, G' = [.val (.d (.list (ss.map Sy.d))), .val (.d (.list [])), .val (.d (.tuple (ls.map Ln.d))), .own ((cs.take i).map Pr.d), y, z]) (it_t (ed_v 2)) (pgN 4 hN) (fun i hi => tg_n 4) ⟨.no, .no, rfl⟩ ?_ ?_
  · rintro i G' hi ⟨y, z, rfl⟩
    rw [List.length_map] at hi
    obtain ⟨l, h1⟩ : ∃ l, ls[i]? = some l := ⟨_, List.getElem?_eq_getElem hi⟩
    obtain ⟨c, h2, h3⟩ := hv.at i l h1
    rw [nth_map h1]
    refine bd_set 5 (ed_call F1 hr (ad_cons (ed_v 0) (ad_cons (ed_v 1) (ad_cons (ed_o 3) (ad_cons (ed_v 4) ad_nil)))) ⟨ss, cs.take i, l, c, g, hn, by rw [List.length_take]; omega, h3, rfl, rfl⟩) ?_ hN
    refine bd_ifF (td_cmp (ed_v 5) ed_non cmp_isN) ?_
    refine bd_app 3 (ed_v 5) (bd_nil ⟨.val (.d l.d), .val (.d (Pr.d c)), ?_⟩) rfl (by simp; omega)
    show _ = _
    rw [List.take_succ, h2, List.map_append]
    rfl
  · rintro G' ⟨y, z, rfl⟩
    refine bd_free 3 (bd_ret (ed_v 3) ?_)
    show PyData.list _ = .list _
    rw [List.length_map, List.take_of_length_le (by omega)]
end
end Tw

set_option maxHeartbeats 4000000
namespace Tw
open PySem PySem.Spec L2
open PyProof.Rows hiding St
abbrev intsD (ds : List Int) : PyData := .list (ds.map .int)
theorem ints_inj : ∀ {zs ys : List Int}, zs.map PyData.int = ys.map PyData.int → zs = ys
  | [], [], _ => rfl
  | a :: r, b :: s, h => by
    injection h with h1 h2
    injection h1 with h1
    rw [h1, ints_inj h2]
  | [], _ :: _, h => by cases h
  | _ :: _, [], h => by cases h
def Pre_law_cell (ms : List Dm) : Prop := ∃ (ns : List Int) (k : Nat), k ≤ 1000 ∧ ms = [.scr ns, .d (.int (k : Nat))]
def Po_law_cell (ms : List Dm) (d : PyData) : Prop := ∃ i : Int, d = .int i
/-- digits below their sizes -/
def Digs (zs ds : List Int) : Prop := ds.length = zs.length ∧ ∀ (i : Nat) (z a : Int), zs[i]? = some z → ds[i]? = some a → 0 ≤ a ∧ a < z
def Pre_law_digits (ms : List Dm) : Prop := ∃ (c : Int) (zs : List Int), zs.length ≤ 1000 ∧ (∀ z ∈ zs, 0 < z ∧ z < 1000000) ∧ ms = [.d (.int c), .d (intsD zs)]
def Po_law_digits (ms : List Dm) (d : PyData) : Prop := ∀ (c : Int) (zs : List Int), ms = [.d (.int c), .d (intsD zs)] → ∃ ds, Digs zs ds ∧ d = intsD ds
def Pre_law_menu (ms : List Dm) : Prop := ∃ i : Int, 0 ≤ i ∧ i < 1000000 ∧ ms = [.d (.int i), .d (.int 3)]
def Po_law_menu (ms : List Dm) (d : PyData) : Prop := ∃ xs : List Str, xs.length = 3 ∧ (∀ x ∈ xs, x ∈ vNames) ∧ d = .list (xs.map .str)
theorem menuV {i : Int} (h0 : 0 ≤ i) (h8 : i < 8) : ∃ x ∈ vNames, atI [PyData.str "X", .str "Y1", .str "X10010", .str "X1", .str "Y", .str "X2", .str "X01", .str "X10011"] i = some (.str x) := by
  have : i = 0 ∨ i = 1 ∨ i = 2 ∨ i = 3 ∨ i = 4 ∨ i = 5 ∨ i = 6 ∨ i = 7 := by omega
  rcases this with e | e | e | e | e | e | e | e <;> subst e
  · exact ⟨"X", by decide, rfl⟩
  · exact ⟨"Y1", by decide, rfl⟩
  · exact ⟨"X10010", by decide, rfl⟩
  · exact ⟨"X1", by decide, rfl⟩
  · exact ⟨"Y", by decide, rfl⟩
  · exact ⟨"X2", by decide, rfl⟩
  · exact ⟨"X01", by decide, rfl⟩
  · exact ⟨"X10011", by decide, rfl⟩
section
variable {P : Program} {w : World} {K : PySem.W.Frag} {mg : Str → Option Value} {base : Heap} (B : Bi mg)
include B
theorem fx_law_cell (D : DefAt K mg "_law_cell" "_law_cell" s_law_cell) : FX P w K mg base 1 "_law_cell" P_law_cell Pre_law_cell Po_law_cell := by
  refine fxd_mk D (fun F => bn_law_cell F) fun f fd F => fx_mk F sc_law_cell (fun ms ⟨_, _, _, h⟩ => by rw [h]; rfl) fun cdv A outer s H E ms hr ⟨ns, k, hk, h1⟩ => ?_
  subst h1
  have hN := sc_law_cell.nd
  refine bd_ifR (td_cmp (ed_v 1) (ed_len B (ed_v 0) len_s) cmp_lt) (fun hb => ?_) fun hb => ?_
  · have hb' : (k : Int) < ns.length := of_decide_eq_true hb
    have hk' : k < ns.length := by omega
    exact bd_ret (ed_ix (ed_v 0) (ed_v 1) (ix_s (atI_nat (List.getElem?_eq_getElem hk')))) ⟨_, rfl⟩
  refine bd_set 2 ed_int ?_ hN
  refine bd_for (fun i G => G.set 3 (.val (.d (.int (ns.getD i 0))))) (fun i G' => ∃ (z : Int) (y : En), 0 ≤ z ∧ z < 1000003 ∧ G' = [.val (.scr ns), .val (.d (.int (k : Nat))), .val (.d (.int z)), y]) (it_s (ed_v 0)) (pgN 3 hN) (fun i hi => tg_n 3) ⟨17, .no, by decide, by decide, rfl⟩ ?_ ?_
  · rintro i G' hi ⟨z, y, z0, z1, rfl⟩
    refine bd_set 2 (ed_bin (ed_tint B (ed_bin (ed_bin (ed_v 2) ed_int (bin_mul (.inl ⟨by omega, by omega⟩))) (ed_bin (ed_tint B (ed_v 3) int_i) ed_int (bin_mod (by decide))) bin_add) int_i) ed_int (bin_mod (by decide))) (bd_nil ⟨_, _, Int.emod_nonneg _ (by decide), Int.emod_lt_of_pos _ (by decide), rfl⟩) hN
  · rintro G' ⟨z, y, z0, z1, rfl⟩
    refine bd_ret (ed_bin (ed_tint B (ed_bin (ed_bin (ed_bin (ed_v 2) ed_int bin_add) (ed_bin (ed_v 1) ed_int bin_add) (bin_mul (.inl ⟨by omega, by omega⟩))) ed_int (bin_mul (.inr ⟨by decide, by decide⟩))) int_i) ed_int (bin_mod (by decide))) ⟨_, rfl⟩
theorem fx_law_digits (D : DefAt K mg "_law_digits" "_law_digits" s_law_digits) : FX P w K mg base 1 "_law_digits" P_law_digits Pre_law_digits Po_law_digits := by
  refine fxd_mk D (fun F => bn_law_digits F) fun f fd F => fx_mk F sc_law_digits (fun ms ⟨_, _, _, _, h⟩ => by rw [h]; rfl) fun cdv A outer s H E ms hr ⟨c, zs, hl, hz, h1⟩ => ?_
  subst h1
  have hN := sc_law_digits.nd
  have hlm : (zs.map PyData.int).length = zs.length := List.length_map _
  have fin : ∀ ds, Digs zs ds → Po_law_digits [.d (.int c), .d (intsD zs)] (intsD ds) := fun ds hd c' zs' e => by
    injection e with e1 e2
    injection e2 with e2 _
    have e3 : intsD zs = intsD zs' := by injection e2
    have e4 : zs = zs' := by
      have e5 : zs.map PyData.int = zs'.map PyData.int := by injection e3
      exact ints_inj e5
    subst e4
    exact ⟨ds, hd, rfl⟩
  have snoc : ∀ {i : Nat} {ds : List Int} {z a : Int}, ds.length = i → zs[i]? = some z → 0 ≤ a → a < z → (∀ (j : Nat) (z a : Int), zs[j]? = some z → ds[j]? = some a → 0 ≤ a ∧ a < z) → ∀ (j : Nat) (z a' : Int), zs[j]? = some z → (ds ++ [a])[j]? = some a' → 0 ≤ a' ∧ a' < z := fun {i ds z a} hi hzi h0 h1 h j z' a' q1 q2 => by
    rcases Nat.lt_trichotomy j i with q | q | q
    · rw [List.getElem?_append_left (by omega)] at q2
      exact h j z' a' q1 q2
    · subst q
      rw [hzi] at q1
      rw [List.getElem?_append_right (by omega), hi] at q2
      simp at q2
      cases q1
      subst q2
      exact ⟨h0, h1⟩
    · rw [List.getElem?_eq_none (by simp; omega)] at q2
      cases q2
  refine bd_setO 2 (ds := []) ad_nil ?_ hN
  refine bd_set 3 (ed_tint B (ed_v 0) int_i) ?_ hN
  refine bd_ifR (td_cmp (ed_v 3) (ed_bin ed_int ed_int (bin_pow ⟨by decide, by decide, by decide⟩)) cmp_ge) (fun hb => ?_) fun hb => ?_
  · refine bd_set 3 (ed_bin (ed_v 3) (ed_bin ed_int ed_int (bin_pow ⟨by decide, by decide, by decide⟩)) bin_sub) ?_ hN
    refine bd_for (fun i G => G.set 4 (.val (.d (nthP (zs.map PyData.int) i)))) (fun i G' => ∃ (ds : List Int) (r : Int) (y : En), ds.length = i ∧ (∀ (j : Nat) (z a : Int), zs[j]? = some z → ds[j]? = some a → 0 ≤ a ∧ a < z) ∧ G' = [.val (.d (.int c)), .val (.d (intsD zs)), .own (ds.map .int), .val (.d (.int r)), y, .no, .no, .no])
      (it_l (ed_v 1)) (pgN 4 hN) (fun i hi => tg_n 4) ⟨[], _, .no, rfl, fun j z a _ h => by simp at h, rfl⟩ ?_ ?_
    · rintro i G' hi ⟨ds, r, y, hdl, hd, rfl⟩
      rw [hlm] at hi
      obtain ⟨z, hzi⟩ : ∃ z, zs[i]? = some z := ⟨_, List.getElem?_eq_getElem hi⟩
      obtain ⟨z0, z1⟩ := hz z (List.mem_of_getElem? hzi)
      rw [nth_map hzi]
      refine bd_app 2 (ed_bin (ed_tint B (ed_v 3) int_i) (ed_v 4) (bin_mod z0)) ?_ rfl (by rw [List.length_map]; omega)
      refine bd_set 3 (ed_bin (ed_tint B (ed_v 3) int_i) (ed_v 4) (bin_div z0 (by omega))) (bd_nil ⟨ds ++ [r % z], r / z, .val (.d (.int z)), by simp [hdl], snoc hdl hzi (Int.emod_nonneg _ (by omega)) (Int.emod_lt_of_pos _ z0) hd, ?_⟩) hN
      rw [List.map_append]
      rfl
    · rintro G' ⟨ds, r, y, hdl, hd, rfl⟩
      rw [hlm] at hdl
      exact bd_free 2 (bd_ret (ed_v 2) (fin ds ⟨hdl, hd⟩))
  refine bd_set 5 (ed_bin (ed_tint B (ed_v 3) int_i) ed_int (bin_mod (by decide))) ?_ hN
  refine bd_for (fun i G => G.set 6 (.val (.d (.int (i : Nat))))) (fun i G' => ∃ (ds : List Int) (r q : Int) (y z : En), ds.length = i ∧ 0 ≤ q ∧ q < 2147483647 ∧ (∀ (j : Nat) (z a : Int), zs[j]? = some z → ds[j]? = some a → 0 ≤ a ∧ a < z) ∧ G' = [.val (.d (.int c)), .val (.d (intsD zs)), .own (ds.map .int), .val (.d (.int r)), .no, .val (.d (.int q)), y, z])
    (it_r (ed_len B (ed_v 1) len_l) B.rng (by omega) (by rw [hlm]; omega)) (pgN 6 hN) (fun i hi => tg_n 6) ⟨[], _, _, .no, .no, rfl, Int.emod_nonneg _ (by decide), Int.lt_trans (Int.emod_lt_of_pos _ (by decide)) (by decide), fun j z a _ h => by simp at h, rfl⟩ ?_ ?_
  · rintro i G' hi ⟨ds, r, q, y, z, hdl, q0, q1, hd, rfl⟩
    rw [hlm] at hi
    have hi' : i < zs.length := by omega
    obtain ⟨z, hzi⟩ : ∃ z, zs[i]? = some z := ⟨_, List.getElem?_eq_getElem hi'⟩
    obtain ⟨z0, z1⟩ := hz z (List.mem_of_getElem? hzi)
    have hzm : (zs.map PyData.int)[i]? = some (.int z) := by rw [List.getElem?_map, hzi] <;> rfl
    refine bd_set 5 (ed_bin (ed_tint B (ed_bin (ed_bin (ed_bin (ed_v 5) ed_int (bin_mul (.inr ⟨by decide, by decide⟩))) (ed_bin ed_int (ed_v 6) (bin_mul (.inl ⟨by decide, by decide⟩))) bin_add) ed_int bin_add) int_i) ed_int (bin_mod (by decide))) ?_ hN
    have b0 : (0 : Int) ≤ (q * 48271 + 974711 * (i : Nat) + 12345) % 2147483647 := Int.emod_nonneg _ (by decide)
    have b1 : (q * 48271 + 974711 * (i : Nat) + 12345) % 2147483647 < 2147483647 := Int.emod_lt_of_pos _ (by decide)
    generalize (q * 48271 + 974711 * (i : Nat) + 12345) % 2147483647 = q' at b0 b1
    refine bd_set 7 (ed_bin (ed_tint B (ed_bin (ed_v 5) (ed_bin (ed_bin (ed_v 5) ed_int (bin_div (by decide) (by decide))) ed_int bin_add) (bin_mul (.inl ⟨by omega, by omega⟩))) int_i) ed_int (bin_mod (by decide))) ?_ hN
    generalize (q' * (q' / 65537 + 3)) % 2147483629 = t
    refine bd_app 2 (ed_bin (ed_bin (ed_v 7) ed_int (bin_div (by decide) (by decide))) (ed_ix (ed_v 1) (ed_v 6) (ix_l (atI_nat hzm))) (bin_mod z0)) ?_ rfl (by rw [List.length_map]; omega)
    refine bd_nil ⟨ds ++ [t / 19 % z], r, q', .val (.d (.int (i : Nat))), .val (.d (.int t)), by simp [hdl], b0, b1, snoc hdl hzi (Int.emod_nonneg _ (by omega)) (Int.emod_lt_of_pos _ z0) hd, ?_⟩
    rw [List.map_append]
    rfl
  · rintro G' ⟨ds, r, q, y, z, hdl, q0, q1, hd, rfl⟩
    rw [hlm] at hdl
    exact bd_free 2 (bd_ret (ed_v 2) (fin ds ⟨by omega, hd⟩))
theorem fx_law_menu (D : DefAt K mg "_law_menu" "_law_menu" s_law_menu) : FX P w K mg base 1 "_law_menu" P_law_menu Pre_law_menu Po_law_menu := by
  refine fxd_mk D (fun F => bn_law_menu F) fun f fd F => fx_mk F sc_law_menu (fun ms ⟨_, _, _, h⟩ => by rw [h]; rfl) fun cdv A outer s H E ms hr ⟨i, i0, i1, h1⟩ => ?_
  subst h1
  have hN := sc_law_menu.nd
  have key : ∀ k : Nat, ∃ x ∈ vNames, atI [PyData.str "X", .str "Y1", .str "X10010", .str "X1", .str "Y", .str "X2", .str "X01", .str "X10011"] ((i + 3 * (k : Nat)) % 8) = some (.str x) := fun k => menuV (Int.emod_nonneg _ (by decide)) (Int.emod_lt_of_pos _ (by decide))
  obtain ⟨x0, m0, e0⟩ := key 0
  obtain ⟨x1, m1, e1⟩ := key 1
  obtain ⟨x2, m2, e2⟩ := key 2
  refine bd_set 2 (ed_lst (ds := [.str "X", .str "Y1", .str "X10010", .str "X1", .str "Y", .str "X2", .str "X01", .str "X10011"]) (ad_cons ed_str (ad_cons ed_str (ad_cons ed_str (ad_cons ed_str (ad_cons ed_str (ad_cons ed_str (ad_cons ed_str (ad_cons ed_str ad_nil))))))))) ?_ hN
  refine bd_ret (ed_comp 3 (zs := [.str x0, .str x1, .str x2]) (it_r (ed_v 1) B.rng (by decide) (by decide)) (fun k z hk hz s H C cl fp => ?_) rfl hN (by decide)) ⟨[x0, x1, x2], rfl, fun x hx => ?_, rfl⟩
  · have go : ∀ {k : Nat} {x : Str}, atI [PyData.str "X", .str "Y1", .str "X10010", .str "X1", .str "Y", .str "X2", .str "X01", .str "X10011"] ((i + 3 * (k : Nat)) % 8) = some (.str x) → PyData.str x = z → _ := fun {k x} e ez => e
    match k, hk with
    | 0, _ =>
      cases hz
      exact ed_ix (ed_v 2) (ed_bin (ed_tint B (ed_bin (ed_v 0) (ed_bin ed_int (ed_v 3) (bin_mul (.inl ⟨by decide, by decide⟩))) bin_add) int_i) ed_int (bin_mod (by decide))) (ix_l e0)
    | 1, _ =>
      cases hz
      exact ed_ix (ed_v 2) (ed_bin (ed_tint B (ed_bin (ed_v 0) (ed_bin ed_int (ed_v 3) (bin_mul (.inl ⟨by decide, by decide⟩))) bin_add) int_i) ed_int (bin_mod (by decide))) (ix_l e1)
    | 2, _ =>
      cases hz
      exact ed_ix (ed_v 2) (ed_bin (ed_tint B (ed_bin (ed_v 0) (ed_bin ed_int (ed_v 3) (bin_mul (.inl ⟨by decide, by decide⟩))) bin_add) int_i) ed_int (bin_mod (by decide))) (ix_l e2)
  · rcases List.mem_cons.mp hx with e | hx
    · rw [e]; exact m0
    · rcases List.mem_cons.mp hx with e | hx
      · rw [e]; exact m1
      · rw [List.mem_singleton.mp hx]; exact m2
end
end Tw

set_option maxHeartbeats 4000000
namespace Tw
open PySem PySem.Spec L2
open PyProof.Rows hiding St
def menuN : List Str := ["g", "g2h2g2h1", "hg", "g1", "g2h2g2h2", "gg", "h1", "h2", "g2", "h"]
abbrev Pq := Nat × Bool
def qd (q : Pq) : PyData := .list [.int (q.1 : Nat), .bool q.2]
def qOk (q : Pq) : Prop := q = (0, false) ∨ q = (2, true) ∨ q = (1, false) ∨ q = (2, false)
structure SgQ (ss : Sg) : Prop where
  g : ss.Good
  c : ∃ s ∈ ss, s.ar = 0
  t : ∃ s ∈ ss, s.tw = true
def nmF (a : Int) (k : Nat) : Str := menuN.getD ((a + 3 * (k : Nat)) % 10).toNat ""
theorem nmF_at {a : Int} {k : Nat} : atI (menuN.map PyData.str) ((a + 3 * (k : Nat)) % 10) = some (.str (nmF a k)) := by
  have h0 : 0 ≤ (a + 3 * (k : Nat)) % 10 := Int.emod_nonneg _ (by decide)
  have h1 : (a + 3 * (k : Nat)) % 10 < 10 := Int.emod_lt_of_pos _ (by decide)
  unfold nmF
  generalize (a + 3 * (k : Nat)) % 10 = i at h0 h1
  have : i = 0 ∨ i = 1 ∨ i = 2 ∨ i = 3 ∨ i = 4 ∨ i = 5 ∨ i = 6 ∨ i = 7 ∨ i = 8 ∨ i = 9 := by omega
  rcases this with e | e | e | e | e | e | e | e | e | e <;> subst e <;> rfl
theorem nmF_nd {a : Int} (h0 : 0 ≤ a) (h1 : a < 10) {L : Nat} (hL : L ≤ 7) : ((List.range L).map (nmF a)).Nodup ∧ ∀ k, k < L → nmF a k ∈ menuN := by
  have q : ∀ a ∈ List.range 10, ∀ L ∈ List.range 8, decide (((List.range L).map (nmF ((a : Nat) : Int))).Nodup ∧ ∀ k ∈ List.range L, nmF ((a : Nat) : Int) k ∈ menuN) = true := by decide +kernel
  have := q a.toNat (List.mem_range.mpr (by omega)) L (List.mem_range.mpr (by omega))
  rw [show ((a.toNat : Nat) : Int) = a by omega] at this
  obtain ⟨p1, p2⟩ := of_decide_eq_true this
  exact ⟨p1, fun k hk => p2 k (List.mem_range.mpr hk)⟩
theorem erase_mem {α : Type} {q p : α} : ∀ {l : List α} {m : Nat}, l[m]? = some p → q ∈ l → q = p ∨ q ∈ l.eraseIdx m
  | [], _, h, _ => by simp at h
  | a :: r, 0, h, hq => by
    simp at h
    subst h
    rcases List.mem_cons.mp hq with e | e
    · exact .inl e
    · exact .inr e
  | a :: r, m + 1, h, hq => by
    rcases List.mem_cons.mp hq with e | e
    · exact .inr (e ▸ List.mem_cons_self)
    · rcases erase_mem (l := r) (m := m) (by simpa using h) e with h1 | h1
      · exact .inl h1
      · exact .inr (List.mem_cons_of_mem _ h1)
theorem erase_sub {α : Type} {q : α} : ∀ {l : List α} {m : Nat}, q ∈ l.eraseIdx m → q ∈ l
  | [], _, h => by simp at h
  | a :: r, 0, h => List.mem_cons_of_mem _ h
  | a :: r, m + 1, h => by
    rcases List.mem_cons.mp h with e | e
    · exact e ▸ List.mem_cons_self
    · exact List.mem_cons_of_mem _ (erase_sub e)
theorem erase_map {α β : Type} (f : α → β) : ∀ (l : List α) (m : Nat), (l.map f).eraseIdx m = (l.eraseIdx m).map f
  | [], _ => rfl
  | _ :: _, 0 => rfl
  | a :: r, m + 1 => by
    show f a :: (r.map f).eraseIdx m = f a :: (r.eraseIdx m).map f
    rw [erase_map f r m]
theorem erase_len {α : Type} {l : List α} {m : Nat} (h : m < l.length) : (l.eraseIdx m).length = l.length - 1 := by rw [List.length_eraseIdx, if_pos h]
def Pre_law_symbols (ms : List Dm) : Prop := ∃ ds : List Int, Digs [10, 6, 4, 3, 4, 3, 720] ds ∧ ms = [.d (intsD ds)]
def Po_law_symbols (ms : List Dm) (d : PyData) : Prop := ∃ ss : Sg, SgQ ss ∧ ss.length ≤ 7 ∧ (∀ s ∈ ss, s.n ∈ menuN) ∧ d = .list (ss.map Sy.d)
def PlP (m : Nat) (pl : List Pq) : Prop := (∀ q ∈ pl, qOk q) ∧ (0, false) ∈ pl ∧ (2, true) ∈ pl ∧ pl.length ≤ m
theorem PlP.app {m : Nat} {pl : List Pq} {q : Pq} (h : PlP m pl) (hq : qOk q) : PlP (m + 1) (pl ++ [q]) :=
  ⟨fun x hx => (List.mem_append.mp hx).elim (h.1 x) fun e => List.mem_singleton.mp e ▸ hq, List.mem_append_left _ h.2.1, List.mem_append_left _ h.2.2.1, by rw [List.length_append]; exact Nat.succ_le_succ h.2.2.2⟩
theorem PlP.up {m : Nat} {pl : List Pq} (h : PlP m pl) : PlP (m + 1) pl := ⟨h.1, h.2.1, h.2.2.1, Nat.le_succ_of_le h.2.2.2⟩
section
variable {P : Program} {w : World} {K : PySem.W.Frag} {mg : Str → Option Value} {base : Heap} (B : Bi mg)
include B
theorem fx_law_symbols (D : DefAt K mg "_law_symbols" "_law_symbols" s_law_symbols) : FX P w K mg base 1 "_law_symbols" P_law_symbols Pre_law_symbols Po_law_symbols := by
  refine fxd_mk D (fun F => bn_law_symbols F) fun f fd F => fx_mk F sc_law_symbols (fun ms ⟨_, _, h⟩ => by rw [h]; rfl) fun cdv A outer s H E ms hr ⟨ds, hd, h1⟩ => ?_
  subst h1
  have hN := sc_law_symbols.nd
  obtain ⟨hdl, hdb⟩ := hd
  have dat : ∀ i : Nat, i < 7 → ∃ a, ds[i]? = some a := fun i hi => ⟨_, List.getElem?_eq_getElem (by rw [hdl]; exact hi)⟩
  obtain ⟨a0, g0⟩ := dat 0 (by decide)
  obtain ⟨a1, g1⟩ := dat 1 (by decide)
  obtain ⟨a2, g2⟩ := dat 2 (by decide)
  obtain ⟨a3, g3⟩ := dat 3 (by decide)
  obtain ⟨a4, g4⟩ := dat 4 (by decide)
  obtain ⟨a5, g5⟩ := dat 5 (by decide)
  obtain ⟨a6, g6⟩ := dat 6 (by decide)
  have b0 := hdb 0 10 a0 rfl g0
  have at_ : ∀ {i : Nat} {a : Int}, ds[i]? = some a → atI (ds.map PyData.int) (i : Nat) = some (.int a) := fun h => atI_nat (by rw [List.getElem?_map, h] <;> rfl)
  clear hdb dat
  refine bd_set 1 (ed_lst (ds := menuN.map PyData.str) (ad_cons ed_str (ad_cons ed_str (ad_cons ed_str (ad_cons ed_str (ad_cons ed_str (ad_cons ed_str (ad_cons ed_str (ad_cons ed_str (ad_cons ed_str (ad_cons ed_str ad_nil)))))))))) rfl (by decide)) ?_ hN
  refine bd_setO 2 (ds := [qd (0, false), qd (2, true)]) (ad_cons (ed_l2 (ad_cons ed_int (ad_cons ed_bl ad_nil))) (ad_cons (ed_l2 (ad_cons ed_int (ad_cons ed_bl ad_nil))) ad_nil)) ?_ hN
  have p0 : PlP 2 [(0, false), (2, true)] := ⟨fun q hq => by
    rcases List.mem_cons.mp hq with e | e
    · exact .inl e
    · exact .inr (.inl (List.mem_singleton.mp e)), by simp, by simp, Nat.le_refl _⟩
  refine bd_if (fun G' => ∃ pl, PlP 3 pl ∧ G' = [.val (.d (intsD ds)), .val (.d (.list (menuN.map PyData.str))), .own (pl.map qd), .no, .no, .no, .no, .no, .no]) (td_cmp (ed_ix (ed_v 0) ed_int (ix_l (at_ g1))) ed_int cmp_gt) (fun _ => bd_app 2 (ed_l2 (ad_cons ed_int (ad_cons ed_bl ad_nil))) (bd_nil ⟨_, p0.app (.inl rfl), rfl⟩) rfl) (fun _ => bd_nil ⟨_, p0.up, rfl⟩) ?_
  rintro G' ⟨pl1, p1, rfl⟩
  refine bd_if (fun G' => ∃ pl, PlP 4 pl ∧ G' = [.val (.d (intsD ds)), .val (.d (.list (menuN.map PyData.str))), .own (pl.map qd), .no, .no, .no, .no, .no, .no]) (td_cmp (ed_ix (ed_v 0) ed_int (ix_l (at_ g2))) ed_int cmp_gt) (fun _ => bd_app 2 (ed_l2 (ad_cons ed_int (ad_cons ed_bl ad_nil))) (bd_nil ⟨pl1 ++ [(1, false)], p1.app (.inr (.inr (.inl rfl))), by rw [List.map_append]; rfl⟩) rfl (by have := p1.2.2.2; rw [List.length_map]; omega)) (fun _ => bd_nil ⟨_, p1.up, rfl⟩) ?_
  rintro G' ⟨pl2, p2, rfl⟩
  refine bd_if (fun G' => ∃ pl, PlP 5 pl ∧ G' = [.val (.d (intsD ds)), .val (.d (.list (menuN.map PyData.str))), .own (pl.map qd), .no, .no, .no, .no, .no, .no]) (td_cmp (ed_ix (ed_v 0) ed_int (ix_l (at_ g3))) ed_int cmp_gt) (fun _ => bd_app 2 (ed_l2 (ad_cons ed_int (ad_cons ed_bl ad_nil))) (bd_nil ⟨pl2 ++ [(2, false)], p2.app (.inr (.inr (.inr rfl))), by rw [List.map_append]; rfl⟩) rfl (by have := p2.2.2.2; rw [List.length_map]; omega)) (fun _ => bd_nil ⟨_, p2.up, rfl⟩) ?_
  rintro G' ⟨pl3, p3, rfl⟩
  refine bd_if (fun G' => ∃ pl, PlP 6 pl ∧ G' = [.val (.d (intsD ds)), .val (.d (.list (menuN.map PyData.str))), .own (pl.map qd), .no, .no, .no, .no, .no, .no]) (td_cmp (ed_ix (ed_v 0) ed_int (ix_l (at_ g4))) ed_int cmp_eqI) (fun _ => bd_app 2 (ed_l2 (ad_cons ed_int (ad_cons ed_bl ad_nil))) (bd_nil ⟨pl3 ++ [(2, true)], p3.app (.inr (.inl rfl)), by rw [List.map_append]; rfl⟩) rfl (by have := p3.2.2.2; rw [List.length_map]; omega)) (fun _ => bd_nil ⟨_, p3.up, rfl⟩) ?_
  rintro G' ⟨pl4, p4, rfl⟩
  refine bd_if (fun G' => ∃ pl, PlP 7 pl ∧ G' = [.val (.d (intsD ds)), .val (.d (.list (menuN.map PyData.str))), .own (pl.map qd), .no, .no, .no, .no, .no, .no]) (td_cmp (ed_ix (ed_v 0) ed_int (ix_l (at_ g5))) ed_int cmp_eqI) (fun _ => bd_app 2 (ed_l2 (ad_cons ed_int (ad_cons ed_bl ad_nil))) (bd_nil ⟨pl4 ++ [(0, false)], p4.app (.inl rfl), by rw [List.map_append]; rfl⟩) rfl (by have := p4.2.2.2; rw [List.length_map]; omega)) (fun _ => bd_nil ⟨_, p4.up, rfl⟩) ?_
  rintro G' ⟨pl, ⟨q1, q2, q3, q4⟩, rfl⟩
  refine bd_setO 3 (ds := []) ad_nil ?_ hN
  refine bd_set 4 (ed_tint B (ed_ix (ed_v 0) ed_int (ix_l (at_ g6))) int_i) ?_ hN
  refine bd_set 5 (ed_len B (ed_o 2) len_b) ?_ hN
  have hlp : (pl.map qd).length = pl.length := List.length_map _
  refine bd_for (fun i G => G.set 6 (.val (.d (.int (i : Nat))))) (fun i G' => ∃ (rem : List Pq) (out : Sg) (r : Int) (y z u : En), G' = [.val (.d (intsD ds)), .val (.d (.list (menuN.map PyData.str))), .own (rem.map qd), .own (out.map Sy.d), .val (.d (.int r)), .val (.d (.int ((pl.map qd).length : Nat))), y, z, u] ∧
      rem.length + i = pl.length ∧ out.map (·.n) = (List.range i).map (nmF a0) ∧ (∀ q ∈ pl, q ∈ rem ∨ ∃ s ∈ out, (s.ar, s.tw) = q) ∧ (∀ q ∈ rem, qOk q) ∧ ∀ s ∈ out, qOk (s.ar, s.tw))
    (it_r (ed_v 5) B.rng (by omega) (by rw [hlp]; omega)) (pgN 6 hN) (fun i hi => tg_n 6) ⟨pl, [], _, .no, .no, .no, rfl, rfl, rfl, fun q hq => .inl hq, q1, fun s hs => by cases hs⟩ ?_ ?_
  · rintro i G' hi ⟨rem, out, r, y, z, u, rfl, r1, r2, r3, r4, r5⟩
    rw [hlp] at hi
    have hi' : i < pl.length := by omega
    have hrl : (rem.map qd).length = rem.length := List.length_map _
    have hpos : (0 : Int) < ((rem.map qd).length : Nat) := by rw [hrl]; omega
    obtain ⟨m, hm⟩ : ∃ m : Nat, r % ((rem.map qd).length : Nat) = m := ⟨(r % ((rem.map qd).length : Nat)).toNat, by have := Int.emod_nonneg r (show ((rem.map qd).length : Int) ≠ 0 by omega); omega⟩
    have hml : m < rem.length := by
      have := Int.emod_lt_of_pos r hpos
      rw [hm, hrl] at this
      omega
    refine bd_set 7 (ed_bin (ed_tint B (ed_v 4) int_i) (ed_len B (ed_o 2) len_b) (bin_mod hpos)) ?_ hN
    rw [hm]
    refine bd_set 4 (ed_bin (ed_tint B (ed_v 4) int_i) (ed_len B (ed_o 2) len_b) (bin_div hpos (by rw [hrl]; omega))) ?_ hN
    obtain ⟨q, hq⟩ : ∃ q, rem[m]? = some q := ⟨_, List.getElem?_eq_getElem hml⟩
    refine bd_setPop 8 2 (ed_v 7) (d := qd q) (by rw [List.getElem?_map, hq] <;> rfl) (by rw [hrl]; omega) ?_ hN
    have hlo : out.length = i := by
      have := congrArg List.length r2
      simpa using this
    refine bd_app 3 (ed_t3 (ad_cons (ed_ix (ed_v 1) (ed_bin (ed_tint B (ed_bin (ed_ix (ed_v 0) ed_int (ix_l (at_ g0))) (ed_bin ed_int (ed_v 6) (bin_mul (.inl ⟨by decide, by decide⟩))) bin_add) int_i) ed_int (bin_mod (by decide))) (ix_l nmF_at)) (ad_cons (ed_ix (ed_v 8) ed_int (ix_l (xs := [.int (q.1 : Nat), .bool q.2]) (atI_nat (i := 0) rfl))) (ad_cons (ed_ix (ed_v 8) ed_int (ix_l (xs := [.int (q.1 : Nat), .bool q.2]) (atI_nat (i := 1) rfl))) ad_nil))))
      (bd_nil ⟨rem.eraseIdx m, out ++ [⟨nmF a0 i, q.1, q.2⟩], r / ((rem.map qd).length : Nat), .val (.d (.int (i : Nat))), .val (.d (.int (m : Nat))), .val (.d (qd q)), ?_, ?_, ?_, fun q' hq' => ?_, fun q' hq' => r4 q' (erase_sub hq'), fun s hs => ?_⟩) rfl (by rw [List.length_map]; omega)
    · rw [erase_map, List.map_append]
      rfl
    · rw [erase_len hml]
      omega
    · rw [List.map_append, r2, List.range_succ, List.map_append]
      rfl
    · rcases r3 q' hq' with h | ⟨s, hs, e⟩
      · rcases erase_mem hq h with h | h
        · exact .inr ⟨_, List.mem_append_right _ (List.mem_singleton.mpr rfl), h ▸ rfl⟩
        · exact .inl h
      · exact .inr ⟨s, List.mem_append_left _ hs, e⟩
    · rcases List.mem_append.mp hs with h | h
      · exact r5 s h
      · rw [List.mem_singleton.mp h]
        exact r4 q (List.mem_of_getElem? hq)
  · rintro G' ⟨rem, out, r, y, z, u, rfl, r1, r2, r3, r4, r5⟩
    rw [hlp] at r1 r2
    have hl : ((pl.length : Nat) : Int).toNat = pl.length := by omega
    rw [hl] at r1 r2
    have e0 : rem = [] := List.length_eq_zero_iff.mp (by omega)
    subst e0
    have hlo : out.length = pl.length := by
      have := congrArg List.length r2
      simpa using this
    obtain ⟨n1, n2⟩ := nmF_nd b0.1 b0.2 q4
    have nin : ∀ s ∈ out, s.n ∈ menuN := fun s hs => by
      have : s.n ∈ out.map (·.n) := List.mem_map.mpr ⟨s, hs, rfl⟩
      rw [r2] at this
      obtain ⟨k, hk, e⟩ := List.mem_map.mp this
      rw [← e]
      exact n2 k (List.mem_range.mp hk)
    refine bd_free 3 (bd_ret (ed_v 3) ⟨out, ⟨⟨by rw [r2]; exact n1, fun s hs => ?_, fun s hs => ?_, fun s hs ht => ?_, by omega⟩, ?_, ?_⟩, by omega, nin, rfl⟩)
    · have := nin s hs
      have sub : ∀ x ∈ menuN, x ∈ sNames := by decide +kernel
      exact sub _ this
    · rcases r5 s hs with e | e | e | e <;> (have := congrArg Prod.fst e; simp at this; omega)
    · rcases r5 s hs with e | e | e | e
      · have := congrArg Prod.snd e
        simp [ht] at this
      · have := congrArg Prod.fst e
        simpa using this
      · have := congrArg Prod.snd e
        simp [ht] at this
      · have := congrArg Prod.snd e
        simp [ht] at this
    · rcases r3 _ q2 with h | ⟨s, hs, e⟩
      · cases h
      · exact ⟨s, hs, congrArg Prod.fst e⟩
    · rcases r3 _ q3 with h | ⟨s, hs, e⟩
      · cases h
      · exact ⟨s, hs, congrArg Prod.snd e⟩
end
end Tw

set_option maxHeartbeats 4000000
namespace Tw
open PySem PySem.Spec L2
open PyProof.Rows hiding St
def ZT : Nat → Nat
  | 0 => 1
  | n + 1 => 1 + 2 * ZT n
def TmB (ss : Sg) (d z : Nat) (t : Tm) : Prop := Ok ss t ∧ t.dep ≤ d ∧ t.sz ≤ z
theorem TmB.up {ss : Sg} {d z d' z' : Nat} {t : Tm} (h : TmB ss d z t) (h1 : d ≤ d') (h2 : z ≤ z') : TmB ss d' z' t := ⟨h.1, Nat.le_trans h.2.1 h1, Nat.le_trans h.2.2 h2⟩
theorem mkT_B {ss : Sg} {s : Sy} {args : List Tm} {d z : Nat} (hs : s ∈ ss) (h2 : s.ar ≤ 2) (hl : args.length = s.ar) (h : ∀ a ∈ args, TmB ss d z a) : TmB ss (d + 1) (1 + args.length * z) (mkT s.n args) := by
  match args, hl, h with
  | [], hl, h => exact ⟨⟨s, hs, rfl, hl.symm⟩, Nat.le_add_left _ _, Nat.le_add_right _ _⟩
  | [a], hl, h =>
    obtain ⟨o, e1, e2⟩ := h a (by simp)
    refine ⟨⟨⟨s, hs, rfl, hl.symm⟩, o⟩, ?_, ?_⟩
    · show a.dep + 1 ≤ _
      omega
    · show a.sz + 1 ≤ 1 + 1 * z
      omega
  | [a, b], hl, h =>
    obtain ⟨o, e1, e2⟩ := h a (by simp)
    obtain ⟨o', e1', e2'⟩ := h b (by simp)
    refine ⟨⟨⟨s, hs, rfl, hl.symm⟩, o, o'⟩, ?_, ?_⟩
    · show max a.dep b.dep + 1 ≤ _
      omega
    · show a.sz + b.sz + 1 ≤ 1 + 2 * z
      omega
  | a :: b :: c :: r, hl, h =>
    simp only [List.length_cons] at hl
    omega
theorem atI_pos {α : Type} {xs : List α} {i : Int} (h0 : 0 ≤ i) (h1 : i < xs.length) : ∃ z, atI xs i = some z ∧ z ∈ xs := by
  obtain ⟨m, rfl⟩ : ∃ m : Nat, i = m := ⟨i.toNat, by omega⟩
  have hm : m < xs.length := by omega
  exact ⟨xs[m], atI_nat (List.getElem?_eq_getElem hm), List.getElem_mem hm⟩
theorem atI_map {α : Type} {f : α → PyData} {xs : List α} {i : Int} (h0 : 0 ≤ i) (h1 : i < ((xs.map f).length : Nat)) : ∃ z ∈ xs, atI (xs.map f) i = some (f z) := by
  obtain ⟨z, h2, h3⟩ := atI_pos h0 h1
  obtain ⟨a, ha, e⟩ := List.mem_map.mp h3
  exact ⟨a, ha, by rw [h2, e]⟩
abbrev namesD (xs : List Str) : PyData := .list (xs.map .str)
abbrev sgD (ss : Sg) : PyData := .list (ss.map Sy.d)
def Pre_law_term (ss : Sg) (dp : Nat) (ms : List Dm) : Prop := ∃ (names : List Str) (row : List Int) (at_ : Int), (∀ x ∈ names, x ∈ vNames) ∧ names.length ≤ 10 ∧ (∀ a ∈ row, 0 ≤ a) ∧ row.length ≤ 1000 ∧ 0 ≤ at_ ∧ ms = [.d (sgD ss), .d (namesD names), .d (intsD row), .d (.int at_), .d (.int (dp : Nat))]
def Po_law_term (ss : Sg) (dp : Nat) (_ : List Dm) (d : PyData) : Prop := ∃ (t : Tm) (j : Int), TmB ss (dp + 1) (ZT dp) t ∧ 0 ≤ j ∧ d = .list [t.d, .int j]
section
variable {P : Program} {w : World} {K : PySem.W.Frag} {mg : Str → Option Value} {base : Heap} (B : Bi mg)
include B
theorem fx_law_term {ss : Sg} (g : ss.Good) (hSc : ∃ s ∈ ss, s.ar = 0) (D : DefAt K mg "_law_term" "_law_term" s_law_term) : ∀ dp, (2 ≤ dp → ∃ s ∈ ss, s.tw = true) → FX P w K mg base (dp + 1) "_law_term" P_law_term (Pre_law_term ss dp) (Po_law_term ss dp) := by
  intro dp
  induction dp using Nat.strongRecOn with
  | ind dp ih =>
  intro hSt
  refine fxd_mk D (fun F => bn_law_term F) fun f fd F => fx_mk F sc_law_term (fun ms ⟨_, _, _, _, _, _, _, _, h⟩ => by rw [h]; rfl) fun cdv A outer s H E ms hr ⟨names, row, at_, hnm, hnl, hrow, hrl, ha0, h1⟩ => ?_
  subst h1
  have hN := sc_law_term.nd
  have lz := g.len
  have lss : (ss.map Sy.d).length = ss.length := List.length_map _
  have lrow : (row.map PyData.int).length = row.length := List.length_map _
  have lnm : (names.map PyData.str).length = names.length := List.length_map _
  let G0 : Int → List En := fun q => [.val (.d (sgD ss)), .val (.d (namesD names)), .val (.d (intsD row)), .val (.d (.int at_)), .val (.d (.int (dp : Nat))), .val (.d (.int q)), .no, .no, .no, .no, .no, .no, .no, .no]
  refine bd_set 5 ed_int ?_ hN
  refine bd_if (fun G' => ∃ q, 0 ≤ q ∧ G' = G0 q) (td_cmp (ed_v 3) (ed_len B (ed_v 2) len_l) cmp_lt) (fun hb => ?_) (fun _ => bd_nil ⟨0, Int.le_refl _, rfl⟩) ?_
  · have hb' := of_decide_eq_true hb
    obtain ⟨a, ha, e⟩ := atI_map (f := PyData.int) ha0 hb'
    exact bd_set 5 (ed_tint B (ed_ix (ed_v 2) (ed_v 3) (ix_l e)) int_i) (bd_nil ⟨a, hrow a ha, rfl⟩) hN
  rintro G' ⟨q, q0, rfl⟩
  refine bd_set 6 (ed_bin (ed_v 3) ed_int bin_add) ?_ hN
  refine bd_set 7 ed_int ?_ hN
  have comp0 : ∀ (p : Sy → Bool) (a : Sy), ((ss.filter p).map Sy.d).length ≤ 12 := fun p _ => by
    rw [List.length_map]
    exact Nat.le_trans (List.length_filter_le _ _) lz
  refine bd_setFilt 8 13 ss Sy.d (fun s => decide ((s.ar : Int) = 0)) Sy.d (it_l (ed_v 0)) (fun i a h => nth_map h) lss (fun a _ s H C cl fp => td_cmp (ed_ix (ed_v 13) ed_int (ix_t (atI_nat (i := 1) rfl))) ed_int cmp_eqI) (fun a _ _ s H C cl fp => ed_v 13) hN (by omega) ?_
  have mem0 : ∀ s ∈ ss.filter fun s => decide ((s.ar : Int) = 0), s ∈ ss ∧ s.ar = 0 := fun s hs => by
    obtain ⟨h1, h2⟩ := List.mem_filter.mp hs
    have := of_decide_eq_true h2
    exact ⟨h1, by omega⟩
  have ne0 : ss.filter (fun s => decide ((s.ar : Int) = 0)) ≠ [] := fun z => by
    obtain ⟨c, hc, e⟩ := hSc
    have : c ∈ ss.filter fun s => decide ((s.ar : Int) = 0) := List.mem_filter.mpr ⟨hc, decide_eq_true (by omega)⟩
    rw [z] at this
    cases this
  have net : 2 ≤ dp → ss.filter (fun s => s.tw) ≠ [] := fun h2 z => by
    obtain ⟨c, hc, e⟩ := hSt h2
    have : c ∈ ss.filter fun s => s.tw := List.mem_filter.mpr ⟨hc, e⟩
    rw [z] at this
    cases this
  let G1 : Int → Int → List Sy → List En := fun i ch mn => [.val (.d (sgD ss)), .val (.d (namesD names)), .val (.d (intsD row)), .val (.d (.int at_)), .val (.d (.int (dp : Nat))), .val (.d (.int q)), .val (.d (.int i)), .val (.d (.int ch)), .val (.d (sgD mn)), .no, .no, .no, .no, .no]
  let MN : List Sy → Prop := fun mn => mn ≠ [] ∧ (∀ s ∈ mn, s ∈ ss) ∧ (dp = 0 → ∀ s ∈ mn, s.ar = 0) ∧ mn.length ≤ 24
  have M0 : MN (ss.filter fun s => decide ((s.ar : Int) = 0)) := ⟨ne0, fun s hs => (mem0 s hs).1, fun _ s hs => (mem0 s hs).2, Nat.le_trans (List.length_filter_le _ _) (by omega)⟩
  refine bd_if (fun G' => ∃ ch mn, MN mn ∧ G' = G1 (at_ + 1) ch mn) (td_cmp (ed_v 4) ed_int cmp_eqI) (fun hb => ?_) (fun _ => bd_nil ⟨5, _, M0, rfl⟩) ?_
  · have hb' := of_decide_eq_true hb
    refine bd_set 7 ed_int ?_ hN
    refine bd_set 8 (ed_bin (ed_tlst B (ed_v 0) lst_l) (ed_filt 13 ss Sy.d (fun s => s.tw) Sy.d (it_l (ed_v 0)) (fun i a h => nth_map h) lss (fun a _ s H C cl fp => td_val (ed_ix (ed_v 13) ed_int (ix_t (atI_nat (i := 2) rfl)))) (fun a _ _ s H C cl fp => ed_v 13) hN (by omega)) (bin_addL (by
      have := List.length_filter_le (fun s : Sy => s.tw) ss
      rw [List.length_map, List.length_map]
      omega))) (bd_nil ⟨3, ss ++ ss.filter (fun s => s.tw), ⟨fun z => (by obtain ⟨c, hc, _⟩ := hSc; rw [(List.append_eq_nil_iff.mp z).1] at hc; cases hc), fun s hs => (List.mem_append.mp hs).elim id fun h => (List.mem_filter.mp h).1, fun z => by omega, by have := List.length_filter_le (fun s : Sy => s.tw) ss; rw [List.length_append]; omega⟩, ?_⟩) hN
    show _ = G1 _ _ _
    simp only [G1, sgD, List.map_append]
    rfl
  rintro G' ⟨ch, mn, hM, rfl⟩
  refine bd_if (fun G' => ∃ ch mn, MN mn ∧ G' = G1 (at_ + 1) ch mn) (td_cmp (ed_v 4) ed_int cmp_ge) (fun hb => ?_) (fun _ => bd_nil ⟨ch, mn, hM, rfl⟩) ?_
  · have hb' := of_decide_eq_true hb
    refine bd_set 7 ed_int ?_ hN
    refine bd_set 8 (ed_bin (ed_filt 13 ss Sy.d (fun s => decide (0 < (s.ar : Int))) Sy.d (it_l (ed_v 0)) (fun i a h => nth_map h) lss (fun a _ s H C cl fp => td_cmp (ed_ix (ed_v 13) ed_int (ix_t (atI_nat (i := 1) rfl))) ed_int cmp_gt) (fun a _ _ s H C cl fp => ed_v 13) hN (by omega))
      (ed_filt 13 ss Sy.d (fun s => s.tw) Sy.d (it_l (ed_v 0)) (fun i a h => nth_map h) lss (fun a _ s H C cl fp => td_val (ed_ix (ed_v 13) ed_int (ix_t (atI_nat (i := 2) rfl)))) (fun a _ _ s H C cl fp => ed_v 13) hN (by omega)) (bin_addL (by
      have := List.length_filter_le (fun s : Sy => s.tw) ss
      have h2 := List.length_filter_le (fun s : Sy => decide (0 < (s.ar : Int))) ss
      rw [List.length_map, List.length_map]
      omega))) ?_ hN
    have M2 : MN (ss.filter (fun s => decide (0 < (s.ar : Int))) ++ ss.filter (fun s => s.tw)) := ⟨fun z => net (by omega) (List.append_eq_nil_iff.mp z).2, fun s hs => (List.mem_append.mp hs).elim (fun h => (List.mem_filter.mp h).1) fun h => (List.mem_filter.mp h).1, fun z => by omega, by
      have := List.length_filter_le (fun s : Sy => s.tw) ss
      have h2 := List.length_filter_le (fun s : Sy => decide (0 < (s.ar : Int))) ss
      rw [List.length_append]
      omega⟩
    refine bd_if (fun G' => ∃ ch mn, MN mn ∧ G' = G1 (at_ + 1) ch mn) (td_cmp (ed_bin (ed_bin (ed_v 5) ed_int (bin_div (by decide) (by decide))) ed_int (bin_mod (by decide))) ed_int cmp_eqI) (fun _ => ?_) (fun _ => bd_nil ⟨1, _, M2, ?_⟩) (fun G' h => bd_nil h)
    · exact bd_setFilt 8 13 ss Sy.d (fun s => decide ((s.ar : Int) = 0)) Sy.d (it_l (ed_v 0)) (fun i a h => nth_map h) lss (fun a _ s H C cl fp => td_cmp (ed_ix (ed_v 13) ed_int (ix_t (atI_nat (i := 1) rfl))) ed_int cmp_eqI) (fun a _ _ s H C cl fp => ed_v 13) hN (by omega) (bd_nil ⟨1, _, M0, rfl⟩)
    · show _ = G1 _ _ _
      simp only [G1, sgD, List.map_append]
      rfl
  rintro G' ⟨ch, mn, ⟨m1, m2, m3, m4⟩, rfl⟩
  have lmn : (mn.map Sy.d).length = mn.length := List.length_map _
  have mpos : 0 < mn.length := List.length_pos_iff.mpr m1
  refine bd_ifR (wd_and (td_cmp (ed_len B (ed_v 1) len_l) ed_int cmp_gt) fun _ => wd_and1 (td_cmp (ed_bin (ed_v 5) ed_int (bin_mod (by decide))) (ed_v 7) cmp_lt)).pt (fun hb => ?_) fun _ => ?_
  · rw [Bool.and_eq_true] at hb
    have hpos := of_decide_eq_true hb.1
    have hpos' : (0 : Int) < ((names.map PyData.str).length : Nat) := hpos
    obtain ⟨x, hx, e⟩ := atI_map (f := PyData.str) (xs := names) (Int.emod_nonneg (q / 10) (by omega)) (Int.emod_lt_of_pos (q / 10) hpos')
    refine bd_ret (ed_l2 (ad_cons (ed_ix (ed_v 1) (ed_bin (ed_bin (ed_v 5) ed_int (bin_div (by decide) (by decide))) (ed_len B (ed_v 1) len_l) (bin_mod hpos')) (ix_l e)) (ad_cons (ed_v 6) ad_nil))) ⟨.v x, at_ + 1, ⟨hnm x hx, Nat.zero_le _, ?_⟩, by omega, rfl⟩
    show 1 ≤ ZT dp
    cases dp <;> simp [ZT]
  have hpos : (0 : Int) < ((mn.map Sy.d).length : Nat) := by rw [lmn]; omega
  obtain ⟨y, hy, e⟩ := atI_map (f := Sy.d) (xs := mn) (Int.emod_nonneg (q / 10) (by omega)) (Int.emod_lt_of_pos (q / 10) hpos)
  have hys := m2 y hy
  have har := g.ar y hys
  refine bd_set 9 (ed_ix (ed_v 8) (ed_bin (ed_bin (ed_v 5) ed_int (bin_div (by decide) (by decide))) (ed_len B (ed_v 8) len_l) (bin_mod hpos)) (ix_l e)) ?_ hN
  refine bd_setO 10 (ds := [.str y.n]) (ad_cons (ed_ix (ed_v 9) ed_int (ix_t (xs := [.str y.n, .int y.ar, .bool y.tw]) (atI_nat (i := 0) rfl))) ad_nil) ?_ hN
  refine bd_for (fun i G => G.set 11 (.val (.d (.int (i : Nat))))) (fun i G' => ∃ (args : List Tm) (j : Int) (u v : En), args.length = i ∧ (∀ a ∈ args, TmB ss dp (ZT (dp - 1)) a) ∧ 0 ≤ j ∧ G' = [.val (.d (sgD ss)), .val (.d (namesD names)), .val (.d (intsD row)), .val (.d (.int at_)), .val (.d (.int (dp : Nat))), .val (.d (.int q)), .val (.d (.int j)), .val (.d (.int ch)), .val (.d (sgD mn)), .val (.d y.d), .own (.str y.n :: args.map Tm.d), u, v, .no])
    (it_r (ed_ix (ed_v 9) ed_int (ix_t (xs := [.str y.n, .int y.ar, .bool y.tw]) (atI_nat (i := 1) rfl))) B.rng (by omega) (by omega)) (pgN 11 hN) (fun i hi => tg_n 11) ⟨[], _, .no, .no, rfl, fun a h => (by cases h), by omega, rfl⟩ ?_ ?_
  · rintro i G' hi ⟨args, j, u, v, hal, hab, hj, rfl⟩
    have hdp : 1 ≤ dp := by
      rcases Nat.eq_zero_or_pos dp with z | z
      · have := m3 z y hy
        rw [this] at hi
        simp at hi
      · exact z
    have hi' : i < y.ar := by omega
    refine bd_setX 12 (P := Po_law_term ss (dp - 1) []) (ex_call (ih (dp - 1) (by omega) fun h => hSt (by omega)) (hr.mono (by omega)) (ax_ad (S := fun ms => ms = _) (ad_cons (ed_v 0) (ad_cons (ed_v 1) (ad_cons (ed_v 2) (ad_cons (ed_v 6) (ad_cons (ed_bin (ed_v 4) ed_int bin_sub) ad_nil))))) rfl) (fun ms e => ⟨names, row, j, hnm, hnl, hrow, hrl, hj, ?_⟩) fun ms d _ h => h) ?_ hN
    · rw [e, show ((dp : Nat) : Int) - 1 = ((dp - 1 : Nat) : Int) by omega]
    rintro d ⟨t, j', hT, hj', rfl⟩
    refine bd_app 10 (ed_ix (ed_v 12) ed_int (ix_l (atI_nat (i := 0) rfl))) ?_ rfl (by rw [List.length_cons, List.length_map]; omega)
    refine bd_set 6 (ed_ix (ed_v 12) ed_int (ix_l (atI_nat (i := 1) rfl))) (bd_nil ⟨args ++ [t], j', .val (.d (.int (i : Nat))), .val (.d (.list [t.d, .int j'])), by simp [hal], fun a ha => ?_, hj', ?_⟩) hN
    · rcases List.mem_append.mp ha with h | h
      · exact hab a h
      · rw [List.mem_singleton.mp h]
        exact hT.up (by omega) (Nat.le_refl _)
    · rw [List.map_append]
      rfl
  · rintro G' ⟨args, j, u, v, hal, hab, hj, rfl⟩
    have hal' : args.length = y.ar := by rw [hal]; omega
    refine bd_ret (ed_l2 (ad_cons (ed_ttup B (ed_o 10) tup_b) (ad_cons (ed_v 6) ad_nil))) ⟨mkT y.n args, j, (mkT_B hys har hal' hab).up (Nat.le_refl _) ?_, hj, by rw [mkT_d (by omega)]⟩
    rcases Nat.eq_zero_or_pos dp with z | z
    · have := m3 z y hy
      rw [hal', this, z]
      simp [ZT]
    · obtain ⟨k, rfl⟩ : ∃ k, dp = k + 1 := ⟨dp - 1, by omega⟩
      show 1 + args.length * ZT k ≤ 1 + 2 * ZT k
      exact Nat.add_le_add_left (Nat.mul_le_mul_right _ (by omega)) 1
end
end Tw

set_option maxHeartbeats 4000000
namespace Tw
open PySem PySem.Spec L2
open PyProof.Rows hiding St
theorem two_pos {ss : Sg} (hS : SgQ ss) : 0 < ss.two.length := by
  obtain ⟨c, hc, e⟩ := hS.t
  exact List.length_pos_iff.mpr fun z => by
    have : c.n ∈ ss.two := List.mem_map.mpr ⟨c, List.mem_filter.mpr ⟨hc, e⟩, rfl⟩
    rw [z] at this
    cases this
theorem two_mem {ss : Sg} {x : Str} (h : x ∈ ss.two) : ∃ s ∈ ss, s.n = x ∧ s.tw = true := by
  obtain ⟨s, hs, e⟩ := List.mem_map.mp h
  obtain ⟨h1, h2⟩ := List.mem_filter.mp hs
  exact ⟨s, h1, e, h2⟩
def Pre_law_crossed (ss : Sg) (dp : Nat) (ms : List Dm) : Prop := ∃ (names : List Str) (row : List Int), (∀ x ∈ names, x ∈ vNames) ∧ names.length ≤ 10 ∧ (∀ a ∈ row, 0 ≤ a) ∧ 1 ≤ row.length ∧ row.length ≤ 1000 ∧ ms = [.d (sgD ss), .d (namesD names), .d (intsD row), .d (.int (dp : Nat))]
def Po_law_crossed (ss : Sg) (dp : Nat) (_ : List Dm) (d : PyData) : Prop := ∃ t : Tm, TmB ss (dp + 2) (1 + 2 * ZT dp) t ∧ d = t.d
def SameB (ss : Sg) (t u : Tm) : Prop := Ok ss u ∧ u.dep = t.dep ∧ u.sz = t.sz
def Pre_law_turned (ss : Sg) (t : Tm) (ms : List Dm) : Prop := ∃ (row : List Int) (at_ : Int), row.length ≤ 1000 ∧ 0 ≤ at_ ∧ ms = [.d (namesD ss.two), .d t.d, .d (intsD row), .d (.int at_)]
def Po_law_turned (ss : Sg) (t : Tm) (_ : List Dm) (d : PyData) : Prop := ∃ (u : Tm) (j : Int), SameB ss t u ∧ 0 ≤ j ∧ d = .list [u.d, .int j]
section
variable {P : Program} {w : World} {K : PySem.W.Frag} {mg : Str → Option Value} {base : Heap} (B : Bi mg)
include B
theorem fx_law_crossed {ss : Sg} (hS : SgQ ss) {dp : Nat} (D : DefAt K mg "_law_crossed" "_law_crossed" s_law_crossed) (F1 : FX P w K mg base (dp + 1) "_law_term" P_law_term (Pre_law_term ss dp) (Po_law_term ss dp)) (F2 : FD P w K mg base 1 "_law_two" P_law_two R_law_two) :
    FX P w K mg base (dp + 2) "_law_crossed" P_law_crossed (Pre_law_crossed ss dp) (Po_law_crossed ss dp) := by
  refine fxd_mk D (fun F => bn_law_crossed F) fun f fd F => fx_mk F sc_law_crossed (fun ms ⟨_, _, _, _, _, _, _, h⟩ => by rw [h]; rfl) fun cdv A outer s H E ms hr ⟨names, row, hnm, hnl, hrow, hr1, hrl, h1⟩ => ?_
  subst h1
  have hN := sc_law_crossed.nd
  have g := hS.g
  have lz := g.len
  have l2 : (ss.two.map PyData.str).length = ss.two.length := List.length_map _
  have l3 : ss.two.length ≤ 12 := by
    unfold Sg.two
    rw [List.length_map]
    exact Nat.le_trans (List.length_filter_le _ _) lz
  refine bd_set 4 (ed_call F2 (hr.mono (by omega)) (ad_cons (ed_v 0) ad_nil) ⟨ss, g, rfl, rfl⟩) ?_ hN
  refine bd_setX 5 (P := Po_law_term ss dp []) (ex_call F1 hr (ax_ad (S := fun ms => ms = _) (ad_cons (ed_v 0) (ad_cons (ed_v 1) (ad_cons (ed_v 2) (ad_cons ed_int (ad_cons (ed_v 3) ad_nil))))) rfl) (fun ms e => ⟨names, row, 1, hnm, hnl, hrow, hrl, by decide, e⟩) fun ms d _ h => h) ?_ hN
  rintro d1 ⟨t1, j1, T1, hj1, rfl⟩
  refine bd_setX 6 (P := Po_law_term ss dp []) (ex_call F1 hr (ax_ad (S := fun ms => ms = _) (ad_cons (ed_v 0) (ad_cons (ed_v 1) (ad_cons (ed_v 2) (ad_cons (ed_ix (ed_v 5) ed_int (ix_l (atI_nat (i := 1) rfl))) (ad_cons (ed_v 3) ad_nil))))) rfl) (fun ms e => ⟨names, row, j1, hnm, hnl, hrow, hrl, hj1, e⟩) fun ms d _ h => h) ?_ hN
  rintro d2 ⟨t2, j2, T2, hj2, rfl⟩
  obtain ⟨a0, ha0⟩ : ∃ a, row[0]? = some a := ⟨_, List.getElem?_eq_getElem hr1⟩
  have hpos : (0 : Int) < ((ss.two.map PyData.str).length : Nat) := by have := two_pos hS; rw [l2]; omega
  obtain ⟨x, hx, e⟩ := atI_map (f := PyData.str) (xs := ss.two) (Int.emod_nonneg a0 (by omega)) (Int.emod_lt_of_pos a0 hpos)
  obtain ⟨y, hy, ey, ht⟩ := two_mem hx
  refine bd_ret (ed_t3 (ad_cons (ed_ix (ed_v 4) (ed_bin (ed_tint B (ed_ix (ed_v 2) ed_int (ix_l (atI_nat (i := 0) (by rw [List.getElem?_map, ha0] <;> rfl)))) int_i) (ed_len B (ed_v 4) len_l) (bin_mod hpos)) (ix_l e)) (ad_cons (ed_ix (ed_v 5) ed_int (ix_l (atI_nat (i := 0) rfl))) (ad_cons (ed_ix (ed_v 6) ed_int (ix_l (atI_nat (i := 0) rfl))) ad_nil)))) ⟨.b x t1 t2, ⟨⟨⟨y, hy, ey, g.tw y hy ht⟩, T1.1, T2.1⟩, ?_, ?_⟩, rfl⟩
  · show max _ _ + 1 ≤ _
    have := T1.2.1
    have := T2.2.1
    omega
  · show t1.sz + t2.sz + 1 ≤ _
    have := T1.2.2
    have := T2.2.2
    omega
theorem fx_law_turned {ss : Sg} (g : ss.Good) (D : DefAt K mg "_law_turned" "_law_turned" s_law_turned) : ∀ n (t : Tm), Ok ss t → t.dep ≤ n → FX P w K mg base (n + 1) "_law_turned" P_law_turned (Pre_law_turned ss t) (Po_law_turned ss t) := by
  intro n
  induction n using Nat.strongRecOn with
  | ind n ih =>
  intro t o hd
  refine fxd_mk D (fun F => bn_law_turned F) fun f fd F => fx_mk F sc_law_turned (fun ms ⟨_, _, _, _, h⟩ => by rw [h]; rfl) fun cdv A outer s H E ms hr ⟨row, at_, hrl, ha0, h1⟩ => ?_
  subst h1
  have hN := sc_law_turned.nd
  cases hv : t.isV with
  | true =>
    obtain ⟨x, rfl⟩ := d_v hv
    exact bd_ifT (fun _ => False) (td_val (ed_isStr B (ed_v 1) rfl)) (bd_ret (ed_l2 (ad_cons (ed_v 1) (ad_cons (ed_v 3) ad_nil))) ⟨.v x, at_, ⟨o, rfl, rfl⟩, ha0, rfl⟩) fun _ z => z.elim
  | false =>
    obtain ⟨i, y, e1, e2, e3⟩ := ok_ap hv o
    have hn := dep_ap hv
    have la := args_le t
    have hin : ((ss.two.map PyData.str).any fun w => eqP w (.str t.hd)) = y.tw := by
      rw [← e2]
      exact eqP_two ss g e1
    have etw : ss.tw t.hd = y.tw := by rw [← e2]; exact (g.find (List.mem_of_getElem? e1)).2.1
    rw [d_ap hv]
    let G1 : Int → Bool → List En := fun j sw => [.val (.d (namesD ss.two)), .val (.d (.tuple (.str t.hd :: t.args.map Tm.d))), .val (.d (intsD row)), .val (.d (.int at_)), .val (.d (.int j)), .val (.d (.bool sw)), .no, .no, .no]
    refine bd_ifF (td_val (ed_isStr B (ed_v 1) rfl)) ?_
    refine bd_set 4 (ed_v 3) ?_ hN
    refine bd_set 5 ed_bl ?_ hN
    refine bd_if (fun G' => ∃ (j : Int) (sw : Bool), 0 ≤ j ∧ (sw = true → y.tw = true) ∧ G' = G1 j sw) (td_is (td_cmp (ed_ix (ed_v 1) ed_int (ix_t (atI_nat (i := 0) rfl))) (ed_v 0) (cmp_inL rfl (two_flat ss))) hin) (fun hb => ?_) (fun _ => bd_nil ⟨at_, false, ha0, (fun z => (by cases z)), rfl⟩) ?_
    · by_cases hlt : at_ < ((row.map PyData.int).length : Nat)
      · obtain ⟨a, ha, e⟩ := atI_map (f := PyData.int) ha0 hlt
        refine bd_set 5 (ed_and (b := true) (ed_is (ed_cmp (ed_v 4) (ed_len B (ed_v 2) len_l) cmp_lt) (by rw [decide_eq_true hlt])) fun _ => ed_one (ed_cmp (ed_bin (ed_tint B (ed_ix (ed_v 2) (ed_v 4) (ix_l e)) int_i) ed_int (bin_mod (by decide))) ed_int cmp_eqI)) ?_ hN
        exact bd_set 4 (ed_bin (ed_v 4) ed_int bin_add) (bd_nil ⟨at_ + 1, _, by omega, fun _ => hb, rfl⟩) hN
      · refine bd_set 5 (ed_andF (ed_is (ed_cmp (ed_v 4) (ed_len B (ed_v 2) len_l) cmp_lt) (by rw [decide_eq_false hlt]))) ?_ hN
        exact bd_set 4 (ed_bin (ed_v 4) ed_int bin_add) (bd_nil ⟨at_ + 1, _, by omega, fun _ => hb, rfl⟩) hN
    rintro G' ⟨j0, sw, hj0, hsw, rfl⟩
    refine bd_setO 6 (ds := []) ad_nil ?_ hN
    refine bd_for (fun i G => G.set 7 (.val (.d (nthP (t.args.map Tm.d) i)))) (fun i G' => ∃ (us : List Tm) (j : Int) (a b : En), us.length = i ∧ (∀ (k : Nat) (a u : Tm), t.args[k]? = some a → us[k]? = some u → SameB ss a u) ∧ 0 ≤ j ∧ G' = [.val (.d (namesD ss.two)), .val (.d (.tuple (.str t.hd :: t.args.map Tm.d))), .val (.d (intsD row)), .val (.d (.int at_)), .val (.d (.int j)), .val (.d (.bool sw)), .own (us.map Tm.d), a, b])
      (it_t (ed_sl (ed_v 1) (od_some ed_int) od_none (sl_t cut1))) (pgN 7 hN) (fun i hi => tg_n 7) ⟨[], j0, .no, .no, rfl, fun k a u _ h => by simp at h, hj0, rfl⟩ ?_ ?_
    · rintro i G' hi ⟨us, j, a, b, hul, hub, hj, rfl⟩
      rw [List.length_map] at hi
      obtain ⟨x, hx⟩ : ∃ x, t.args[i]? = some x := ⟨_, List.getElem?_eq_getElem hi⟩
      obtain ⟨ox, dx, _⟩ := ok_arg o (List.mem_of_getElem? hx)
      rw [nth_map hx]
      refine bd_setX 8 (P := Po_law_turned ss x []) (ex_call (ih (n - 1) (by omega) x ox (by omega)) (hr.mono (by omega)) (ax_ad (S := fun ms => ms = _) (ad_cons (ed_v 0) (ad_cons (ed_v 7) (ad_cons (ed_v 2) (ad_cons (ed_v 4) ad_nil)))) rfl) (fun ms e => ⟨row, j, hrl, hj, e⟩) fun ms d _ h => h) ?_ hN
      rintro d ⟨u, j', hS', hj', rfl⟩
      refine bd_app 6 (ed_ix (ed_v 8) ed_int (ix_l (atI_nat (i := 0) rfl))) ?_ rfl (by rw [List.length_map]; omega)
      refine bd_set 4 (ed_ix (ed_v 8) ed_int (ix_l (atI_nat (i := 1) rfl))) (bd_nil ⟨us ++ [u], j', .val (.d x.d), .val (.d (.list [u.d, .int j'])), by simp [hul], fun k a' u' q1 q2 => ?_, hj', ?_⟩) hN
      · rcases Nat.lt_trichotomy k i with q | q | q
        · rw [List.getElem?_append_left (by omega)] at q2
          exact hub k a' u' q1 q2
        · subst q
          rw [hx] at q1
          rw [List.getElem?_append_right (by omega), hul] at q2
          simp at q2
          cases q1
          subst q2
          exact hS'
        · rw [List.getElem?_eq_none (by simp; omega)] at q2
          cases q2
      · rw [List.map_append]
        rfl
    · rintro G' ⟨us, j, a, b, hul, hub, hj, rfl⟩
      rw [List.length_map] at hul
      refine bd_free 6 ?_
      have fin : ∀ (vs : List Tm), vs.length = us.length → SameB ss t (mkT t.hd vs) → Po_law_turned ss t [] (.list [.tuple (.str t.hd :: vs.map Tm.d), .int j]) := fun vs hl h => ⟨mkT t.hd vs, j, h, hj, by rw [mkT_d (by omega)]⟩
      have res : SameB ss t (mkT t.hd us) ∧ ∀ u1 u2, us = [u1, u2] → SameB ss t (mkT t.hd [u2, u1]) := by
        cases t with
        | v x => cases hv
        | c f =>
          match us, hul with
          | [], _ => exact ⟨⟨o, rfl, rfl⟩, fun u1 u2 e => by cases e⟩
        | u f p =>
          match us, hul with
          | [u1], _ =>
            obtain ⟨q1, q2, q3⟩ := hub 0 p u1 rfl rfl
            exact ⟨⟨⟨o.1, q1⟩, by show u1.dep + 1 = p.dep + 1; rw [q2], by show u1.sz + 1 = p.sz + 1; rw [q3]⟩, fun u1 u2 e => by cases e⟩
        | b f p q =>
          match us, hul with
          | [u1, u2], _ =>
            obtain ⟨q1, q2, q3⟩ := hub 0 p u1 rfl rfl
            obtain ⟨r1, r2, r3⟩ := hub 1 q u2 rfl rfl
            refine ⟨⟨⟨o.1, q1, r1⟩, by show max u1.dep u2.dep + 1 = max p.dep q.dep + 1; rw [q2, r2], by show u1.sz + u2.sz + 1 = p.sz + q.sz + 1; rw [q3, r3]⟩, fun v1 v2 e => ?_⟩
            cases e
            exact ⟨⟨o.1, r1, q1⟩, by show max u2.dep u1.dep + 1 = max p.dep q.dep + 1; rw [q2, r2, Nat.max_comm], by show u2.sz + u1.sz + 1 = p.sz + q.sz + 1; rw [q3, r3]; omega⟩
      refine bd_if (fun G' => ∃ vs : List Tm, vs.length = us.length ∧ SameB ss t (mkT t.hd vs) ∧ G' = [.val (.d (namesD ss.two)), .val (.d (.tuple (.str t.hd :: t.args.map Tm.d))), .val (.d (intsD row)), .val (.d (.int at_)), .val (.d (.int j)), .val (.d (.bool sw)), .val (.d (.list (vs.map Tm.d))), a, b]) (td_val (ed_v 5)) (fun hb => ?_) (fun _ => bd_nil ⟨us, rfl, res.1, rfl⟩) ?_
      · have ht := hsw hb
        obtain ⟨f', p, q, rfl⟩ := tw_b g o hv (etw.trans ht)
        match us, hul, res with
        | [u1, u2], _, res =>
          exact bd_set 6 (ed_l2 (ad_cons (ed_ix (ed_v 6) ed_int (ix_l (xs := [u1.d, u2.d]) (atI_nat (i := 1) rfl))) (ad_cons (ed_ix (ed_v 6) ed_int (ix_l (xs := [u1.d, u2.d]) (atI_nat (i := 0) rfl))) ad_nil))) (bd_nil ⟨[u2, u1], rfl, res.2 u1 u2 rfl, rfl⟩) hN
      · rintro G' ⟨vs, hvl, hS', rfl⟩
        exact bd_ret (ed_l2 (ad_cons (ed_ttup B (ed_bin (ed_l1 (ad_cons (ed_ix (ed_v 1) ed_int (ix_t (atI_nat (i := 0) rfl))) ad_nil)) (ed_v 6) (bin_addL (by rw [List.length_map]; simp; omega))) tup_l) (ad_cons (ed_v 4) ad_nil))) (fin vs hvl hS')
end
end Tw

set_option maxHeartbeats 4000000
namespace Tw
open PySem PySem.Spec L2
open PyProof.Rows hiding St
/-! ### places in a term -/
def sub : Tm → List Nat → Option Tm
  | t, [] => some t
  | .v _, _ :: _ => none
  | .c _, _ :: _ => none
  | .u _ a, k :: q => if k = 0 then sub a q else none
  | .b _ a c, k :: q => if k = 0 then sub a q else if k = 1 then sub c q else none
def putT : Tm → List Nat → Tm → Tm
  | _, [], w => w
  | .v x, _ :: _, _ => .v x
  | .c x, _ :: _, _ => .c x
  | .u f a, _ :: q, w => .u f (putT a q w)
  | .b f a c, k :: q, w => if k = 0 then .b f (putT a q w) c else .b f a (putT c q w)
theorem sub_nil (t : Tm) : sub t [] = some t := by cases t <;> rfl
theorem put_nil (t w : Tm) : putT t [] w = w := by cases t <;> rfl
theorem sub_cons {t s : Tm} {k : Nat} {q : List Nat} (h : sub t (k :: q) = some s) : t.isV = false ∧ ∃ a, t.args[k]? = some a ∧ sub a q = some s ∧ ∀ w, (putT t (k :: q) w).d = .tuple (.str t.hd :: (t.args.map Tm.d).set k (putT a q w).d) := by
  match t, k, h with
  | .u f a, 0, h => exact ⟨rfl, a, rfl, h, fun w => rfl⟩
  | .b f a c, 0, h => exact ⟨rfl, a, rfl, h, fun w => rfl⟩
  | .b f a c, 1, h => exact ⟨rfl, c, rfl, h, fun w => rfl⟩
  | .v x, k, h => cases h
  | .c x, k, h => cases h
  | .u f a, k + 1, h => cases h
  | .b f a c, k + 2, h => cases h
theorem sub_arg {t a : Tm} {k : Nat} {q : List Nat} (h : t.args[k]? = some a) : sub t (k :: q) = sub a q := by
  match t, k, h with
  | .v x, k, h => simp [Tm.args] at h
  | .c x, k, h => simp [Tm.args] at h
  | .u f b, 0, h => cases h; rfl
  | .u f b, k + 1, h => simp [Tm.args] at h
  | .b f b c, 0, h => cases h; rfl
  | .b f b c, 1, h => cases h; rfl
  | .b f b c, k + 2, h => simp [Tm.args] at h
theorem put_B {ss : Sg} {k : Nat} {w : Tm} (ow : Ok ss w) : ∀ (t : Tm) (q : List Nat) (s : Tm), Ok ss t → sub t q = some s → w.dep ≤ s.dep + k → w.sz ≤ s.sz + k → TmB ss (t.dep + k) (t.sz + k) (putT t q w)
  | t, [], s, o, h, h1, h2 => by
    rw [sub_nil] at h
    cases h
    rw [put_nil]
    exact ⟨ow, h1, h2⟩
  | .u f a, 0 :: q, s, o, h, h1, h2 => by
    obtain ⟨p1, p2, p3⟩ := put_B ow a q s o.2 h h1 h2
    refine ⟨⟨o.1, p1⟩, ?_, ?_⟩
    · show (putT a q w).dep + 1 ≤ a.dep + 1 + k
      omega
    · show (putT a q w).sz + 1 ≤ a.sz + 1 + k
      omega
  | .b f a c, 0 :: q, s, o, h, h1, h2 => by
    obtain ⟨p1, p2, p3⟩ := put_B ow a q s o.2.1 h h1 h2
    refine ⟨⟨o.1, p1, o.2.2⟩, ?_, ?_⟩
    · show max (putT a q w).dep c.dep + 1 ≤ max a.dep c.dep + 1 + k
      omega
    · show (putT a q w).sz + c.sz + 1 ≤ a.sz + c.sz + 1 + k
      omega
  | .b f a c, 1 :: q, s, o, h, h1, h2 => by
    obtain ⟨p1, p2, p3⟩ := put_B ow c q s o.2.2 h h1 h2
    refine ⟨⟨o.1, o.2.1, p1⟩, ?_, ?_⟩
    · show max a.dep (putT c q w).dep + 1 ≤ max a.dep c.dep + 1 + k
      omega
    · show a.sz + (putT c q w).sz + 1 ≤ a.sz + c.sz + 1 + k
      omega
  | .v x, _ :: _, s, o, h, h1, h2 => by cases h
  | .c x, _ :: _, s, o, h, h1, h2 => by cases h
  | .u f a, (_ + 1) :: _, s, o, h, h1, h2 => by cases h
  | .b f a c, (_ + 2) :: _, s, o, h, h1, h2 => by cases h
theorem sub_ok {ss : Sg} : ∀ (t : Tm) (q : List Nat) (s : Tm), Ok ss t → sub t q = some s → Ok ss s ∧ s.dep ≤ t.dep ∧ q.length + s.dep ≤ t.dep ∧ s.sz ≤ t.sz
  | t, [], s, o, h => by
    rw [sub_nil] at h
    cases h
    exact ⟨o, Nat.le_refl _, by simp, Nat.le_refl _⟩
  | .u f a, 0 :: q, s, o, h => by
    obtain ⟨p1, p2, p3, p4⟩ := sub_ok a q s o.2 h
    simp only [Tm.dep, Tm.sz, List.length_cons]
    exact ⟨p1, by omega, by omega, by omega⟩
  | .b f a c, 0 :: q, s, o, h => by
    obtain ⟨p1, p2, p3, p4⟩ := sub_ok a q s o.2.1 h
    simp only [Tm.dep, Tm.sz, List.length_cons]
    exact ⟨p1, by omega, by omega, by omega⟩
  | .b f a c, 1 :: q, s, o, h => by
    obtain ⟨p1, p2, p3, p4⟩ := sub_ok c q s o.2.2 h
    simp only [Tm.dep, Tm.sz, List.length_cons]
    exact ⟨p1, by omega, by omega, by omega⟩
  | .v x, _ :: _, s, o, h => by cases h
  | .c x, _ :: _, s, o, h => by cases h
  | .u f a, (_ + 1) :: _, s, o, h => by cases h
  | .b f a c, (_ + 2) :: _, s, o, h => by cases h
def leafB (t : Tm) : Bool := t.args.isEmpty
theorem leaf_sub {t s : Tm} {q : List Nat} (h : leafB t = true) (hs : sub t q = some s) : q = [] := by
  match t, q, hs with
  | _, [], _ => rfl
  | .u f a, 0 :: q, _ => cases h
  | .b f a c, 0 :: q, _ => cases h
  | .b f a c, 1 :: q, _ => cases h
  | .v x, _ :: _, hs => cases hs
  | .c x, _ :: _, hs => cases hs
  | .u f a, (_ + 1) :: _, hs => cases hs
  | .b f a c, (_ + 2) :: _, hs => cases hs
/-- a leaf put in a leaf's place leaves the places -/
theorem leaf_put {w : Tm} (hw : leafB w = true) : ∀ (t : Tm) (p q : List Nat) (s r : Tm), sub t p = some s → leafB s = true → sub t q = some r → leafB r = true → ∃ r', sub (putT t p w) q = some r' ∧ leafB r' = true
  | t, [], q, s, r, h1, h2, h3, h4 => by
    rw [sub_nil] at h1
    cases h1
    have := leaf_sub h2 h3
    subst this
    rw [put_nil, sub_nil]
    exact ⟨w, rfl, hw⟩
  | .u f a, 0 :: p, [], s, r, h1, h2, h3, h4 => by
    rw [sub_nil] at h3
    cases h3
    cases h4
  | .b f a c, 0 :: p, [], s, r, h1, h2, h3, h4 => by
    rw [sub_nil] at h3
    cases h3
    cases h4
  | .b f a c, 1 :: p, [], s, r, h1, h2, h3, h4 => by
    rw [sub_nil] at h3
    cases h3
    cases h4
  | .u f a, 0 :: p, 0 :: q, s, r, h1, h2, h3, h4 => leaf_put hw a p q s r h1 h2 h3 h4
  | .b f a c, 0 :: p, 0 :: q, s, r, h1, h2, h3, h4 => leaf_put hw a p q s r h1 h2 h3 h4
  | .b f a c, 1 :: p, 1 :: q, s, r, h1, h2, h3, h4 => leaf_put hw c p q s r h1 h2 h3 h4
  | .b f a c, 0 :: p, 1 :: q, s, r, h1, h2, h3, h4 => ⟨r, h3, h4⟩
  | .b f a c, 1 :: p, 0 :: q, s, r, h1, h2, h3, h4 => ⟨r, h3, h4⟩
  | .v x, _ :: _, q, s, r, h1, h2, h3, h4 => by cases h1
  | .c x, _ :: _, q, s, r, h1, h2, h3, h4 => by cases h1
  | .u f a, (_ + 1) :: _, q, s, r, h1, h2, h3, h4 => by cases h1
  | .b f a c, (_ + 2) :: _, q, s, r, h1, h2, h3, h4 => by cases h1
  | .u f a, 0 :: _, (_ + 1) :: _, s, r, h1, h2, h3, h4 => by cases h3
  | .b f a c, 0 :: _, (_ + 2) :: _, s, r, h1, h2, h3, h4 => by cases h3
  | .b f a c, 1 :: _, (_ + 2) :: _, s, r, h1, h2, h3, h4 => by cases h3
theorem leaf_B {t : Tm} (h : leafB t = true) : t.dep ≤ 1 ∧ t.sz = 1 := by
  cases t with
  | v x => exact ⟨Nat.zero_le _, rfl⟩
  | c x => exact ⟨Nat.le_refl _, rfl⟩
  | u f a => cases h
  | b f a c => cases h
def sumz : List Tm → Nat
  | [] => 0
  | a :: r => a.sz + sumz r
theorem sumz_args (t : Tm) : t.sz = 1 + sumz t.args := by
  cases t with
  | v x => rfl
  | c x => rfl
  | u f a => simp only [Tm.sz, Tm.args, sumz]; omega
  | b f a c => simp only [Tm.sz, Tm.args, sumz]; omega
theorem sumz_app : ∀ (l : List Tm) (a : Tm), sumz (l ++ [a]) = sumz l + a.sz
  | [], a => by simp [sumz]
  | b :: r, a => by
    show b.sz + sumz (r ++ [a]) = b.sz + sumz r + a.sz
    rw [sumz_app r a]
    omega
abbrev plD (q : List Nat) : PyData := .tuple (q.map fun n : Nat => .int (n : Nat))
def eD (e : List Nat × Tm) : PyData := .list [plD e.1, e.2.d]
structure PlOk (t : Tm) (pl : List Nat) (es : List (List Nat × Tm)) : Prop where
  at_ : ∀ e ∈ es, ∃ q, e.1 = pl ++ q ∧ sub t q = some e.2
  leaf : ∃ e ∈ es, leafB e.2 = true
def Pre_law_places (t : Tm) (pl : List Nat) (ms : List Dm) : Prop := ms = [.d t.d, .d (plD pl)]
def Po_law_places (t : Tm) (pl : List Nat) (_ : List Dm) (d : PyData) : Prop := ∃ es : List (List Nat × Tm), PlOk t pl es ∧ es.length ≤ t.sz ∧ d = .list (es.map eD)
def R_law_put (n : Nat) : List Dm → PyData → Prop := fun ms d => ∃ (t : Tm) (q : List Nat) (u s : Tm), sub t q = some s ∧ q.length ≤ n ∧ q.length ≤ 1000 ∧ ms = [.d t.d, .d (plD q), .d u.d] ∧ d = (putT t q u).d
def R_law_swap : List Dm → PyData → Prop := fun ms d => ∃ (f : Str) (p q : Tm), ms = [.d (Tm.b f p q).d] ∧ d = (Tm.b f q p).d
section
variable {P : Program} {w : World} {K : PySem.W.Frag} {mg : Str → Option Value} {base : Heap} (B : Bi mg)
theorem fd_law_swap (D : DefAt K mg "_law_swap" "_law_swap" s_law_swap) : FD P w K mg base 1 "_law_swap" P_law_swap R_law_swap := by
  refine fd_mk D (fun F => bn_law_swap F) fun f fd F => fn_mk F sc_law_swap (fun ms d ⟨_, _, _, h, _⟩ => by rw [h]; rfl) fun cdv A outer s H E ms d hr ⟨f, p, q, h1, h2⟩ => ?_
  subst h1 h2
  exact bd_ret (ed_t3 (ad_cons (ed_ix (ed_v 0) ed_int (ix_t (xs := [.str f, p.d, q.d]) (atI_nat (i := 0) rfl))) (ad_cons (ed_ix (ed_v 0) ed_int (ix_t (xs := [.str f, p.d, q.d]) (atI_nat (i := 2) rfl))) (ad_cons (ed_ix (ed_v 0) ed_int (ix_t (xs := [.str f, p.d, q.d]) (atI_nat (i := 1) rfl))) ad_nil)))) rfl
include B
theorem fx_law_places (D : DefAt K mg "_law_places" "_law_places" s_law_places) : ∀ n (t : Tm) (pl : List Nat), t.dep ≤ n → t.sz ≤ 1000 → pl.length + n ≤ 200 → FX P w K mg base (n + 1) "_law_places" P_law_places (Pre_law_places t pl) (Po_law_places t pl) := by
  intro n
  induction n using Nat.strongRecOn with
  | ind n ih =>
  intro t pl hd hz hp
  refine fxd_mk D (fun F => bn_law_places F) fun f fd F => fx_mk F sc_law_places (fun ms h => by rw [show ms = _ from h]; rfl) fun cdv A outer s H E ms hr h1 => ?_
  subst h1
  have hN := sc_law_places.nd
  refine bd_set 2 (ed_l1 (ad_cons (ed_l2 (ad_cons (ed_v 1) (ad_cons (ed_v 0) ad_nil))) ad_nil)) ?_ hN
  cases hv : t.isV with
  | true =>
    obtain ⟨x, rfl⟩ := d_v hv
    refine bd_ifF (td_notT (td_val (ed_isStr B (ed_v 0) rfl))) ?_
    exact bd_ret (ed_v 2) ⟨[(pl, .v x)], ⟨fun e he => by rw [List.mem_singleton.mp he]; exact ⟨[], by simp, rfl⟩, ⟨_, List.mem_singleton.mpr rfl, rfl⟩⟩, Nat.le_refl _, rfl⟩
  | false =>
    have hn := dep_ap hv
    have la := args_le t
    generalize hD : t.d = D0
    have hD2 := hD
    rw [d_ap hv] at hD2
    subst hD2
    have szt := sumz_args t
    refine bd_ifT (fun G' => ∃ es : List (List Nat × Tm), PlOk t pl es ∧ es.length ≤ t.sz ∧ ∃ z, G' = [.val (.d (.tuple (.str t.hd :: t.args.map Tm.d))), .val (.d (plD pl)), .val (.d (.list (es.map eD))), z]) (td_notF (td_val (ed_isStr B (ed_v 0) rfl))) ?_ ?_
    · refine bd_for (fun i G => G.set 3 (.val (.d (.int (i : Nat))))) (fun i G' => ∃ (es : List (List Nat × Tm)) (z : En), (∀ e ∈ es, ∃ q, e.1 = pl ++ q ∧ sub t q = some e.2) ∧ (1 ≤ i ∨ leafB t = true → ∃ e ∈ es, leafB e.2 = true) ∧ es.length ≤ 1 + sumz (t.args.take i) ∧ G' = [.val (.d (.tuple (.str t.hd :: t.args.map Tm.d))), .val (.d (plD pl)), .val (.d (.list (es.map eD))), z])
        (it_r (ed_bin (ed_len B (ed_v 0) len_t) ed_int bin_sub) B.rng (by simp only [List.length_cons, List.length_map]; omega) (by simp only [List.length_cons, List.length_map]; omega)) (pgN 3 hN) (fun i hi => tg_n 3) ⟨[(pl, t)], .no, fun e he => by rw [List.mem_singleton.mp he]; exact ⟨[], by simp, sub_nil t⟩, fun h => ⟨_, List.mem_singleton.mpr rfl, h.resolve_left (by decide)⟩, by simp, ?_⟩ ?_ ?_
      · rw [← hD]
        rfl
      · rintro i G' hi ⟨es, z, he, hlf, hlen, rfl⟩
        have hi' : i < t.args.length := by simp at hi; omega
        obtain ⟨a, ha⟩ : ∃ a, t.args[i]? = some a := ⟨_, List.getElem?_eq_getElem hi'⟩
        have haa : a.dep + 1 ≤ t.dep ∧ a.sz + 1 ≤ t.sz := by
          have hm := List.mem_of_getElem? ha
          cases t with
          | v x => cases hm
          | c x => cases hm
          | u f b =>
            rw [List.mem_singleton.mp hm]
            simp only [Tm.dep, Tm.sz]
            omega
          | b f b c =>
            rcases List.mem_cons.mp hm with e | hm
            · subst e
              simp only [Tm.dep, Tm.sz]
              omega
            · rw [List.mem_singleton.mp hm]
              simp only [Tm.dep, Tm.sz]
              omega
        have hix : atI (PyData.str t.hd :: t.args.map Tm.d) ((i : Nat) + 1) = some a.d := by
          rw [show ((i : Nat) : Int) + 1 = ((i + 1 : Nat) : Int) by omega]
          refine atI_nat ?_
          rw [List.getElem?_cons_succ, List.getElem?_map, ha]
          rfl
        have htk : t.args.take (i + 1) = t.args.take i ++ [a] := by rw [List.take_succ, ha]; rfl
        have hsz : sumz (t.args.take (i + 1)) ≤ sumz t.args := by
          have : ∀ (l : List Tm) (k : Nat), sumz (l.take k) ≤ sumz l := fun l => by
            induction l with
            | nil => intro k; simp [sumz]
            | cons b r ih =>
              intro k
              cases k with
              | zero => exact Nat.zero_le _
              | succ k => exact Nat.add_le_add_left (ih k) _
          exact this _ _
        refine bd_setX 2 (P := fun d => ∃ es2 : List (List Nat × Tm), PlOk a (pl ++ [i]) es2 ∧ es2.length ≤ a.sz ∧ d = .list (es.map eD ++ es2.map eD)) (ex_cat (P1 := fun d => d = .list (es.map eD)) (P2 := Po_law_places a (pl ++ [i]) []) (ex_ed (ed_v 2) rfl) (ex_call (ih (n - 1) (by omega) a (pl ++ [i]) (by omega) (by omega) (by simp; omega)) (hr.mono (by omega)) (ax_ad (S := fun ms => ms = _) (ad_cons (ed_ix (ed_v 0) (ed_bin (ed_v 3) ed_int bin_add) (ix_t hix)) (ad_cons (ed_bin (ed_v 1) (ed_t1 (ad_cons (ed_v 3) ad_nil)) (bin_addT (by simp; omega))) ad_nil)) rfl) (fun ms e => ?_) fun ms d _ h => h) ?_) ?_ hN
        · rw [e]
          show _ = [Dm.d a.d, .d (plD (pl ++ [i]))]
          simp only [plD, List.map_append]
          rfl
        · rintro d e rfl ⟨es2, h1, h2, rfl⟩
          refine ⟨_, _, rfl, rfl, ?_, es2, h1, h2, rfl⟩
          rw [List.length_map, List.length_map]
          rw [htk, sumz_app] at hsz
          omega
        · rintro d ⟨es2, h1, h2, rfl⟩
          refine bd_nil ⟨es ++ es2, .val (.d (.int (i : Nat))), fun e hm => ?_, fun _ => ?_, ?_, ?_⟩
          · rcases List.mem_append.mp hm with h | h
            · exact he e h
            · obtain ⟨q, q1, q2⟩ := h1.at_ e h
              exact ⟨i :: q, by rw [q1]; simp, by rw [sub_arg ha]; exact q2⟩
          · obtain ⟨e, h3, h4⟩ := h1.leaf
            exact ⟨e, List.mem_append_right _ h3, h4⟩
          · rw [htk, sumz_app, List.length_append]
            omega
          · rw [List.map_append]
            rfl
      · rintro G' ⟨es, z, he, hlf, hlen, rfl⟩
        have hn2 : ((((PyData.str t.hd :: t.args.map Tm.d).length : Nat) : Int) - 1).toNat = t.args.length := by simp
        rw [hn2] at hlf hlen
        rw [List.take_length] at hlen
        refine bd_nil ⟨es, ⟨he, hlf ?_⟩, by omega, z, rfl⟩
        rcases Nat.eq_zero_or_pos t.args.length with h | h
        · refine .inr ?_
          unfold leafB
          rw [List.length_eq_zero_iff.mp h]
          rfl
        · exact .inl h
    · rintro G' ⟨es, h1, h2, z, rfl⟩
      exact bd_ret (ed_v 2) ⟨es, h1, h2, rfl⟩
theorem fd_law_put (D : DefAt K mg "_law_put" "_law_put" s_law_put) : ∀ n, FD P w K mg base (n + 1) "_law_put" P_law_put (R_law_put n) := by
  intro n
  induction n using Nat.strongRecOn with
  | ind n ih =>
  refine fd_mk D (fun F => bn_law_put F) fun f fd F => fn_mk F sc_law_put (fun ms d ⟨_, _, _, _, _, _, _, h, _⟩ => by rw [h]; rfl) fun cdv A outer s H E ms d hr ⟨t, q, u, r, hs, hq, hq2, h1, h2⟩ => ?_
  subst h1 h2
  have hN := sc_law_put.nd
  cases q with
  | nil =>
    rw [put_nil]
    exact bd_ifT (fun _ => False) (td_cmpT (ed_len B (ed_v 1) (len_t (xs := []))) ed_int cmp_eqI rfl) (bd_ret (ed_v 2) rfl) fun _ z => z.elim
  | cons k q =>
    obtain ⟨hv, a, ha, hsa, hput⟩ := sub_cons hs
    have la := args_le t
    have hk := (List.getElem?_eq_some_iff.mp ha).1
    simp only [List.length_cons] at hq hq2
    rw [hput u, d_ap hv]
    have hix : atI (PyData.str t.hd :: t.args.map Tm.d) ((k : Nat) + 1) = some a.d := by
      rw [show ((k : Nat) : Int) + 1 = ((k + 1 : Nat) : Int) by omega]
      refine atI_nat ?_
      rw [List.getElem?_cons_succ, List.getElem?_map, ha]
      rfl
    refine bd_ifF (td_cmpF (ed_len B (ed_v 1) (len_t (xs := .int (k : Nat) :: q.map fun n : Nat => .int (n : Nat)))) ed_int cmp_eqI (decide_eq_false (by rw [List.length_cons]; omega))) ?_
    refine bd_setL (y := "") 3 (ed_v 0) ?_ B.lst hN
    refine bd_put 3 (ds := .str t.hd :: t.args.map Tm.d) (k := k + 1) (d := (putT a q u).d) (ed_call (ih (n - 1) (by omega)) (hr.mono (by omega)) (ad_cons (ed_ix (ed_v 0) (ed_bin (ed_ix (ed_v 1) ed_int (ix_t (xs := .int (k : Nat) :: q.map fun n : Nat => .int (n : Nat)) (atI_nat (i := 0) rfl))) ed_int bin_add) (ix_t hix)) (ad_cons (ed_sl (ed_v 1) (od_some ed_int) od_none (sl_t (cut1 (x := .int (k : Nat)) (xs := q.map fun n : Nat => .int (n : Nat))))) (ad_cons (ed_v 2) ad_nil))) ⟨a, q, u, r, hsa, by omega, by omega, rfl, rfl⟩)
      (pg_sub (pe_var (i := 3) rfl (.inl rfl)) (ed_bin (ed_ix (ed_v 1) ed_int (ix_t (xs := .int (k : Nat) :: q.map fun n : Nat => .int (n : Nat)) (atI_nat (i := 0) rfl))) ed_int bin_add) set_list) (by rw [List.length_cons, List.length_map]; omega) ?_
    refine bd_ret (ed_ttup B (ed_o 3) tup_b) ?_
    rfl
end
end Tw

set_option maxHeartbeats 4000000
namespace Tw
open PySem PySem.Spec L2
open PyProof.Rows hiding St
def isB : Tm → Bool
  | .b _ _ _ => true
  | _ => false
def Pre_law_nearly (ss : Sg) (t : Tm) (ms : List Dm) : Prop := ∃ (names : List Str) (row : List Int), (∀ x ∈ names, x ∈ vNames) ∧ names.length ≤ 10 ∧ (∀ a ∈ row, 0 ≤ a) ∧ 3 ≤ row.length ∧ row.length ≤ 1000 ∧ ms = [.d (sgD ss), .d (namesD names), .d t.d, .d (intsD row)]
def Po_law_nearly (ss : Sg) (t : Tm) (_ : List Dm) (d : PyData) : Prop := ∃ u : Tm, TmB ss (t.dep + 2) (t.sz + 3) u ∧ d = u.d
section
variable {P : Program} {w : World} {K : PySem.W.Frag} {mg : Str → Option Value} {base : Heap} (B : Bi mg)
include B
theorem fx_law_nearly {ss : Sg} (g : ss.Good) {t : Tm} {n : Nat} (o : Ok ss t) (hd : t.dep ≤ n) (hn : n ≤ 60) (hz : t.sz ≤ 500) (D : DefAt K mg "_law_nearly" "_law_nearly" s_law_nearly) (F1 : FX P w K mg base (n + 1) "_law_places" P_law_places (Pre_law_places t []) (Po_law_places t []))
    (F2 : FD P w K mg base (n + 1) "_law_put" P_law_put (R_law_put n)) (F3 : FD P w K mg base 1 "_law_two" P_law_two R_law_two) (F4 : FD P w K mg base 1 "_law_swap" P_law_swap R_law_swap) (F5 : FX P w K mg base 2 "_law_term" P_law_term (Pre_law_term ss 1) (Po_law_term ss 1)) (hn1 : 1 ≤ n) :
    FX P w K mg base (n + 2) "_law_nearly" P_law_nearly (Pre_law_nearly ss t) (Po_law_nearly ss t) := by
  refine fxd_mk D (fun F => bn_law_nearly F) fun f fd F => fx_mk F sc_law_nearly (fun ms ⟨_, _, _, _, _, _, _, h⟩ => by rw [h]; rfl) fun cdv A outer s H E ms hr ⟨names, row, hnm, hnl, hrow, hr3, hrl, h1⟩ => ?_
  subst h1
  have hN := sc_law_nearly.nd
  have hr1 : Room 1 (A.deeper (envOfC "_law_nearly" (defScope s_law_nearly) s.heap.objs.size f cdv)) := hr.mono (by omega)
  obtain ⟨a0, ha0⟩ : ∃ a, row[0]? = some a := ⟨_, List.getElem?_eq_getElem (by omega)⟩
  obtain ⟨a1, ha1⟩ : ∃ a, row[1]? = some a := ⟨_, List.getElem?_eq_getElem (by omega)⟩
  obtain ⟨a2, ha2⟩ : ∃ a, row[2]? = some a := ⟨_, List.getElem?_eq_getElem (by omega)⟩
  have at_ : ∀ {i : Nat} {a : Int}, row[i]? = some a → atI (row.map PyData.int) (i : Nat) = some (.int a) := fun h => atI_nat (by rw [List.getElem?_map, h] <;> rfl)
  refine bd_setX 4 (P := Po_law_places t [] []) (ex_call F1 hr (ax_ad (S := fun ms => ms = _) (ad_cons (ed_v 2) (ad_cons (ed_tup (ds := []) ad_nil) ad_nil)) rfl) (fun ms e => e) fun ms d _ h => h) ?_ hN
  rintro d0 ⟨es, ⟨pa, pl⟩, hel, rfl⟩
  have hlen : (es.map eD).length = es.length := List.length_map _
  have epos : 0 < es.length := by
    obtain ⟨e, he, _⟩ := pl
    exact List.length_pos_iff.mpr fun z => by rw [z] at he; cases he
  have hsub : ∀ e ∈ es, sub t e.1 = some e.2 := fun e he => by
    obtain ⟨q, q1, q2⟩ := pa e he
    rw [q1]
    exact q2
  refine bd_setFilt 5 12 es eD (fun e => leafB e.2) eD (it_l (ed_v 4)) (fun i a h => nth_map h) hlen (fun a _ s H C cl fp => ?_) (fun a _ _ s H C cl fp => ed_v 12) hN (by omega) ?_
  · obtain ⟨q, s0⟩ := a
    cases s0 with
    | v x => exact td_is (wd_or (td_val (ed_isStr B (ed_ix (ed_v 12) ed_int (ix_l (atI_nat (i := 1) rfl))) rfl)) (c := true) fun z => by cases z).pt rfl
    | c x => exact td_is (wd_or (td_val (ed_isStr B (ed_ix (ed_v 12) ed_int (ix_l (atI_nat (i := 1) rfl))) rfl)) fun _ => wd_or1 (td_cmp (ed_len B (ed_ix (ed_v 12) ed_int (ix_l (atI_nat (i := 1) rfl))) len_t) ed_int cmp_eqI)).pt rfl
    | u x p => exact td_is (wd_or (td_val (ed_isStr B (ed_ix (ed_v 12) ed_int (ix_l (atI_nat (i := 1) rfl))) rfl)) fun _ => wd_or1 (td_cmp (ed_len B (ed_ix (ed_v 12) ed_int (ix_l (atI_nat (i := 1) rfl))) len_t) ed_int cmp_eqI)).pt rfl
    | b x p r => exact td_is (wd_or (td_val (ed_isStr B (ed_ix (ed_v 12) ed_int (ix_l (atI_nat (i := 1) rfl))) rfl)) fun _ => wd_or1 (td_cmp (ed_len B (ed_ix (ed_v 12) ed_int (ix_l (atI_nat (i := 1) rfl))) len_t) ed_int cmp_eqI)).pt rfl
  have lpos : 0 < (es.filter fun e => leafB e.2).length := by
    obtain ⟨e, he, hl⟩ := pl
    exact List.length_pos_iff.mpr fun z => by
      have : e ∈ es.filter fun e => leafB e.2 := List.mem_filter.mpr ⟨he, hl⟩
      rw [z] at this
      cases this
  have lle : (es.filter fun e => leafB e.2).length ≤ es.length := List.length_filter_le _ _
  have lf : ∀ e ∈ es.filter fun e => leafB e.2, e ∈ es ∧ leafB e.2 = true := fun e he => List.mem_filter.mp he
  generalize hLV : es.filter (fun e => leafB e.2) = lv at lpos lle lf ⊢
  have lvl : (lv.map eD).length = lv.length := List.length_map _
  have putD : ∀ {t' : Tm} {q : List Nat} {u s' : Tm}, sub t' q = some s' → q.length ≤ n → R_law_put n [.d t'.d, .d (plD q), .d u.d] (putT t' q u).d := fun h1 h2 => ⟨_, _, _, _, h1, h2, by omega, rfl, rfl⟩
  have qle : ∀ e ∈ es, e.1.length ≤ n := fun e he => by
    have := (sub_ok t e.1 e.2 o (hsub e he)).2.2.1
    omega
  let G5 : En → En → List En := fun x y => [.val (.d (sgD ss)), .val (.d (namesD names)), .val (.d t.d), .val (.d (intsD row)), .val (.d (.list (es.map eD))), .val (.d (.list (lv.map eD))), x, y, .no, .no, .no, .no, .no]
  refine bd_if (fun G' => ∃ x y, G' = G5 x y) (td_cmp (ed_tint B (ed_ix (ed_v 3) ed_int (ix_l (at_ ha0))) int_i) ed_int cmp_lt) (fun _ => ?_) (fun _ => bd_nil ⟨.no, .no, rfl⟩) ?_
  · have hpos : (0 : Int) < ((lv.map eD).length : Nat) := by omega
    obtain ⟨m, hm, em⟩ := atI_map (f := eD) (xs := lv) (Int.emod_nonneg a1 (by omega)) (Int.emod_lt_of_pos a1 hpos)
    obtain ⟨hme, hml⟩ := lf m hm
    have om := sub_ok t m.1 m.2 o (hsub m hme)
    refine bd_set 6 (ed_ix (ed_v 5) (ed_bin (ed_tint B (ed_ix (ed_v 3) ed_int (ix_l (at_ ha1))) int_i) (ed_len B (ed_v 5) len_l) (bin_mod hpos)) (ix_l em)) ?_ hN
    have shm : SeqAt.shaped m.2.d = true := shaped_d g om.1 (by omega)
    refine bd_setFilt 7 12 lv eD (fun e => !decide (e.2 = m.2)) eD (it_l (ed_v 5)) (fun i a h => nth_map h) lvl (fun a ha s H C cl fp => ?_) (fun a _ _ s H C cl fp => ed_v 12) hN (by omega) ?_
    · have oa := sub_ok t a.1 a.2 o (hsub a (lf a ha).1)
      exact td_is (td_cmp (ed_ix (ed_v 12) ed_int (ix_l (xs := [plD a.1, a.2.d]) (atI_nat (i := 1) rfl))) (ed_ix (ed_v 6) ed_int (ix_l (xs := [plD m.1, m.2.d]) (atI_nat (i := 1) rfl))) (cmp_neD (room64 hr) (shaped_d g oa.1 (by omega)) shm)) (by rw [eqv_d])
    have olf : ∀ e ∈ lv.filter (fun e => !decide (e.2 = m.2)), e ∈ lv := fun e he => (List.mem_filter.mp he).1
    have ole : (lv.filter (fun e => !decide (e.2 = m.2))).length ≤ lv.length := List.length_filter_le _ _
    generalize lv.filter (fun e => !decide (e.2 = m.2)) = ot at olf ole ⊢
    have otl : (ot.map eD).length = ot.length := List.length_map _
    refine bd_ifR (td_cmp (ed_len B (ed_v 7) len_l) ed_int cmp_gt) (fun hb => ?_) fun _ => bd_nil ⟨.val (.d (eD m)), .val (.d (.list (ot.map eD))), rfl⟩
    have hpos2 : (0 : Int) < ((ot.map eD).length : Nat) := of_decide_eq_true hb
    obtain ⟨z, hz2, ez⟩ := atI_map (f := eD) (xs := ot) (Int.emod_nonneg a2 (by omega)) (Int.emod_lt_of_pos a2 hpos2)
    obtain ⟨hze, hzl⟩ := lf z (olf z hz2)
    have oz := sub_ok t z.1 z.2 o (hsub z hze)
    refine bd_set 8 (ed_ix (ed_v 7) (ed_bin (ed_tint B (ed_ix (ed_v 3) ed_int (ix_l (at_ ha2))) int_i) (ed_len B (ed_v 7) len_l) (bin_mod hpos2)) (ix_l ez)) ?_ hN
    obtain ⟨r', hr', _⟩ := leaf_put hzl t m.1 z.1 m.2 z.2 (hsub m hme) hml (hsub z hze) hzl
    obtain ⟨bm1, bm2⟩ := leaf_B hml
    obtain ⟨bz1, bz2⟩ := leaf_B hzl
    have b1 := put_B (k := 1) oz.1 t m.1 m.2 o (hsub m hme) (by omega) (by omega)
    have b2 := put_B (k := 1) om.1 (putT t m.1 z.2) z.1 r' b1.1 hr' (by omega) (by have := sumz_args r'; omega)
    refine bd_ret (ed_call F2 hr (ad_cons (ed_call F2 hr (ad_cons (ed_v 2) (ad_cons (ed_ix (ed_v 6) ed_int (ix_l (xs := [plD m.1, m.2.d]) (atI_nat (i := 0) rfl))) (ad_cons (ed_ix (ed_v 8) ed_int (ix_l (xs := [plD z.1, z.2.d]) (atI_nat (i := 1) rfl))) ad_nil))) (putD (hsub m hme) (qle m hme))) (ad_cons (ed_ix (ed_v 8) ed_int (ix_l (xs := [plD z.1, z.2.d]) (atI_nat (i := 0) rfl))) (ad_cons (ed_ix (ed_v 6) ed_int (ix_l (xs := [plD m.1, m.2.d]) (atI_nat (i := 1) rfl))) ad_nil))) (putD hr' (qle z hze)))
      ⟨putT (putT t m.1 z.2) z.1 m.2, ⟨b2.1, by have := b2.2.1; have := b1.2.1; omega, by have := b2.2.2; have := b1.2.2; omega⟩, rfl⟩
  rintro G' ⟨x, y, rfl⟩
  refine bd_setFilt 9 12 es eD (fun e => isB e.2) eD (it_l (ed_v 4)) (fun i a h => nth_map h) hlen (fun a _ s H C cl fp => ?_) (fun a _ _ s H C cl fp => ed_v 12) hN (by omega) ?_
  · obtain ⟨q, s0⟩ := a
    cases s0 with
    | v x => exact td_is (wd_and (td_not (td_val (ed_isStr B (ed_ix (ed_v 12) ed_int (ix_l (atI_nat (i := 1) rfl))) rfl))) (c := true) fun z => by cases z).pt rfl
    | c x => exact td_is (wd_and (td_not (td_val (ed_isStr B (ed_ix (ed_v 12) ed_int (ix_l (atI_nat (i := 1) rfl))) rfl))) fun _ => wd_and1 (td_cmp (ed_len B (ed_ix (ed_v 12) ed_int (ix_l (atI_nat (i := 1) rfl))) len_t) ed_int cmp_eqI)).pt rfl
    | u x p => exact td_is (wd_and (td_not (td_val (ed_isStr B (ed_ix (ed_v 12) ed_int (ix_l (atI_nat (i := 1) rfl))) rfl))) fun _ => wd_and1 (td_cmp (ed_len B (ed_ix (ed_v 12) ed_int (ix_l (atI_nat (i := 1) rfl))) len_t) ed_int cmp_eqI)).pt rfl
    | b x p r => exact td_is (wd_and (td_not (td_val (ed_isStr B (ed_ix (ed_v 12) ed_int (ix_l (atI_nat (i := 1) rfl))) rfl))) fun _ => wd_and1 (td_cmp (ed_len B (ed_ix (ed_v 12) ed_int (ix_l (atI_nat (i := 1) rfl))) len_t) ed_int cmp_eqI)).pt rfl
  have bl : ∀ e ∈ es.filter (fun e => isB e.2), e ∈ es ∧ isB e.2 = true := fun e he => List.mem_filter.mp he
  have ble : (es.filter (fun e => isB e.2)).length ≤ es.length := List.length_filter_le _ _
  generalize es.filter (fun e => isB e.2) = bs at bl ble ⊢
  have bsl : (bs.map eD).length = bs.length := List.length_map _
  refine bd_setFilt 10 12 bs eD (fun e => !((ss.two.map PyData.str).any fun w => eqP w (.str e.2.hd))) eD (it_l (ed_v 9)) (fun i a h => nth_map h) bsl (fun a ha s H C cl fp => ?_) (fun a _ _ s H C cl fp => ed_v 12) hN (by omega) ?_
  · obtain ⟨q, s0⟩ := a
    have hb := (bl _ ha).2
    cases s0 with
    | b x p r => exact td_cmp (ed_ix (ed_ix (ed_v 12) ed_int (ix_l (xs := [plD q, (Tm.b x p r).d]) (atI_nat (i := 1) rfl))) ed_int (ix_t (xs := [.str x, p.d, r.d]) (atI_nat (i := 0) rfl))) (ed_call F3 (hr1) (ad_cons (ed_v 0) ad_nil) ⟨ss, g, rfl, rfl⟩) (cmp_ninL rfl (two_flat ss))
    | _ => cases hb
  have nl : ∀ e ∈ bs.filter (fun e => !((ss.two.map PyData.str).any fun w => eqP w (.str e.2.hd))), e ∈ bs := fun e he => (List.mem_filter.mp he).1
  have nle : (bs.filter (fun e => !((ss.two.map PyData.str).any fun w => eqP w (.str e.2.hd)))).length ≤ bs.length := List.length_filter_le _ _
  generalize bs.filter (fun e => !((ss.two.map PyData.str).any fun w => eqP w (.str e.2.hd))) = nw at nl nle ⊢
  let G9 : List (List Nat × Tm) → List En := fun b => [.val (.d (sgD ss)), .val (.d (namesD names)), .val (.d t.d), .val (.d (intsD row)), .val (.d (.list (es.map eD))), .val (.d (.list (lv.map eD))), x, y, .no, .val (.d (.list (b.map eD))), .val (.d (.list (nw.map eD))), .no, .no]
  refine bd_if (fun G' => ∃ b : List (List Nat × Tm), (∀ e ∈ b, e ∈ es ∧ isB e.2 = true) ∧ b.length ≤ 1000 ∧ G' = G9 b) (wd_and (td_cmp (ed_len B (ed_v 10) len_l) ed_int cmp_gt) fun _ => wd_and1 (td_cmp (ed_bin (ed_tint B (ed_ix (ed_v 3) ed_int (ix_l (at_ ha2))) int_i) ed_int (bin_mod (by decide))) ed_int cmp_gt)).pt
    (fun _ => bd_set 9 (ed_v 10) (bd_nil ⟨nw, fun e he => bl e (nl e he), by omega, rfl⟩) hN) (fun _ => bd_nil ⟨bs, bl, by omega, rfl⟩) ?_
  rintro G' ⟨b, hb, hbl, rfl⟩
  have bml : (b.map eD).length = b.length := List.length_map _
  refine bd_ifR (wd_and (td_cmp (ed_tint B (ed_ix (ed_v 3) ed_int (ix_l (at_ ha0))) int_i) ed_int cmp_eqI) fun _ => wd_and1 (td_cmp (ed_len B (ed_v 9) len_l) ed_int cmp_gt)).pt (fun hc => ?_) fun _ => ?_
  · rw [Bool.and_eq_true] at hc
    have hpos : (0 : Int) < ((b.map eD).length : Nat) := of_decide_eq_true hc.2
    obtain ⟨m, hm, em⟩ := atI_map (f := eD) (xs := b) (Int.emod_nonneg a1 (by omega)) (Int.emod_lt_of_pos a1 hpos)
    obtain ⟨hme, hmb⟩ := hb m hm
    refine bd_set 11 (ed_ix (ed_v 9) (ed_bin (ed_tint B (ed_ix (ed_v 3) ed_int (ix_l (at_ ha1))) int_i) (ed_len B (ed_v 9) len_l) (bin_mod hpos)) (ix_l em)) ?_ hN
    obtain ⟨q, s0⟩ := m
    have hs0 := hsub _ hme
    have hq := qle _ hme
    cases s0 with
    | b f1 p r =>
      have os := (sub_ok t q _ o hs0).1
      have bb := put_B (k := 0) (w := .b f1 r p) (ss := ss) ⟨os.1, os.2.2, os.2.1⟩ t q _ o hs0 (by simp only [Tm.dep]; omega) (by simp only [Tm.sz]; omega)
      exact bd_ret (ed_call F2 hr (ad_cons (ed_v 2) (ad_cons (ed_ix (ed_v 11) ed_int (ix_l (xs := [plD q, (Tm.b f1 p r).d]) (atI_nat (i := 0) rfl))) (ad_cons (ed_call F4 hr1 (ad_cons (ed_ix (ed_v 11) ed_int (ix_l (xs := [plD q, (Tm.b f1 p r).d]) (atI_nat (i := 1) rfl))) ad_nil) ⟨f1, p, r, rfl, rfl⟩) ad_nil))) (putD hs0 hq)) ⟨_, bb.up (by omega) (by omega), rfl⟩
    | _ => cases hmb
  have hpos : (0 : Int) < ((es.map eD).length : Nat) := by omega
  obtain ⟨m, hm, em⟩ := atI_map (f := eD) (xs := es) (Int.emod_nonneg a1 (by omega)) (Int.emod_lt_of_pos a1 hpos)
  refine bd_set 11 (ed_ix (ed_v 4) (ed_bin (ed_tint B (ed_ix (ed_v 3) ed_int (ix_l (at_ ha1))) int_i) (ed_len B (ed_v 4) len_l) (bin_mod hpos)) (ix_l em)) ?_ hN
  refine bd_retX (P := Po_law_nearly ss t []) (ex_call F2.x hr (ax_consE (ed_v 2) (ax_consE (ed_ix (ed_v 11) ed_int (ix_l (xs := [plD m.1, m.2.d]) (atI_nat (i := 0) rfl))) (ax_cons (P := fun d => ∃ u, TmB ss 2 3 u ∧ d = u.d) (ex_ix (P2 := Po_law_term ss 1 []) (ex_call F5 (hr.mono (by omega)) (ax_ad (S := fun ms => ms = _) (ad_cons (ed_v 0) (ad_cons (ed_v 1) (ad_cons (ed_v 3) (ad_cons ed_int (ad_cons ed_int ad_nil))))) rfl) (fun ms e => ⟨names, row, 3, hnm, hnl, hrow, hrl, by decide, e⟩) fun ms d _ h => h) ed_int ?_) ax_nil))) ?_ ?_) fun d h => h
  · rintro d ⟨u, j, hT, _, rfl⟩
    exact ⟨_, u.d, rfl, atI_nat (i := 0) rfl, u, hT, rfl⟩
  · rintro ms ⟨ns, rfl, ns2, rfl, d, ns3, rfl, ⟨u, hT, rfl⟩, rfl⟩
    exact ⟨_, putD (u := u) (hsub m hm) (qle m hm)⟩
  · rintro ms d ⟨ns, rfl, ns2, rfl, d2, ns3, rfl, ⟨u, hT, rfl⟩, rfl⟩ hR
    obtain ⟨t', q', u', s', k1, k2, k3, k4, k5⟩ := hR
    injection k4 with e1 k4
    injection k4 with e2 k4
    injection k4 with e3 _
    have e1' : t = t' := d_inj (by injection e1)
    have e3' : u = u' := d_inj (by injection e3)
    have e2' : m.1 = q' := by
      have h : plD m.1 = plD q' := by injection e2
      have h2 : (m.1.map fun n : Nat => PyData.int (n : Nat)) = q'.map fun n : Nat => PyData.int (n : Nat) := by injection h
      have inj : ∀ (l l' : List Nat), (l.map fun n : Nat => PyData.int (n : Nat)) = (l'.map fun n : Nat => PyData.int (n : Nat)) → l = l' := fun l => by
        induction l with
        | nil =>
          intro l' h
          cases l' with
          | nil => rfl
          | cons _ _ => cases h
        | cons a r ih =>
          intro l' h
          cases l' with
          | nil => cases h
          | cons b s =>
            injection h with h1 h2
            injection h1 with h1
            rw [ih s h2, show a = b by omega]
      exact inj _ _ h2
    subst e1' e2' e3'
    have oz := sub_ok t m.1 m.2 o (hsub m hm)
    have hsz := sumz_args m.2
    have hT2 := hT.2.1
    have hT3 := hT.2.2
    exact ⟨_, (put_B (k := 2) hT.1 t m.1 m.2 o (hsub m hm) (by omega) (by omega)).up (Nat.le_refl _) (by omega), k5⟩
end
end Tw

set_option maxHeartbeats 4000000
namespace Tw
open PySem PySem.Spec L2
open PyProof.Rows hiding St
theorem digs_rep {n : Nat} {m : Int} {ds : List Int} (h : Digs (List.replicate n m) ds) : ds.length = n ∧ ∀ a ∈ ds, 0 ≤ a ∧ a < m := by
  obtain ⟨h1, h2⟩ := h
  rw [List.length_replicate] at h1
  refine ⟨h1, fun a ha => ?_⟩
  obtain ⟨i, hi, e⟩ := List.mem_iff_getElem.mp ha
  exact h2 i m a (by rw [List.getElem?_replicate, if_pos (by omega)]) (by rw [List.getElem?_eq_getElem hi, e])
theorem rep_eq (m : Int) : ∀ n : Nat, (List.replicate n [PyData.int m]).flatten = (List.replicate n m).map PyData.int
  | 0 => rfl
  | n + 1 => by
    rw [List.replicate_succ, List.replicate_succ, List.flatten_cons, List.map_cons, rep_eq m n]
    rfl
section
variable {X : Cx} {G : List En}
/-- _law_digits(_law_cell(s, k), sizes) -/
theorem ex_digits {e1 e2 e3 : Expr} {p1 p2 p3 p4 : Pos} {ns : List Int} {k : Nat} {zs : List Int} (Fd : FX X.prog X.w X.K X.mg X.base 1 "_law_digits" P_law_digits Pre_law_digits Po_law_digits) (Fc : FX X.prog X.w X.K X.mg X.base 1 "_law_cell" P_law_cell Pre_law_cell Po_law_cell) (hr : Room 1 X.A)
    (h1 : ED X G e1 (.scr ns)) (h2 : ED X G e2 (.d (.int (k : Nat)))) (h3 : ED X G e3 (.d (intsD zs))) (hk : k ≤ 1000) (hl : zs.length ≤ 1000) (hz : ∀ z ∈ zs, 0 < z ∧ z < 1000000)
    (g1 : Gl X "_law_digits" := by rfl) (g2 : Gl X "_law_cell" := by rfl) (s1 : starEach [e1, e2] X.env = (false, eval e1 X.env) :: starEach [e2] X.env := by rfl) (s2 : starEach [e2] X.env = (false, eval e2 X.env) :: starEach [] X.env := by rfl) (hpl : (backTo p2 (starEach [e2] X.env)).any (·.1) = false := by rfl)
    (s3 : starEach [.Call (.Name "_law_cell" p1) [e1, e2] [] p2, e3] X.env = (false, eval (.Call (.Name "_law_cell" p1) [e1, e2] [] p2) X.env) :: starEach [e3] X.env := by rfl) (s4 : starEach [e3] X.env = (false, eval e3 X.env) :: starEach [] X.env := by rfl) (hpl2 : (backTo p4 (starEach [e3] X.env)).any (·.1) = false := by rfl) :
    EX X G (.Call (.Name "_law_digits" p3) [.Call (.Name "_law_cell" p1) [e1, e2] [] p2, e3] [] p4) (fun d => ∃ ds, Digs zs ds ∧ d = intsD ds) := by
  refine ex_call Fd hr (ax_cons (P := fun d => ∃ i : Int, d = .int i) (ex_call Fc hr (ax_ad (S := fun ms => ms = _) (ad_cons h1 (ad_cons h2 ad_nil s2) s1) rfl) (fun ms e => ⟨ns, k, hk, e⟩) (fun ms d _ h => h) g2 (by decide) s1 hpl) (ax_ad (S := fun ms => ms = [.d (intsD zs)]) (ad_cons h3 ad_nil s4) rfl) s3) ?_ ?_ g1 (by decide) s3 hpl2
  · rintro ms ⟨d, ns', rfl, ⟨i, rfl⟩, rfl⟩
    exact ⟨i, zs, hl, hz, rfl⟩
  · rintro ms d ⟨d', ns', rfl, ⟨i, rfl⟩, rfl⟩ h
    exact h i zs rfl
end
def Pre_law_grown (ss : Sg) (ms : List Dm) : Prop := ∃ (ns : List Int) (names : List Str) (fm many : Nat), (∀ x ∈ names, x ∈ vNames) ∧ names.length ≤ 10 ∧ many < 56 ∧ ms = [.scr ns, .d (.int 2), .d (sgD ss), .d (namesD names), .d (.int (fm : Nat)), .d (.int (many : Nat))]
def Po_law_grown (ss : Sg) (_ : List Dm) (d : PyData) : Prop := ∃ t : Tm, TmB ss 57 58 t ∧ d = t.d
section
variable {P : Program} {w : World} {K : PySem.W.Frag} {mg : Str → Option Value} {base : Heap} (B : Bi mg)
include B
theorem fx_law_grown {ss : Sg} (hS : SgQ ss) (D : DefAt K mg "_law_grown_term" "_law_grown_term" s_law_grown_term) (Fc : FX P w K mg base 1 "_law_cell" P_law_cell Pre_law_cell Po_law_cell) (Fd : FX P w K mg base 1 "_law_digits" P_law_digits Pre_law_digits Po_law_digits) (F2 : FD P w K mg base 1 "_law_two" P_law_two R_law_two)
    (Ft : ∀ dp, FX P w K mg base (dp + 1) "_law_term" P_law_term (Pre_law_term ss dp) (Po_law_term ss dp)) (Fx : ∀ dp, FX P w K mg base (dp + 2) "_law_crossed" P_law_crossed (Pre_law_crossed ss dp) (Po_law_crossed ss dp))
    (Fu : ∀ n (t : Tm), Ok ss t → t.dep ≤ n → FX P w K mg base (n + 1) "_law_turned" P_law_turned (Pre_law_turned ss t) (Po_law_turned ss t)) : FX P w K mg base 12 "_law_grown_term" P_law_grown_term (Pre_law_grown ss) (Po_law_grown ss) := by
  refine fxd_mk D (fun F => bn_law_grown_term F) fun f fd F => fx_mk F sc_law_grown_term (fun ms ⟨_, _, _, _, _, _, _, h⟩ => by rw [h]; rfl) fun cdv A outer s H E ms hr ⟨ns, names, fm, many, hnm, hnl, hmany, h1⟩ => ?_
  subst h1
  have hN := sc_law_grown_term.nd
  have g := hS.g
  have lz := g.len
  have lss : (ss.map Sy.d).length = ss.length := List.length_map _
  have hr1 : Room 1 (A.deeper (envOfC "_law_grown_term" (defScope s_law_grown_term) s.heap.objs.size f cdv)) := hr.mono (by decide)
  have l2 : (ss.two.map PyData.str).length = ss.two.length := List.length_map _
  have tpos := two_pos hS
  refine bd_set 6 (ed_call F2 hr1 (ad_cons (ed_v 2) ad_nil) ⟨ss, g, rfl, rfl⟩) ?_ hN
  refine bd_setX 7 (ex_digits (k := 2) (zs := List.replicate 31 1200) Fd Fc hr1 (ed_v 0) (ed_v 1) (ed_is (ed_bin (ed_l1 (ad_cons ed_int ad_nil)) ed_int (bin_rep (by decide) (by decide) (by decide))) (congrArg (fun l => Dm.d (.list l)) (rep_eq 1200 31))) (by decide) (by decide) (fun z hz => by rw [List.eq_of_mem_replicate hz]; exact ⟨by decide, by decide⟩)) ?_ hN
  rintro d1 ⟨row, hrow, rfl⟩
  obtain ⟨rl, rb⟩ := digs_rep hrow
  have termP : ∀ {at_ : Int} (dp : Nat), 0 ≤ at_ → Pre_law_term ss dp [.d (sgD ss), .d (namesD names), .d (intsD row), .d (.int at_), .d (.int (dp : Nat))] := fun dp h => ⟨names, row, _, hnm, hnl, fun a ha => (rb a ha).1, by omega, h, rfl⟩
  refine bd_ifR (td_cmp (ed_v 4) ed_int cmp_lt) (fun hb => ?_) fun _ => ?_
  · have hb' : (fm : Int) < 3 := of_decide_eq_true hb
    refine bd_retX (P := Po_law_crossed ss (1 + fm) []) (ex_call (Fx (1 + fm)) (hr.mono (by omega)) (ax_ad (S := fun ms => ms = _) (ad_cons (ed_v 2) (ad_cons (ed_v 3) (ad_cons (ed_v 7) (ad_cons (ed_bin ed_int (ed_v 4) bin_add) ad_nil)))) rfl) (fun ms e => ⟨names, row, hnm, hnl, fun a ha => (rb a ha).1, by omega, by omega, ?_⟩) fun ms d _ h => h) ?_
    · rw [e, show (1 : Int) + (fm : Nat) = ((1 + fm : Nat) : Int) by omega]
    · rintro d ⟨t, hT, rfl⟩
      have z3 : fm = 0 ∨ fm = 1 ∨ fm = 2 := by omega
      refine ⟨t, hT.up (by omega) ?_, rfl⟩
      rcases z3 with e | e | e <;> subst e <;> decide
  refine bd_setX 8 (ex_digits (k := 3) (zs := List.replicate 56 720) Fd Fc hr1 (ed_v 0) (ed_bin (ed_v 1) ed_int bin_add) (ed_is (ed_bin (ed_l1 (ad_cons ed_int ad_nil)) ed_int (bin_rep (by decide) (by decide) (by decide))) (congrArg (fun l => Dm.d (.list l)) (rep_eq 720 56))) (by decide) (by decide) (fun z hz => by rw [List.eq_of_mem_replicate hz]; exact ⟨by decide, by decide⟩)) ?_ hN
  rintro d2 ⟨sw, hsw, rfl⟩
  obtain ⟨sl, sb⟩ := digs_rep hsw
  have swat : ∀ {i : Int}, 0 ≤ i → i < 56 → ∃ a, 0 ≤ a ∧ atI (sw.map PyData.int) i = some (.int a) := fun {i} h0 h1 => by
    obtain ⟨a, ha, e⟩ := atI_map (f := PyData.int) (xs := sw) (i := i) h0 (by rw [List.length_map]; omega)
    exact ⟨a, (sb a ha).1, e⟩
  refine bd_setX 9 (P := fun d => ∃ t, TmB ss 2 3 t ∧ d = t.d) (ex_ix (P2 := Po_law_term ss 1 []) (ex_call (Ft 1) (hr.mono (by decide)) (ax_ad (S := fun ms => ms = _) (ad_cons (ed_v 2) (ad_cons (ed_v 3) (ad_cons (ed_v 7) (ad_cons ed_int (ad_cons ed_int ad_nil))))) rfl) (fun ms e => by rw [e]; exact termP 1 (Int.le_refl _)) fun ms d _ h => h) ed_int ?_) ?_ hN
  · rintro d ⟨u, j, hT, _, rfl⟩
    exact ⟨_, u.d, rfl, atI_nat (i := 0) rfl, u, hT, rfl⟩
  rintro d3 ⟨t0, hT0, rfl⟩
  refine bd_setFilt 10 16 ss Sy.d (fun s => decide ((s.ar : Int) = 2)) (fun s => .str s.n) (it_l (ed_v 2)) (fun i a h => nth_map h) lss (fun a _ s H C cl fp => td_cmp (ed_ix (ed_v 16) ed_int (ix_t (atI_nat (i := 1) rfl))) ed_int cmp_eqI) (fun a _ _ s H C cl fp => ed_ix (ed_v 16) ed_int (ix_t (atI_nat (i := 0) rfl))) hN (by omega) ?_
  refine bd_setFilt 11 16 ss Sy.d (fun s => decide ((s.ar : Int) = 1)) (fun s => .str s.n) (it_l (ed_v 2)) (fun i a h => nth_map h) lss (fun a _ s H C cl fp => td_cmp (ed_ix (ed_v 16) ed_int (ix_t (atI_nat (i := 1) rfl))) ed_int cmp_eqI) (fun a _ _ s H C cl fp => ed_ix (ed_v 16) ed_int (ix_t (atI_nat (i := 0) rfl))) hN (by omega) ?_
  have prP : ∀ y ∈ ss.filter (fun s => decide ((s.ar : Int) = 2)), y ∈ ss ∧ y.ar = 2 := fun y hy => by
    obtain ⟨h1, h2⟩ := List.mem_filter.mp hy
    have := of_decide_eq_true h2
    exact ⟨h1, by omega⟩
  have snP : ∀ y ∈ ss.filter (fun s => decide ((s.ar : Int) = 1)), y ∈ ss ∧ y.ar = 1 := fun y hy => by
    obtain ⟨h1, h2⟩ := List.mem_filter.mp hy
    have := of_decide_eq_true h2
    exact ⟨h1, by omega⟩
  have prpos : 0 < (ss.filter (fun s => decide ((s.ar : Int) = 2))).length := by
    obtain ⟨c, hc, e⟩ := hS.t
    have h2 := g.tw c hc e
    exact List.length_pos_iff.mpr fun z => by
      have : c ∈ ss.filter fun s => decide ((s.ar : Int) = 2) := List.mem_filter.mpr ⟨hc, decide_eq_true (by omega)⟩
      rw [z] at this
      cases this
  have prle : (ss.filter (fun s => decide ((s.ar : Int) = 2))).length ≤ ss.length := List.length_filter_le _ _
  have snle : (ss.filter (fun s => decide ((s.ar : Int) = 1))).length ≤ ss.length := List.length_filter_le _ _
  generalize ss.filter (fun s => decide ((s.ar : Int) = 2)) = pr at prP prpos prle ⊢
  generalize ss.filter (fun s => decide ((s.ar : Int) = 1)) = sn at snP snle ⊢
  have prl : (pr.map fun s => PyData.str s.n).length = pr.length := List.length_map _
  have snl : (sn.map fun s => PyData.str s.n).length = sn.length := List.length_map _
  let GT : Tm → List En → List En := fun t l => [.val (.scr ns), .val (.d (.int 2)), .val (.d (sgD ss)), .val (.d (namesD names)), .val (.d (.int (fm : Nat))), .val (.d (.int (many : Nat))), .val (.d (namesD ss.two)), .val (.d (intsD row)), .val (.d (intsD sw)), .val (.d t.d), .val (.d (.list (pr.map fun s => PyData.str s.n))), .val (.d (.list (sn.map fun s => PyData.str s.n)))] ++ l
  refine bd_ifR (td_cmp (ed_v 4) ed_int cmp_eqI) (fun _ => ?_) fun _ => ?_
  · have hn3 : (1 + (many : Int) % 3).toNat ≤ 3 := by omega
    refine bd_for (fun i G => G.set 12 (.val (.d (.int (i : Nat))))) (fun i G' => ∃ (t : Tm) (a b : En), TmB ss (2 + i) (ZT (i + 1)) t ∧ G' = GT t [a, b, .no, .no, .no]) (it_r (ed_bin ed_int (ed_bin (ed_tint B (ed_v 5) int_i) ed_int (bin_mod (by decide))) bin_add) B.rng (by omega) (by omega)) (pgN 12 hN) (fun i hi => tg_n 12) ⟨t0, .no, .no, hT0, rfl⟩ ?_ ?_
    · rintro i G' hi ⟨t, a, b, hT, rfl⟩
      refine bd_setX 13 (P := fun d => ∃ u, SameB ss t u ∧ d = u.d) (ex_ix (P2 := Po_law_turned ss t []) (ex_call (Fu (2 + i) t hT.1 hT.2.1) (hr.mono (by omega)) (ax_ad (S := fun ms => ms = _) (ad_cons (ed_v 6) (ad_cons (ed_v 9) (ad_cons (ed_v 8) (ad_cons (ed_bin ed_int (ed_v 12) (bin_mul (.inl ⟨by decide, by decide⟩))) ad_nil)))) rfl) (fun ms e => ⟨sw, _, by omega, by omega, e⟩) fun ms d _ h => h) ed_int ?_) ?_ hN
      · rintro d ⟨u, j, hu, _, rfl⟩
        exact ⟨_, u.d, rfl, atI_nat (i := 0) rfl, u, hu, rfl⟩
      rintro d ⟨u, hu, rfl⟩
      obtain ⟨a3, a30, e3⟩ := swat (i := 30 + (i : Nat)) (by omega) (by omega)
      have hpos : (0 : Int) < ((ss.two.map PyData.str).length : Nat) := by rw [l2]; omega
      obtain ⟨x, hx, ex⟩ := atI_map (f := PyData.str) (xs := ss.two) (Int.emod_nonneg a3 (by omega)) (Int.emod_lt_of_pos a3 hpos)
      obtain ⟨y, hy, ey, ht⟩ := two_mem hx
      refine bd_set 9 (ed_t3 (ad_cons (ed_ix (ed_v 6) (ed_bin (ed_tint B (ed_ix (ed_v 8) (ed_bin ed_int (ed_v 12) bin_add) (ix_l e3)) int_i) (ed_len B (ed_v 6) len_l) (bin_mod hpos)) (ix_l ex)) (ad_cons (ed_v 9) (ad_cons (ed_v 13) ad_nil)))) (bd_nil ⟨.b x t u, .val (.d (.int (i : Nat))), .val (.d u.d), ⟨⟨⟨y, hy, ey, g.tw y hy ht⟩, hT.1, hu.1⟩, ?_, ?_⟩, rfl⟩) hN
      · show max t.dep u.dep + 1 ≤ _
        have := hT.2.1
        rw [hu.2.1]
        omega
      · show t.sz + u.sz + 1 ≤ 1 + 2 * ZT (i + 1)
        have := hT.2.2
        rw [hu.2.2]
        omega
    · rintro G' ⟨t, a, b, hT, rfl⟩
      refine bd_ret (ed_v 9) ⟨t, hT.up (by omega) ?_, rfl⟩
      generalize (1 + (many : Int) % 3).toNat = q at hn3
      have : q = 0 ∨ q = 1 ∨ q = 2 ∨ q = 3 := by omega
      rcases this with e | e | e | e <;> subst e <;> decide
  refine bd_ifR (wd_and (td_cmp (ed_v 4) ed_int cmp_eqI) fun _ => wd_and1 (td_cmp (ed_len B (ed_v 11) len_l) ed_int cmp_gt)).pt (fun hb => ?_) fun _ => ?_
  · rw [Bool.and_eq_true] at hb
    have hpos : (0 : Int) < ((sn.map fun s => PyData.str s.n).length : Nat) := of_decide_eq_true hb.2
    refine bd_for (fun i G => G.set 12 (.val (.d (.int (i : Nat))))) (fun i G' => ∃ (t : Tm) (a : En), TmB ss (2 + i) (3 + i) t ∧ G' = GT t [a, .no, .no, .no, .no]) (it_r (ed_tint B (ed_v 5) int_i) B.rng (by omega) (by omega)) (pgN 12 hN) (fun i hi => tg_n 12) ⟨t0, .no, hT0, rfl⟩ ?_ ?_
    · rintro i G' hi ⟨t, a, hT, rfl⟩
      obtain ⟨a3, a30, e3⟩ := swat (i := (i : Nat)) (by omega) (by omega)
      obtain ⟨y, hy, ey⟩ := atI_map (f := fun s : Sy => PyData.str s.n) (xs := sn) (Int.emod_nonneg a3 (by omega)) (Int.emod_lt_of_pos a3 hpos)
      obtain ⟨hy1, hy2⟩ := snP y hy
      refine bd_set 9 (ed_t2 (ad_cons (ed_ix (ed_v 11) (ed_bin (ed_tint B (ed_ix (ed_v 8) (ed_v 12) (ix_l e3)) int_i) (ed_len B (ed_v 11) len_l) (bin_mod hpos)) (ix_l ey)) (ad_cons (ed_v 9) ad_nil))) (bd_nil ⟨.u y.n t, .val (.d (.int (i : Nat))), ⟨⟨⟨y, hy1, rfl, hy2⟩, hT.1⟩, ?_, ?_⟩, rfl⟩) hN
      · show t.dep + 1 ≤ _
        have := hT.2.1
        omega
      · show t.sz + 1 ≤ _
        have := hT.2.2
        omega
    · rintro G' ⟨t, a, hT, rfl⟩
      exact bd_ret (ed_v 9) ⟨t, hT.up (by omega) (by omega), rfl⟩
  refine bd_setX 9 (P := fun d => ∃ t, TmB ss 1 1 t ∧ d = t.d) (ex_ix (P2 := Po_law_term ss 0 []) (ex_call (Ft 0) hr1 (ax_ad (S := fun ms => ms = _) (ad_cons (ed_v 2) (ad_cons (ed_v 3) (ad_cons (ed_v 7) (ad_cons ed_int (ad_cons ed_int ad_nil))))) rfl) (fun ms e => by rw [e]; exact termP 0 (Int.le_refl _)) fun ms d _ h => h) ed_int ?_) ?_ hN
  · rintro d ⟨u, j, hT, _, rfl⟩
    exact ⟨_, u.d, rfl, atI_nat (i := 0) rfl, u, hT, rfl⟩
  rintro d4 ⟨t1, hT1, rfl⟩
  refine bd_ifR (td_cmp (ed_v 4) ed_int cmp_eqI) (fun _ => bd_ret (ed_v 9) ⟨t1, hT1.up (by decide) (by decide), rfl⟩) fun _ => ?_
  have hpos : (0 : Int) < ((pr.map fun s => PyData.str s.n).length : Nat) := by omega
  refine bd_for (fun i G => G.set 12 (.val (.d (.int (i : Nat))))) (fun i G' => ∃ (t : Tm) (a b c : En), TmB ss (1 + i) (1 + 2 * i) t ∧ G' = GT t [a, .no, b, c, .no]) (it_r (ed_bin ed_int (ed_bin (ed_tint B (ed_v 5) int_i) ed_int (bin_mod (by decide))) bin_add) B.rng (by omega) (by omega)) (pgN 12 hN) (fun i hi => tg_n 12) ⟨t1, .no, .no, .no, hT1, rfl⟩ ?_ ?_
  · rintro i G' hi ⟨t, a, b, c, hT, rfl⟩
    refine bd_setX 14 (P := fun d => ∃ t, TmB ss 1 1 t ∧ d = t.d) (ex_ix (P2 := Po_law_term ss 0 []) (ex_call (Ft 0) hr1 (ax_ad (S := fun ms => ms = _) (ad_cons (ed_v 2) (ad_cons (ed_v 3) (ad_cons (ed_v 7) (ad_cons (ed_bin ed_int (ed_v 12) bin_add) (ad_cons ed_int ad_nil))))) rfl) (fun ms e => by rw [e]; exact termP 0 (by omega)) fun ms d _ h => h) ed_int ?_) ?_ hN
    · rintro d ⟨u, j, hT, _, rfl⟩
      exact ⟨_, u.d, rfl, atI_nat (i := 0) rfl, u, hT, rfl⟩
    rintro d ⟨u, hU, rfl⟩
    obtain ⟨a3, a30, e3⟩ := swat (i := (i : Nat)) (by omega) (by omega)
    obtain ⟨y, hy, ey⟩ := atI_map (f := fun s : Sy => PyData.str s.n) (xs := pr) (Int.emod_nonneg (a3 / 2) (by omega)) (Int.emod_lt_of_pos (a3 / 2) hpos)
    obtain ⟨hy1, hy2⟩ := prP y hy
    refine bd_set 15 (ed_l2 (ad_cons (ed_v 9) (ad_cons (ed_v 14) ad_nil))) ?_ hN
    refine bd_if (fun G' => ∃ p q : Tm, TmB ss (1 + i) (1 + 2 * i + 1 - q.sz) p ∧ TmB ss (1 + i) (1 + 2 * i + 1) q ∧ p.sz + q.sz ≤ 2 + 2 * i ∧ G' = GT t [.val (.d (.int (i : Nat))), .no, .val (.d u.d), .val (.d (.list [p.d, q.d])), .no])
      (td_cmp (ed_bin (ed_tint B (ed_ix (ed_v 8) (ed_v 12) (ix_l e3)) int_i) ed_int (bin_mod (by decide))) ed_int cmp_eqI) (fun _ => bd_set 15 (ed_l2 (ad_cons (ed_v 14) (ad_cons (ed_v 9) ad_nil))) (bd_nil ⟨u, t, ⟨hU.1, by have := hU.2.1; omega, by have := hU.2.2; have := hT.2.2; omega⟩, hT.up (Nat.le_refl _) (by omega), by have := hU.2.2; have := hT.2.2; omega, rfl⟩) hN)
      (fun _ => bd_nil ⟨t, u, ⟨hT.1, hT.2.1, by have := hU.2.2; have := hT.2.2; omega⟩, hU.up (by omega) (by omega), by have := hU.2.2; have := hT.2.2; omega, rfl⟩) ?_
    rintro G' ⟨p, q, hP, hQ, hpq, rfl⟩
    refine bd_set 9 (ed_t3 (ad_cons (ed_ix (ed_v 10) (ed_bin (ed_bin (ed_tint B (ed_ix (ed_v 8) (ed_v 12) (ix_l e3)) int_i) ed_int (bin_div (by decide) (by decide))) (ed_len B (ed_v 10) len_l) (bin_mod hpos)) (ix_l ey)) (ad_cons (ed_ix (ed_v 15) ed_int (ix_l (atI_nat (i := 0) rfl))) (ad_cons (ed_ix (ed_v 15) ed_int (ix_l (atI_nat (i := 1) rfl))) ad_nil)))) (bd_nil ⟨.b y.n p q, .val (.d (.int (i : Nat))), .val (.d u.d), .val (.d (.list [p.d, q.d])), ⟨⟨⟨y, hy1, rfl, hy2⟩, hP.1, hQ.1⟩, ?_, ?_⟩, rfl⟩) hN
    · show max p.dep q.dep + 1 ≤ _
      have := hP.2.1
      have := hQ.2.1
      omega
    · show p.sz + q.sz + 1 ≤ _
      omega
  · rintro G' ⟨t, a, b, c, hT, rfl⟩
    exact bd_ret (ed_v 9) ⟨t, hT.up (by omega) (by omega), rfl⟩
end
end Tw

set_option maxHeartbeats 4000000
namespace Tw
open PySem PySem.Spec L2
open PyProof.Rows hiding St
/-! ### == of two lists of the same texts -/
theorem daa_strs {H : Hp} : ∀ {vs : List V} {xs : List Str}, DaAll H vs (xs.map .str) → vs = xs.map V.str
  | _, [], h => by
    cases h
    rfl
  | _, x :: r, h => by
    cases h with
    | cons h1 h2 =>
      cases h1
      rw [daa_strs h2]
      rfl
theorem paired_strs {K : PySem.W.Frag} {H : Hp} : ∀ xs : List Str, Paired (EqV K H 1) (xs.map V.str) (xs.map V.str)
  | [] => .nil
  | x :: r => .cons (.inl ⟨rfl, rfl⟩) (paired_strs r)
section
variable {X : Cx} {G : List En}
theorem cmp_eqStrs {xs : List Str} (hu : X.A.units + 64 < cLine) : CmpD X .Eq (.d (.list (xs.map .str))) (.d (.list (xs.map .str))) true := by
  refine ⟨_, op_eqV hu, fun W H v w Q hW r1 r2 k => ?_⟩
  have r1' : Da (Hm H W) v (.list (xs.map .str)) := r1
  have r2' : Da (Hm H W) w (.list (xs.map .str)) := r2
  cases r1' with
  | lst h1 h2 =>
    cases r2' with
    | lst h3 h4 =>
      have e1 := daa_strs h2
      have e2 := daa_strs h4
      subst e1 e2
      exact ⟨1, by decide, .inl ⟨_, _, _, _, rfl, rfl, SqL.of (hm_get h1).2, SqL.of (hm_get h3).2, paired_strs xs⟩, k _ H (Same.refl H) (.bl true)⟩
/-! ### a call by keywords alone -/
theorem pkd_nil : PK X [] (tAs X.K G []) := ⟨fun pos pins s σ H Q I ⟨O, Oc, E, k⟩ => pk_nil.run pos pins s σ H Q I (k [] H (Same.refl H) trivial)⟩
theorem pkd_cons {e : Expr} {m : Dm} {kws : List Keyword} {ms : List Dm} {nm : Option Str} {kpos : Pos} (ha : ED X G e m) (hr : PK X kws (tAs X.K G ms)) : PK X (⟨nm, e, kpos⟩ :: kws) (tAs X.K G (m :: ms)) :=
  ⟨fun pos pins s σ H Q I ⟨O, Oc, E, k⟩ => (pk_cons ha hr).run pos pins s σ H Q I ⟨O, Oc, E, fun v H1 s1 r1 => ⟨O, Oc, E.mono s1, fun vs H2 s2 r2 => k (v :: vs) H2 (s1.trans s2) ⟨rm_mono s2 r1, r2⟩⟩⟩⟩
structure FDK (P : Program) (w : World) (K : PySem.W.Frag) (mg : Str → Option Value) (base : Heap) (k : Nat) (x : Str) (ps ks : List Str) (R : List Dm → PyData → Prop) : Prop where
  ex : ∃ f fd, FnOk P w K mg base CX0 k f fd ps (spD K R) ∧ mg x = some (.ref f) ∧ PySem.W.keepIn K (.ref f) = true ∧ KBn K fd ps 0 ks (fun _ ws => ws) (fun _ zs => zs)
theorem ed_callK {x : Str} {k : Nat} {ps ks : List Str} {R : List Dm → PyData → Prop} {d : PyData} {p pos : Pos} {kws : List Keyword} {ms : List Dm} (F : FDK X.prog X.w X.K X.mg X.base k x ps ks R) (hr : Room k X.A) (hkw : PK X kws (tAs X.K G ms)) (hR : R ms d) (hlen : ms.length = ks.length := by rfl) (hg : Gl X x := by rfl)
    (hall : (backToKw pos (keywordEach kws X.env)).all (·.1.isSome) = true := by rfl) (hks : (backToKw pos (keywordEach kws X.env)).filterMap (·.1) = ks := by rfl) (hdb : (x == ("__debug__" : Str)) = false := by decide)
    (hpl : ((backTo pos (starEach [] X.env)).any (·.1) || (backToKw pos (keywordEach kws X.env)).any (·.1.isNone)) = false := by rfl) : ED X G (.Call (.Name x p) [] kws pos) (.d d) := by
  obtain ⟨f, fd, F1, hm, hk, hb⟩ := F.ex
  refine ⟨fun pins s σ H Q I ⟨O, Oc, E, q⟩ => ?_⟩
  refine wpAny_Call_Name_kw (ld_glob I hg hm ?_ hdb)
  refine PySem.W.callWith_KW0 (h₀ := X.base) I.ok.mod.kin hk hall ?_ hpl
  refine thn (hkw.run pos pins s σ H (fun vs H1 => vs.length = ks.length ∧ spD X.K R vs H1 Q L2.E0) I ⟨O, Oc, E, fun vs H1 s1 r1 => ⟨(rma_len r1).trans hlen, O ++ Oc, ms, d, (E.mono s1).inW, r1, hR, fun v H2 s2 r2 => q v H2 (s1.trans s2) r2⟩⟩) fun us s1 ⟨vs, H1, I1, r, l, z⟩ => ⟨I1.kIn, ?_⟩
  rw [hks]
  exact run_fnN (us := []) (vs := []) F1 hr hb pass0 I1 .nil r rfl l z
end
theorem kb_derive {K : PySem.W.Frag} {f : Addr} {fd : FuncData} (F : FnP K "derive_alike" "derive_alike" s_derive_alike f fd) : KBn K fd P_derive_alike 0 ["signature", "one", "two"] (fun _ ws => ws) (fun _ zs => zs) := by
  obtain ⟨oc, od, dV, kV, doc, pm, an, cdv, ct, osl, rfl, lk, hcd, hD, hK⟩ := F.ex
  rcases hD with ⟨_, rfl⟩ | ⟨e, _⟩
  · exact ⟨fun s us ws _ l1 l2 => match us, ws, l1, l2 with
      | [], [_, _, _], _, _ => BindsTo.of_eq rfl, fun _ r => r⟩
  · exact absurd rfl e
section
variable {P : Program} {w : World} {K : PySem.W.Frag} {mg : Str → Option Value} {base : Heap} (B : Bi mg) (DFs : DF K)
include B DFs
theorem fdk_derive_alike {M k : Nat} (D : DefAt K mg "derive_alike" "derive_alike" s_derive_alike) (Nd : NewD P w K mg base) (F1 : FD P w K mg base k "are_alike" P_are_alike (R_are_alike M)) (F2 : MM P w K mg base k "likeness" P_D_likeness (R_likeness M M)) (hk : 2 ≤ k) : FDK P w K mg base (k + 1) "derive_alike" P_derive_alike ["signature", "one", "two"] (R_derive_alike M) := by
  obtain ⟨f, fd, F, hmg⟩ := D.ex
  refine ⟨f, fd, fn_mk F sc_derive_alike (fun ms d ⟨_, _, _, _, _, _, _, _, _, _, h, _⟩ => by rw [h]; rfl) fun cdv A outer sh H E ms d hr ⟨ss, s, t, g, hM, os, ot, ds, dt, hz, h1, h2⟩ => ?_, hmg, F.kp, kb_derive F⟩
  subst h1 h2
  have hN := sc_derive_alike.nd
  refine bd_ifR (td_not (td_val (ed_call F1 hr (ad_cons (ed_v 0) (ad_cons (ed_v 1) (ad_cons (ed_v 2) ad_nil))) ⟨ss, s, t, g, os, ot, ds, dt, hM, rfl, rfl⟩))) (fun hb => bd_ret ed_non ?_) fun hb => ?_
  · have : ¬ lw ss s = lw ss t := by simpa using hb
    show PyData.none = told ss s t
    unfold told
    rw [if_neg this]
  · have hl : lw ss s = lw ss t := by simpa using hb
    obtain ⟨ds', d1, _⟩ := lik_ok g s t os ot ds dt hl [] [] .nil
    refine bd_newDer 3 Nd (hr.mono hk) rfl (ed_v 0) (ed_tup (ds := []) ad_nil) (fun l p => ?_) hN
    have nb : noBorG ((envN N_derive_alike [.sig ss, .d s.d, .d t.d]).set 3 (.val (.der l p ss))) := nb_of rfl
    refine bm_drop nb (em_meth F2 DFs nb hr (ed_v 3) (am_cons nb (em_ed (ed_v 1)) (am_cons nb (em_ed (ed_v 2)) am_nil)) rfl ⟨[], [], s, t, ds', g, hM, Nat.le_refl _, os, ot, ds, dt, hl, .nil, by simp; omega, rfl, rfl, rfl, d1, rfl⟩) ?_
    refine bm_ret (em_ep (ep_callTy (ap_cons (ep_lin DFs (ed_v 3)) ap_nil) tup_b B.tup PyProof.Rows.boot_tuple)) ?_
    show PyData.tuple _ = told ss s t
    unfold told
    rw [if_pos hl]
    rfl
end
end Tw

set_option maxHeartbeats 4000000
namespace Tw
open PySem PySem.Spec L2
open PyProof.Rows hiding St
theorem tu_d : ∀ t : Tm, tuB t.d = true
  | .v x => rfl
  | .c f => rfl
  | .u f t => by
    have h := tu_d t
    simp [Tm.d, tuB, tuAll, h]
  | .b f s t => by
    have h := tu_d t
    have h2 := tu_d s
    simp [Tm.d, tuB, tuAll, h, h2]
theorem tu_pr (c : Pr) : tuB (Pr.d c) = true := by
  have h := tu_d c.1
  have h2 := tu_d c.2
  simp [Pr.d, tuB, tuAll, h, h2]
theorem tu_prs : ∀ cs : List Pr, tuAll (cs.map Pr.d) = true
  | [] => rfl
  | c :: r => by
    show (tuB (Pr.d c) && tuAll (r.map Pr.d)) = true
    rw [tu_pr, tu_prs r]
    rfl
theorem dep_pr (c : Pr) : (Pr.d c).depth = 1 + max c.1.dep c.2.dep := by
  simp only [Pr.d, PyData.depth, PyData.depthAll, depth_d]
  omega
theorem dep_prs {M : Nat} : ∀ cs : List Pr, (∀ c ∈ cs, c.1.dep ≤ M ∧ c.2.dep ≤ M) → PyData.depthAll (cs.map Pr.d) ≤ M + 1
  | [], _ => Nat.zero_le _
  | c :: r, h => by
    have h1 := dep_prs r fun x hx => h x (List.mem_cons_of_mem _ hx)
    have h2 := h c List.mem_cons_self
    have h3 := dep_pr c
    show max (Pr.d c).depth _ ≤ _
    omega
def R_law_answers (M : Nat) : List Dm → PyData → Prop := fun ms d => ∃ (ss : Sg) (s t : Tm), ss.Good ∧ Ok ss s ∧ Ok ss t ∧ s.dep ≤ M ∧ t.dep ≤ M ∧ s.sz ≤ 64 ∧ t.sz ≤ 64 ∧ ms = [.d (sgD ss), .sig ss, .d (told ss s t), .d (.tuple [s.d, t.d])] ∧ d = .bool true
section
variable {P : Program} {w : World} {K : PySem.W.Frag} {mg : Str → Option Value} {base : Heap} (B : Bi mg)
include B
theorem fdg_law_answers {M k : Nat} (hM : M ≤ 60) (D : DefAt K mg "_law_answers" "_law_answers" s_law_answers) (F1 : FD P w K mg base 1 "_law_two" P_law_two R_law_two) (F2 : FDG P w K mg base (M + 1) "_law_form" P_law_form (R_law_form M)) (F3 : FD P w K mg base k "_law_walked" P_law_walked (R_law_walked M))
    (F4 : FD P w K mg base (M + 3) "_law_equal" P_law_equal (R_law_equal (M + 2))) (F5 : FD P w K mg base k "conclusions" P_conclusions (R_conclusions M)) (hk : M + 3 ≤ k) : FDG P w K mg base (k + 1) "_law_answers" P_law_answers (R_law_answers M) := by
  refine fdg_mk D (fun F => bn_law_answers F) sc_law_answers (fun ms d ⟨_, _, _, _, _, _, _, _, _, _, h, _⟩ => by rw [h]; rfl) fun f cdv A outer sh H E ms d hg hr ⟨ss, s, t, g, os, ot, ds, dt, zs, zt, h1, h2⟩ => ?_
  subst h1 h2
  have hN := sc_law_answers.nd
  have hgX : (A.deeper (envOfC "_law_answers" (defScope s_law_answers) sh.heap.objs.size f cdv)).guards = some [] := hg
  have hrM : Room (M + 1) (A.deeper (envOfC "_law_answers" (defScope s_law_answers) sh.heap.objs.size f cdv)) := hr.mono (by omega)
  have hrE : Room (M + 3) (A.deeper (envOfC "_law_answers" (defScope s_law_answers) sh.heap.objs.size f cdv)) := hr.mono hk
  refine bd_set 4 (ed_call F1 (hr.mono (by omega)) (ad_cons (ed_v 0) ad_nil) ⟨ss, g, rfl, rfl⟩) ?_ hN
  refine bd_ifR (td_is (td_cmp (ed_callG F2 hgX hrM (ad_cons (ed_v 4) (ad_cons (ed_ix (ed_v 3) ed_int (ix_t (xs := [s.d, t.d]) (atI_nat (i := 0) rfl))) ad_nil)) ⟨ss, s, g, os, ds, by omega, by omega, rfl, rfl⟩) (ed_callG F2 hgX hrM (ad_cons (ed_v 4) (ad_cons (ed_ix (ed_v 3) ed_int (ix_t (xs := [s.d, t.d]) (atI_nat (i := 1) rfl))) ad_nil)) ⟨ss, t, g, ot, dt, by omega, by omega, rfl, rfl⟩)
    (cmp_neD (room64 hr) (shaped_d g (ok_nf s os) (by rw [dep_nf]; omega)) (shaped_d g (ok_nf t ot) (by rw [dep_nf]; omega)))) (congrArg not (eqv_d _ _))) (fun hb => ?_) fun hb => ?_
  · have ne : ¬ nf ss ltR s = nf ss ltR t := by simpa using hb
    have nl : ¬ lw ss s = lw ss t := fun h => ne ((nf_iff (lin_R g) (lin_lt g) os).mpr (by rw [← lw_nf, ← lw_nf]; exact h))
    have e : told ss s t = .none := by unfold told; rw [if_neg nl]
    rw [e]
    exact bd_ret (ed_cmp (ed_v 2) ed_non (cmp_isN (z := .none))) rfl
  · have eq : nf ss ltR s = nf ss ltR t := by simpa using hb
    have el : lw ss s = lw ss t := by
      have := (nf_iff (lin_R g) (lin_lt g) os).mp eq
      rw [← lw_nf, ← lw_nf] at this
      exact this
    obtain ⟨cs, d1, d2, d3⟩ := lik_ok g s t os ot ds dt el [] [] .nil
    have hle := lik_le ss s t 0
    have hpos := lik_pos ss 0 s t
    have hlen := d1.len
    simp only [List.nil_append, List.length_nil] at d1 d2 hlen
    have e : told ss s t = .tuple ((lik ss 0 s t).map Ln.d) := by unfold told; rw [if_pos el]
    rw [e]
    refine bd_set 5 (ed_call F3 (hr.mono (by omega)) (ad_cons (ed_v 0) (ad_cons (ed_lst (ds := []) ad_nil) (ad_cons (ed_v 2) ad_nil))) ⟨ss, lik ss 0 s t, cs, g, by omega, d1, by omega, rfl, rfl⟩) ?_ hN
    have lc : (cs.map Pr.d).length = cs.length := List.length_map _
    have hlast : atI (cs.map Pr.d) (-1) = some (Pr.d (s, t)) := by
      unfold atI ixN
      rw [if_neg (by decide), if_pos (by omega)]
      show (cs.map Pr.d)[(-1 + ((cs.map Pr.d).length : Int)).toNat]? = _
      rw [show (-1 + ((cs.map Pr.d).length : Int)).toNat = 0 + (lik ss 0 s t).length - 1 by omega, List.getElem?_map, d2]
      rfl
    have te : tuB (.tuple [s.d, t.d]) = true := tu_pr (s, t)
    have de : (PyData.tuple [s.d, t.d]).depth ≤ M + 2 := by
      have := dep_pr (s, t)
      show (Pr.d (s, t)).depth ≤ _
      simp only at this
      omega
    refine bd_ifF (td_is (wd_or (td_cmp (ed_v 5) ed_non cmp_isN) fun _ => wd_or (td_cmp (ed_len B (ed_v 5) len_l) ed_int cmp_eqI) fun _ => wd_or1 (td_notT (td_val (ed_call F4 hrE (ad_cons (ed_ix (ed_v 5) (ed_neg ed_int) (ix_l hlast)) (ad_cons (ed_v 3) ad_nil)) ⟨.tuple [s.d, t.d], te, de, rfl, rfl⟩)))).pt ?_) ?_
    · rw [decide_eq_false (by omega)] <;> rfl
    have tt : tuB (.tuple (cs.map Pr.d)) = true := by
      simp only [tuB, Bool.and_eq_true, decide_eq_true_eq]
      exact ⟨by omega, tu_prs cs⟩
    have dd : (PyData.tuple (cs.map Pr.d)).depth ≤ M + 2 := by
      have := dep_prs cs d3
      simp only [PyData.depth]
      omega
    exact bd_ret (ed_call F4 hrE (ad_cons (ed_call F5 (hr.mono (by omega)) (ad_cons (ed_v 1) (ad_cons (ed_lst (ds := []) ad_nil) (ad_cons (ed_v 2) ad_nil))) ⟨ss, lik ss 0 s t, cs, g, by omega, d1, by omega, rfl, rfl⟩) (ad_cons (ed_ttup B (ed_v 5) tup_l) ad_nil)) ⟨.tuple (cs.map Pr.d), tt, dd, rfl, rfl⟩) rfl
end
end Tw

set_option maxHeartbeats 4000000
namespace Tw
open PySem PySem.Spec L2
open PyProof.Rows hiding St
def arF (k : Nat) : Nat := if k % 3 = 0 then 2 else if k % 3 = 1 then 0 else 1
def extF (k : Nat) : Sy := ⟨("m" : Str) ++ (toString ((k : Nat) : Int) : String), arF k, decide (k % 3 = 0)⟩
theorem extF_ok : ∀ n, n ≤ 12 → ((List.range n).map fun k => (extF k).n).Nodup ∧ ∀ k, k < n → (extF k).n ∈ sNames ∧ (extF k).n ∉ menuN := by
  have q : ∀ n ∈ List.range 13, decide (((List.range n).map fun k => (extF k).n).Nodup ∧ ∀ k ∈ List.range n, (extF k).n ∈ sNames ∧ (extF k).n ∉ menuN) = true := by decide +kernel
  intro n hn
  obtain ⟨h1, h2⟩ := of_decide_eq_true (q n (List.mem_range.mpr (by omega)))
  exact ⟨h1, fun k hk => h2 k (List.mem_range.mpr hk)⟩
theorem extF_g (k : Nat) : (extF k).ar ≤ 2 ∧ ((extF k).tw = true → (extF k).ar = 2) := by
  unfold extF arF
  refine ⟨?_, fun h => ?_⟩
  · show (if k % 3 = 0 then 2 else if k % 3 = 1 then 0 else 1) ≤ 2
    split
    · decide
    · split <;> decide
  · have h' : k % 3 = 0 := of_decide_eq_true h
    show (if k % 3 = 0 then 2 else if k % 3 = 1 then 0 else 1) = 2
    rw [if_pos h']
theorem nd_app {α : Type} {l r : List α} (h1 : l.Nodup) (h2 : r.Nodup) (h3 : ∀ a ∈ l, a ∉ r) : (l ++ r).Nodup := List.nodup_append.mpr ⟨h1, h2, fun a ha b hb e => h3 a ha (e ▸ hb)⟩
theorem ext_ok {ss : Sg} (hS : SgQ ss) (hl : ss.length ≤ 7) (hm : ∀ s ∈ ss, s.n ∈ menuN) : SgQ (ss ++ (List.range (12 - ss.length)).map extF) := by
  obtain ⟨n1, n2⟩ := extF_ok (12 - ss.length) (by omega)
  have g := hS.g
  obtain ⟨c, hc, ec⟩ := hS.c
  obtain ⟨t, ht, et⟩ := hS.t
  refine ⟨⟨?_, fun s hs => ?_, fun s hs => ?_, fun s hs h => ?_, ?_⟩, ⟨c, List.mem_append_left _ hc, ec⟩, ⟨t, List.mem_append_left _ ht, et⟩⟩
  · rw [List.map_append, List.map_map]
    refine nd_app g.nd n1 fun a ha hb => ?_
    obtain ⟨s, hs, rfl⟩ := List.mem_map.mp ha
    obtain ⟨k, hk, e⟩ := List.mem_map.mp hb
    have := (n2 k (List.mem_range.mp hk)).2
    rw [show (extF k).n = s.n from e] at this
    exact this (hm s hs)
  · rcases List.mem_append.mp hs with h | h
    · exact g.nm s h
    · obtain ⟨k, hk, rfl⟩ := List.mem_map.mp h
      exact (n2 k (List.mem_range.mp hk)).1
  · rcases List.mem_append.mp hs with h | h
    · exact g.ar s h
    · obtain ⟨k, hk, rfl⟩ := List.mem_map.mp h
      exact (extF_g k).1
  · rcases List.mem_append.mp hs with h' | h'
    · exact g.tw s h' h
    · obtain ⟨k, hk, rfl⟩ := List.mem_map.mp h'
      exact (extF_g k).2 h
  · rw [List.length_append, List.length_map, List.length_range]
    omega
def offS (s : Sy) : Sy := ⟨s.n, s.ar, false⟩
theorem ok_map {ss rr : Sg} (h : ∀ s ∈ ss, ∃ r ∈ rr, r.n = s.n ∧ r.ar = s.ar) : ∀ t : Tm, Ok ss t → Ok rr t := by
  have key : ∀ {f : Str} {k : Nat}, (∃ s ∈ ss, s.n = f ∧ s.ar = k) → ∃ s ∈ rr, s.n = f ∧ s.ar = k := fun ⟨s, hs, e1, e2⟩ => by
    obtain ⟨r, hr, e3, e4⟩ := h s hs
    exact ⟨r, hr, e3.trans e1, e4.trans e2⟩
  intro t
  induction t with
  | v x => exact id
  | c f => exact key
  | u f t ih => exact fun o => ⟨key o.1, ih o.2⟩
  | b f s t ih1 ih2 => exact fun o => ⟨key o.1, ih1 o.2.1, ih2 o.2.2⟩
theorem off_ok {ss : Sg} (hS : SgQ ss) : Sg.Good (ss.map offS) ∧ ∃ s ∈ ss.map offS, s.ar = 0 := by
  have g := hS.g
  obtain ⟨c, hc, ec⟩ := hS.c
  refine ⟨⟨?_, fun s hs => ?_, fun s hs => ?_, fun s hs h => ?_, by rw [List.length_map]; exact g.len⟩, offS c, List.mem_map.mpr ⟨c, hc, rfl⟩, ec⟩
  · rw [List.map_map]
    exact g.nd
  · obtain ⟨r, hr, rfl⟩ := List.mem_map.mp hs
    exact g.nm r hr
  · obtain ⟨r, hr, rfl⟩ := List.mem_map.mp hs
    exact g.ar r hr
  · obtain ⟨r, hr, rfl⟩ := List.mem_map.mp hs
    cases h
def R_law : List Dm → PyData → Prop := fun ms d => ∃ ns : List Int, ms = [.scr ns] ∧ d = .bool true
/-- what law needs of the others -/
structure LawFs (P : Program) (w : World) (K : PySem.W.Frag) (mg : Str → Option Value) (base : Heap) : Prop where
  cell : FX P w K mg base 1 "_law_cell" P_law_cell Pre_law_cell Po_law_cell
  digits : FX P w K mg base 1 "_law_digits" P_law_digits Pre_law_digits Po_law_digits
  symbols : FX P w K mg base 1 "_law_symbols" P_law_symbols Pre_law_symbols Po_law_symbols
  menu : FX P w K mg base 1 "_law_menu" P_law_menu Pre_law_menu Po_law_menu
  grown : ∀ ss, SgQ ss → FX P w K mg base 12 "_law_grown_term" P_law_grown_term (Pre_law_grown ss) (Po_law_grown ss)
  two : FD P w K mg base 1 "_law_two" P_law_two R_law_two
  turned : ∀ (ss : Sg), ss.Good → ∀ n (t : Tm), Ok ss t → t.dep ≤ n → FX P w K mg base (n + 1) "_law_turned" P_law_turned (Pre_law_turned ss t) (Po_law_turned ss t)
  nearly : ∀ (ss : Sg), ss.Good → (∃ s ∈ ss, s.ar = 0) → ∀ t : Tm, Ok ss t → t.dep ≤ 58 → t.sz ≤ 500 → FX P w K mg base 60 "_law_nearly" P_law_nearly (Pre_law_nearly ss t) (Po_law_nearly ss t)
  sig : NewS P w K mg base
  derive : FD P w K mg base 135 "derive_alike" P_derive_alike (R_derive_alike 60)
  deriveK : FDK P w K mg base 135 "derive_alike" P_derive_alike ["signature", "one", "two"] (R_derive_alike 60)
  answers : FDG P w K mg base 80 "_law_answers" P_law_answers (R_law_answers 60)
def formF (b : Int) : Nat := [0, 1, 2, 3, 4, 5, 0, 1, 3, 6].getD b.toNat 0
theorem formF_at {b : Int} (h0 : 0 ≤ b) (h1 : b < 10) : atI [PyData.int 0, .int 1, .int 2, .int 3, .int 4, .int 5, .int 0, .int 1, .int 3, .int 6] b = some (.int (formF b : Nat)) := by
  have : b = 0 ∨ b = 1 ∨ b = 2 ∨ b = 3 ∨ b = 4 ∨ b = 5 ∨ b = 6 ∨ b = 7 ∨ b = 8 ∨ b = 9 := by omega
  rcases this with e | e | e | e | e | e | e | e | e | e <;> subst e <;> rfl
theorem arF_at (k : Nat) : atI [PyData.int 2, .int 0, .int 1] ((k : Int) % 3) = some (.int (arF k : Nat)) := by
  unfold arF
  have h : (k : Int) % 3 = ((k % 3 : Nat) : Int) := by omega
  rw [h]
  have : k % 3 = 0 ∨ k % 3 = 1 ∨ k % 3 = 2 := by omega
  rcases this with e | e | e <;> rw [e] <;> rfl
/-- the text of what was told -/
def txt (ss : Sg) (c : Pr) : Str := (told ss c.1 c.2).shown
section
variable {X : Cx} {G : List En} {e : Expr} {p pos : Pos} {ss : Sg}
theorem ed_reprTold {s t : Tm} (B : Bi X.mg) (hg : X.A.guards = some []) (hu : X.A.units + 200 < cLine) (g : ss.Good) (os : Ok ss s) (ds : s.dep ≤ 60) (zs : s.sz ≤ 64) (ha : ED X G e (.d (told ss s t))) (hgl : Gl X "repr" := by rfl)
    (he : starEach [e] X.env = (false, eval e X.env) :: starEach [] X.env := by rfl) (hpl : (backTo pos (starEach [] X.env)).any (·.1) = false := by rfl) : ED X G (.Call (.Name "repr" p) [e] [] pos) (.d (.str (txt ss (s, t)))) := by
  unfold txt
  by_cases h : lw ss s = lw ss t
  · have e1 : told ss s t = .tuple ((lik ss 0 s t).map Ln.d) := by unfold told; rw [if_pos h]
    show ED X G _ (.d (.str (told ss s t).shown))
    rw [e1] at ha ⊢
    obtain ⟨k1, k2, k3, k4⟩ := told_all g (M := 60) (Nat.le_refl _) (lik ss 0 s t) (lik_good g s t 0 os (by omega) ds (by omega))
    have hle := lik_le ss s t 0
    have hl := tup_le (PyData.shownAll ((lik ss 0 s t).map Ln.d))
    refine ed_callB (ad_cons ha ad_nil he) (rep_d hg hu ⟨k1, k2, ?_, ?_⟩ ⟨_, rfl⟩) B.rep PyProof.Rows.boot_repr hgl (by decide) (by decide) he hpl
    · simp only [PyData.depth]
      omega
    · show (tupleText (PyData.shownAll ((lik ss 0 s t).map Ln.d))).length ≤ 2 ^ 24
      omega
  · have e1 : told ss s t = .none := by unfold told; rw [if_neg h]
    show ED X G _ (.d (.str (told ss s t).shown))
    rw [e1] at ha ⊢
    exact ed_callB (ad_cons ha ad_nil he) rep_n B.rep PyProof.Rows.boot_repr hgl (by decide) (by decide) he hpl
end
theorem fng_mk1 {P : Program} {w : World} {K : PySem.W.Frag} {mg : Str → Option Value} {base : Heap} {k : Nat} {x q : Str} {st : Stmt} {N ps : List Str} {R : List Dm → PyData → Prop} {f : Addr} {fd : FuncData} (F : FnP K x q st f fd) (Sc : FnScope N ps (defScope st)) (hl : ∀ ms d, R ms d → ms.length = ps.length)
    (hbody : ∀ (cdv : Value) (A : Around) (outer : List Env) (s : Shared) (H : Hp) (E : XK) (ms : List Dm) (d : PyData), A.guards = some [] → Room k (A.deeper (envOfC q (defScope st) s.heap.objs.size f cdv)) → R ms d →
      BD (XC P w K mg base N q (defScope st) f cdv A outer s H E) (envN N ms) (defBody st) (.ret d)) : FnG P w K mg base (k + 1) f fd ps (spD K R) :=
  fng_mk F Sc (fun vs H Q E ⟨W, ms, d, hW, r, hR, _⟩ => (rma_len r).trans (hl ms d hR)) fun cdv A outer s H vs Q E hg hr ⟨W, ms, d, hW, r, hR, q⟩ => ⟨_, hbody cdv A outer s H E ms d hg hr hR, body_run hW r q⟩
section
variable {P : Program} {w : World} {K : PySem.W.Frag} {mg : Str → Option Value} {base : Heap} (B : Bi mg)
include B
theorem ok_law (F : LawFs P w K mg base) {f : Addr} {fd : FuncData} (F0 : FnP K "law" "law" s_law f fd) : FnG P w K mg base 140 f fd P_law (spD K R_law) := by
  refine fng_mk1 (k := 139) F0 sc_law (fun ms d ⟨_, h, _⟩ => by rw [h]; rfl) fun cdv A outer sh H E ms d hg hr ⟨ns, h1, h2⟩ => ?_
  subst h1 h2
  have hN := sc_law.nd
  have hgX : (A.deeper (envOfC "law" (defScope s_law) sh.heap.objs.size f cdv)).guards = some [] := hg
  have hr1 : Room 1 (A.deeper (envOfC "law" (defScope s_law) sh.heap.objs.size f cdv)) := hr.mono (by decide)
  refine bd_setX 1 (P := fun d => ∃ ss : Sg, SgQ ss ∧ ss.length ≤ 7 ∧ (∀ s ∈ ss, s.n ∈ menuN) ∧ d = sgD ss) (ex_call F.symbols hr1 (ax_cons (ex_digits (k := 0) (zs := [10, 6, 4, 3, 4, 3, 720]) F.digits F.cell hr1 (ed_v 0) ed_int (ed_lst (ds := [.int 10, .int 6, .int 4, .int 3, .int 4, .int 3, .int 720]) (ad_cons ed_int (ad_cons ed_int (ad_cons ed_int (ad_cons ed_int (ad_cons ed_int (ad_cons ed_int (ad_cons ed_int ad_nil)))))))) (by decide) (by decide) (by decide)) ax_nil) (fun ms => ?_) fun ms d _ h => h) ?_ hN
  · rintro ⟨d, ns', rfl, ⟨ds, hd, rfl⟩, rfl⟩
    exact ⟨ds, hd, rfl⟩
  rintro d1 ⟨ss0, hS0, hl0, hm0, rfl⟩
  refine bd_setX 2 (ex_digits (k := 1) (zs := [8, 10, 56, 8, 8]) F.digits F.cell hr1 (ed_v 0) ed_int (ed_lst (ds := [.int 8, .int 10, .int 56, .int 8, .int 8]) (ad_cons ed_int (ad_cons ed_int (ad_cons ed_int (ad_cons ed_int (ad_cons ed_int ad_nil)))))) (by decide) (by decide) (by decide)) ?_ hN
  rintro d2 ⟨shp, ⟨hsl, hsb⟩, rfl⟩
  have dat : ∀ i : Nat, i < 5 → ∃ a, shp[i]? = some a := fun i hi => ⟨_, List.getElem?_eq_getElem (by rw [hsl]; exact hi)⟩
  obtain ⟨b0, g0⟩ := dat 0 (by decide)
  obtain ⟨b1, g1⟩ := dat 1 (by decide)
  obtain ⟨b2, g2⟩ := dat 2 (by decide)
  obtain ⟨b3, g3⟩ := dat 3 (by decide)
  obtain ⟨b4, g4⟩ := dat 4 (by decide)
  have r0 := hsb 0 8 b0 rfl g0
  have r1 := hsb 1 10 b1 rfl g1
  have r2 := hsb 2 56 b2 rfl g2
  clear hsb dat
  have at_ : ∀ {i : Nat} {a : Int}, shp[i]? = some a → atI (shp.map PyData.int) (i : Nat) = some (.int a) := fun h => atI_nat (by rw [List.getElem?_map, h] <;> rfl)
  obtain ⟨many, rfl⟩ : ∃ m : Nat, b2 = m := ⟨b2.toNat, by omega⟩
  refine bd_if (fun G' => ∃ ss : Sg, SgQ ss ∧ G' = [.val (.scr ns), .val (.d (sgD ss)), .val (.d (intsD shp)), .no, .no, .no, .no, .no, .no, .no, .no, .no, .no, .no, .no, .no, .no]) (td_cmp (ed_ix (ed_v 2) ed_int (ix_l (at_ g4))) ed_int cmp_eqI) (fun _ => ?_) (fun _ => bd_nil ⟨ss0, hS0, rfl⟩) ?_
  · have l0 : (ss0.map Sy.d).length = ss0.length := List.length_map _
    refine bd_set 1 (ed_bin (ed_v 1) (ed_comp 15 (zs := ((List.range (12 - ss0.length)).map extF).map Sy.d) (it_r (ed_bin ed_int (ed_len B (ed_v 1) len_l) bin_sub) B.rng (by omega) (by omega)) (fun k z hk hz s H C cl fp => ?_) (by simp only [List.length_map, List.length_range]; omega) hN (by omega)) (bin_addL (by rw [List.length_map, List.length_map, List.length_map, List.length_range]; omega))) (bd_nil ⟨_, ext_ok hS0 hl0 hm0, ?_⟩) hN
    · have hk' : k < 12 - ss0.length := by omega
      rw [List.getElem?_map, List.getElem?_map, List.getElem?_range hk'] at hz
      cases hz
      have hlog : ((k : Nat) : Int).natAbs.log2 < 1920 := by
        have : ∀ k ∈ List.range 12, decide (((k : Nat) : Int).natAbs.log2 < 1920) = true := by decide +kernel
        exact of_decide_eq_true (this k (List.mem_range.mpr (by omega)))
      have hlen : (("m" : Str).length + ((toString ((k : Nat) : Int) : String) : Str).length) ≤ 100000 := by
        have : ∀ k ∈ List.range 12, decide ((("m" : Str).length + ((toString ((k : Nat) : Int) : String) : Str).length) ≤ 100000) = true := by decide +kernel
        exact of_decide_eq_true (this k (List.mem_range.mpr (by omega)))
      have hb : decide (((k : Nat) : Int) % 3 = 0) = decide (k % 3 = 0) := by
        by_cases h : k % 3 = 0
        · rw [decide_eq_true h, decide_eq_true (by omega)]
        · rw [decide_eq_false h, decide_eq_false (by omega)]
      exact ed_t3 (ad_cons (ed_bin ed_str (ed_tstr B (ed_v 15) (str_i hlog)) (bin_addS hlen)) (ad_cons (ed_ix (ed_lst (ds := [.int 2, .int 0, .int 1]) (ad_cons ed_int (ad_cons ed_int (ad_cons ed_int ad_nil)))) (ed_bin (ed_v 15) ed_int (bin_mod (by decide))) (ix_l (arF_at k))) (ad_cons (ed_is (ed_cmp (ed_bin (ed_v 15) ed_int (bin_mod (by decide))) ed_int cmp_eqI) (congrArg (fun b => Dm.d (.bool b)) hb)) ad_nil)))
    · simp only [sgD, List.map_append]
      rfl
  rintro G' ⟨ss, hS, rfl⟩
  refine bd_setX 3 (ex_call F.menu hr1 (ax_ad (S := fun ms => ms = _) (ad_cons (ed_ix (ed_v 2) ed_int (ix_l (at_ g0))) (ad_cons ed_int ad_nil)) rfl) (fun ms e => ⟨b0, r0.1, by omega, e⟩) (P := Po_law_menu []) fun ms d _ h => h) ?_ hN
  rintro d3 ⟨names, hnl, hnm, rfl⟩
  refine bd_setX 4 (ex_call (F.grown ss hS) (hr.mono (by decide)) (ax_ad (S := fun ms => ms = _) (ad_cons (ed_v 0) (ad_cons ed_int (ad_cons (ed_v 1) (ad_cons (ed_v 3) (ad_cons (ed_ix (ed_lst (ds := [.int 0, .int 1, .int 2, .int 3, .int 4, .int 5, .int 0, .int 1, .int 3, .int 6]) (ad_cons ed_int (ad_cons ed_int (ad_cons ed_int (ad_cons ed_int (ad_cons ed_int (ad_cons ed_int (ad_cons ed_int (ad_cons ed_int (ad_cons ed_int (ad_cons ed_int ad_nil))))))))))) (ed_ix (ed_v 2) ed_int (ix_l (at_ g1))) (ix_l (formF_at r1.1 r1.2))) (ad_cons (ed_ix (ed_v 2) ed_int (ix_l (at_ g2))) ad_nil)))))) rfl) (fun ms e => ⟨ns, names, formF b1, many, hnm, by omega, by omega, e⟩) (P := Po_law_grown ss []) fun ms d _ h => h) ?_ hN
  rintro d4 ⟨mine, hmine, rfl⟩
  refine bd_if (fun G' => ∃ rr : Sg, rr.Good ∧ (∃ s ∈ rr, s.ar = 0) ∧ Ok rr mine ∧ G' = [.val (.scr ns), .val (.d (sgD rr)), .val (.d (intsD shp)), .val (.d (namesD names)), .val (.d mine.d), .no, .no, .no, .no, .no, .no, .no, .no, .no, .no, .no, .no]) (td_cmp (ed_ix (ed_v 2) ed_int (ix_l (at_ g3))) ed_int cmp_eqI) (fun _ => ?_) (fun _ => bd_nil ⟨ss, hS.g, hS.c, hmine.1, rfl⟩) ?_
  · have lz := hS.g.len
    obtain ⟨o1, o2⟩ := off_ok hS
    refine bd_setComp 1 16 (zs := (ss.map offS).map Sy.d) (it_l (ed_v 1)) (fun k z hk hz s H C cl fp => ?_) (by rw [List.length_map, List.length_map, List.length_map]) hN (by rw [List.length_map]; omega) (bd_nil ⟨ss.map offS, o1, o2, ok_map (fun s hs => ⟨offS s, List.mem_map.mpr ⟨s, hs, rfl⟩, rfl, rfl⟩) mine hmine.1, rfl⟩)
    rw [List.length_map] at hk
    obtain ⟨y, hy⟩ : ∃ y, ss[k]? = some y := ⟨_, List.getElem?_eq_getElem hk⟩
    rw [List.map_map, List.getElem?_map, hy] at hz
    cases hz
    rw [nth_map hy]
    exact ed_t3 (ad_cons (ed_ix (ed_v 16) ed_int (ix_t (xs := [.str y.n, .int y.ar, .bool y.tw]) (atI_nat (i := 0) rfl))) (ad_cons (ed_ix (ed_v 16) ed_int (ix_t (xs := [.str y.n, .int y.ar, .bool y.tw]) (atI_nat (i := 1) rfl))) (ad_cons ed_bl ad_nil)))
  rintro G' ⟨rr, g, hc, omine, rfl⟩
  have dmine := hmine.2.1
  have zmine := hmine.2.2
  clear hmine
  refine bd_set 5 (ed_call F.two hr1 (ad_cons (ed_v 1) ad_nil) ⟨rr, g, rfl, rfl⟩) ?_ hN
  have rep2 : Dm.d (.list (List.replicate (57 : Int).toNat [PyData.int 2]).flatten) = .d (intsD (List.replicate 57 2)) := congrArg (fun l => Dm.d (.list l)) (rep_eq 2 57)
  refine bd_setX 6 (P := fun d => ∃ u, SameB rr mine u ∧ d = u.d) (ex_ix (P2 := Po_law_turned rr mine []) (ex_call (F.turned rr g 60 mine omine (by omega)) (hr.mono (by decide)) (ax_consE (ed_v 5) (ax_consE (ed_v 4) (ax_cons (ex_digits (k := 4) (zs := List.replicate 57 2) F.digits F.cell hr1 (ed_v 0) ed_int (ed_is (ed_bin (ed_l1 (ad_cons ed_int ad_nil)) ed_int (bin_rep (by decide) (by decide) (by decide))) rep2) (by decide) (by decide) (fun z hz => by rw [List.eq_of_mem_replicate hz]; exact ⟨by decide, by decide⟩)) (ax_ad (S := fun ms => ms = [.d (.int 0)]) (ad_cons ed_int ad_nil) rfl)))) (fun ms => ?_) fun ms d _ h => h) ed_int ?_) ?_ hN
  · rintro ⟨n1, rfl, n2, rfl, d, n3, rfl, ⟨ds, hd, rfl⟩, rfl⟩
    exact ⟨ds, 0, by have := (digs_rep hd).1; omega, Int.le_refl _, rfl⟩
  · rintro d ⟨u, j, hu, _, rfl⟩
    exact ⟨_, u.d, rfl, atI_nat (i := 0) rfl, u, hu, rfl⟩
  rintro d6 ⟨other, ⟨oo, od, oz⟩, rfl⟩
  refine bd_setX 7 (ex_digits (k := 5) (zs := [5, 240, 240, 1200, 1200, 1200, 1200]) F.digits F.cell hr1 (ed_v 0) ed_int (ed_bin (ed_lst (ds := [.int 5, .int 240, .int 240]) (ad_cons ed_int (ad_cons ed_int (ad_cons ed_int ad_nil)))) (ed_is (n := .d (.list [.int 1200, .int 1200, .int 1200, .int 1200])) (ed_bin (ed_l1 (ad_cons ed_int ad_nil)) ed_int (bin_rep (by decide) (by decide) (by decide))) rfl) (bin_addL (by decide))) (by decide) (by decide) (by decide)) ?_ hN
  rintro d7 ⟨row, ⟨hrl, hrb⟩, rfl⟩
  have hrow : ∀ a ∈ row, 0 ≤ a := fun a ha => by
    obtain ⟨i, hi, e⟩ := List.mem_iff_getElem.mp ha
    have hi7 : i < 7 := by rw [hrl] at hi; exact hi
    have hz : ∃ z, ([5, 240, 240, 1200, 1200, 1200, 1200] : List Int)[i]? = some z := ⟨_, List.getElem?_eq_getElem hi7⟩
    obtain ⟨z, hz⟩ := hz
    exact (hrb i z a hz (by rw [List.getElem?_eq_getElem hi, e])).1
  refine bd_setX 8 (ex_call (F.nearly rr g hc other oo (by omega) (by omega)) (hr.mono (by decide)) (ax_ad (S := fun ms => ms = _) (ad_cons (ed_v 1) (ad_cons (ed_v 3) (ad_cons (ed_v 6) (ad_cons (ed_v 7) ad_nil)))) rfl) (fun ms e => ⟨names, row, hnm, by omega, hrow, by rw [hrl]; decide, by rw [hrl]; decide, e⟩) (P := Po_law_nearly rr other []) fun ms d _ h => h) ?_ hN
  rintro d8 ⟨near0, ⟨on0, dn0, zn0⟩, rfl⟩
  refine bd_setX 8 (P := fun d => ∃ u, SameB rr near0 u ∧ d = u.d) (ex_ix (P2 := Po_law_turned rr near0 []) (ex_call (F.turned rr g 60 near0 on0 (by omega)) (hr.mono (by decide)) (ax_consE (ed_v 5) (ax_consE (ed_v 8) (ax_cons (ex_digits (k := 6) (zs := List.replicate 57 2) F.digits F.cell hr1 (ed_v 0) ed_int (ed_is (ed_bin (ed_l1 (ad_cons ed_int ad_nil)) ed_int (bin_rep (by decide) (by decide) (by decide))) rep2) (by decide) (by decide) (fun z hz => by rw [List.eq_of_mem_replicate hz]; exact ⟨by decide, by decide⟩)) (ax_ad (S := fun ms => ms = [.d (.int 0)]) (ad_cons ed_int ad_nil) rfl)))) (fun ms => ?_) fun ms d _ h => h) ed_int ?_) ?_ hN
  · rintro ⟨n1, rfl, n2, rfl, d, n3, rfl, ⟨ds, hd, rfl⟩, rfl⟩
    exact ⟨ds, 0, by have := (digs_rep hd).1; omega, Int.le_refl _, rfl⟩
  · rintro d ⟨u, j, hu, _, rfl⟩
    exact ⟨_, u.d, rfl, atI_nat (i := 0) rfl, u, hu, rfl⟩
  rintro d9 ⟨near, ⟨on, dn, zn⟩, rfl⟩
  refine bd_set 9 (ed_newSig F.sig (hr.mono (by decide)) g (ed_v 1)) ?_ hN
  have pd : ∀ a b : Tm, PyData.tuple [a.d, b.d] = Pr.d (a, b) := fun _ _ => rfl
  let asked : List Pr := [(mine, other), (mine, near), (other, mine), (near, mine), (mine, mine)]
  refine bd_set 10 (ed_lst (ds := asked.map Pr.d) (ad_cons (ed_t2 (ad_cons (ed_v 4) (ad_cons (ed_v 6) ad_nil))) (ad_cons (ed_t2 (ad_cons (ed_v 4) (ad_cons (ed_v 8) ad_nil))) (ad_cons (ed_t2 (ad_cons (ed_v 6) (ad_cons (ed_v 4) ad_nil))) (ad_cons (ed_t2 (ad_cons (ed_v 8) (ad_cons (ed_v 4) ad_nil))) (ad_cons (ed_t2 (ad_cons (ed_v 4) (ad_cons (ed_v 4) ad_nil))) ad_nil))))) rfl (show 5 ≤ 100000 by decide)) ?_ hN
  refine bd_setO 11 (ds := []) ad_nil ?_ hN
  have hask : ∀ c ∈ asked, Ok rr c.1 ∧ Ok rr c.2 ∧ c.1.dep ≤ 60 ∧ c.2.dep ≤ 60 ∧ c.1.sz ≤ 64 ∧ c.2.sz ≤ 64 := fun c hc => by
    simp only [asked, List.mem_cons, List.not_mem_nil, or_false] at hc
    rcases hc with e | e | e | e | e <;> subst e <;> exact ⟨by assumption, by assumption, by simp only; omega, by simp only; omega, by simp only; omega, by simp only; omega⟩
  have hr135 : Room 135 (A.deeper (envOfC "law" (defScope s_law) sh.heap.objs.size f cdv)) := hr.mono (by decide)
  have derR : ∀ c ∈ asked, R_derive_alike 60 [.sig rr, .d c.1.d, .d c.2.d] (told rr c.1 c.2) := fun c hc => by
    obtain ⟨h1, h2, h3, h4, h5, h6⟩ := hask c hc
    exact ⟨rr, c.1, c.2, g, by decide, h1, h2, h3, h4, by omega, rfl, rfl⟩
  refine bd_for (fun i G => G.set 12 (.val (.d (nthP (asked.map Pr.d) i)))) (fun i G' => ∃ a b : En, G' = [.val (.scr ns), .val (.d (sgD rr)), .val (.d (intsD shp)), .val (.d (namesD names)), .val (.d mine.d), .val (.d (namesD rr.two)), .val (.d other.d), .val (.d (intsD row)), .val (.d near.d), .val (.sig rr), .val (.d (.list (asked.map Pr.d))), .own (((asked.take i).map (txt rr)).map .str), a, b, .no, .no, .no])
    (it_l (ed_v 10)) (pgN 12 hN) (fun i hi => tg_n 12) ⟨.no, .no, rfl⟩ ?_ ?_
  · rintro i G' hi ⟨a, b, rfl⟩
    rw [List.length_map] at hi
    obtain ⟨c, hcq⟩ : ∃ c, asked[i]? = some c := ⟨_, List.getElem?_eq_getElem hi⟩
    have hcm := List.mem_of_getElem? hcq
    obtain ⟨h1, h2, h3, h4, h5, h6⟩ := hask c hcm
    rw [nth_map hcq]
    refine bd_set 13 (ed_call F.derive hr135 (ad_cons (ed_v 9) (ad_cons (ed_ix (ed_v 12) ed_int (ix_t (xs := [c.1.d, c.2.d]) (atI_nat (i := 0) rfl))) (ad_cons (ed_ix (ed_v 12) ed_int (ix_t (xs := [c.1.d, c.2.d]) (atI_nat (i := 1) rfl))) ad_nil))) (derR c hcm)) ?_ hN
    refine bd_ifF (td_notT (td_val (ed_callG F.answers hgX (hr.mono (by decide)) (ad_cons (ed_v 1) (ad_cons (ed_v 9) (ad_cons (ed_v 13) (ad_cons (ed_v 12) ad_nil)))) ⟨rr, c.1, c.2, g, h1, h2, h3, h4, h5, h6, rfl, rfl⟩))) ?_
    refine bd_app 11 (ed_reprTold B hgX (room_u hr) g h1 h3 h5 (ed_v 13)) (bd_nil ⟨.val (.d (Pr.d c)), .val (.d (told rr c.1 c.2)), ?_⟩) rfl (by rw [List.length_map, List.length_map, List.length_take]; have : asked.length = 5 := rfl; omega)
    rw [List.take_succ, hcq, List.map_append, List.map_append]
    rfl
  · rintro G' ⟨a, b, rfl⟩
    obtain ⟨h1, h2, h3, h4, h5, h6⟩ := hask (mine, other) (by simp [asked])
    have m1 : (mine, other) ∈ asked := by simp [asked]
    have m2 : (mine, near) ∈ asked := by simp [asked]
    refine bd_free 11 ?_
    refine bd_set 14 (ed_l2 (ad_cons (ed_reprTold (s := mine) (t := other) B hgX (room_u hr) g h1 h3 h5 (ed_callK F.deriveK hr135 (pkd_cons (ed_v 9) (pkd_cons (ed_v 4) (pkd_cons (ed_v 6) pkd_nil))) (derR _ m1))) (ad_cons (ed_reprTold (s := mine) (t := near) B hgX (room_u hr) g h1 h3 h5 (ed_call F.derive hr135 (ad_cons (ed_v 9) (ad_cons (ed_v 4) (ad_cons (ed_v 8) ad_nil))) (derR _ m2))) ad_nil))) ?_ hN
    refine bd_ret (ed_cmp (ed_v 14) (ed_sl (ed_v 11) od_none (od_some ed_int) (sl_l (ys := [txt rr (mine, other), txt rr (mine, near)].map .str) rfl)) (cmp_eqStrs (xs := [txt rr (mine, other), txt rr (mine, near)]) (room64 hr))) rfl
end
end Tw

set_option maxHeartbeats 4000000
namespace Tw
open PySem PySem.Spec L2
open PyProof.Rows hiding St
/-! ### the law's call from outside, where no repr is under way -/
theorem call_lawG {P : Program} {w : World} {K : PySem.W.Frag} {mg mb : Str → Option Value} {k : Nat} {fa al : Addr} {fc : FuncData} {nm : Str} {sp : Sp} {sh : Shared} {rs : List Value} {xs : List Int} (inK : K.In sh.heap) (hglob : sh.heap.Ns mainGlobals mg) (hblt : sh.heap.Ns builtinsNs mb)
    (hboot : ∀ z : Str, z ≠ "__name__" → mb z = bootBuiltins z) (hnl : sh.heap.NoLimit) (hgen : sh.gens = #[]) (hal : sh.heap.get? al = some { cls := .type "list", data := .seq rs.toArray }) (hint : IntsAre rs xs) (hsz : xs.length ≤ sizeLine) (hroom : Room k callerA)
    (F : ∀ bs : Heap, K.In bs → bs.Ns mainGlobals mg → FnG P w K mg bs k fa fc [nm] sp) (hbd : ∀ (st : Shared) (u : Value), BindsTo st fc ⟨[u], []⟩ [(nm, u)]) (hspec : ∀ Hq : Hp, Only Hq → SqL K Hq al (xs.map V.int) → sp [.ref al] Hq (fun y _ => y = .bl true) L2.E0) :
    codeAny (model P w) callerA (.call (.ref fa) ⟨[.ref al], []⟩) (fun res sz => res = .ok (.ret (.bool true)) ∧ OldK sh.heap sz.heap ∧ sz.os = sh.os ∧ AllBare sz.gens) sh := by
  have rvals := vals_ints hint
  have lrs := hint.length
  have main : ∀ Hq : Hp, Only Hq → SqL K Hq al (xs.map V.int) → HOk P w Hq sh.heap → (∀ z, Hq z ≠ none → z = al) → (Hq al ≠ none → K.lookup al = none) →
      codeAny (model P w) callerA (.call (.ref fa) ⟨[.ref al], []⟩) (fun res sz => res = .ok (.ret (.bool true)) ∧ OldK sh.heap sz.heap ∧ sz.os = sh.os ∧ AllBare sz.gens) sh := by
    intro Hq honly hseq hhok hone hnk
    have hid : ∀ {z : Addr} {ob : Obj}, sh.heap.get? z = some ob → Hq z = none → (hidT sh.heap Hq).get? z = some ob := fun q1 q2 => hidT_get q1 q2
    have free : ∀ {z : Addr} {ob : Obj} {ents : Array DictEntry} {ep : Nat}, sh.heap.get? z = some ob → ob.data = .dict ents ep → Hq z = none := fun {z ob ents ep} q1 q2 => by
      cases hz : Hq z with
      | none => rfl
      | some u =>
        have ez : z = al := hone z (by rw [hz]; exact fun q => nomatch q)
        subst ez
        rw [hal] at q1
        cases q1
        have q3 : Data.seq rs.toArray _ = Data.dict ents ep := q2
        cases q3
    have spaces : ∀ {z : Addr} {m : Str → Option Value}, sh.heap.Ns z m → (hidT sh.heap Hq).Ns z m := fun {z m} ⟨ob, ents, ep, q1, q2, q3⟩ => ⟨ob, ents, ep, hid q1 (free q1 q2), q2, q3⟩
    have inKb : K.In (hidT sh.heap Hq) := fun z ob q => hid (inK z ob q) (by
      cases hz : Hq z with
      | none => rfl
      | some u =>
        have ez : z = al := hone z (by rw [hz]; exact fun q => nomatch q)
        subst ez
        rw [hnk (by rw [hz]; exact fun q => nomatch q)] at q
        cases q)
    obtain ⟨mc, hc1, hc2⟩ := hnl
    have md : Mod K mg (hidT sh.heap Hq) := ⟨inKb, spaces hglob, ⟨mb, spaces hblt, hboot⟩, mc, spaces hc1, hc2⟩
    have en : Env0 P w K mg (hidT sh.heap Hq) callerA [] sh Hq := ⟨rfl, md, fun z ob q => of_hidT q, Nat.le_of_eq (hidT_size _ _), trivial, (fun z hz => (nomatch hz)), hhok, .of_eq hgen⟩
    refine codeAny_mono ((F _ inKb (spaces hglob)).run callerA [] sh Hq ⟨[.ref al], []⟩ [.ref al] [.ref al] _ _ rfl hroom en (hbd sh (.ref al)) (.cons rfl .nil) (hspec Hq honly hseq)) fun res sz hz => ?_
    match res, hz with
    | .error _, hz => exact hz.elim
    | .ok .next, hz => exact hz.elim
    | .ok .brk, hz => exact hz.elim
    | .ok .cont, hz => exact hz.elim
    | .ok (.ret u), ⟨y, Hz, eos, ebare, eun, ehok, ry, ey⟩ =>
      have ey' : y = .bl true := ey
      subst ey'
      obtain rfl : u = Value.bool true := ry
      refine ⟨rfl, OldK.of_keep fun z ob q => ?_, eos, ebare⟩
      cases hz : Hq z with
      | none => exact eun.keep z ob q hz (fun m => (nomatch m)) (fun m => (nomatch m))
      | some u =>
        rcases honly z with n | ⟨o2, ys, n⟩
        · rw [hz] at n
          cases n
        · obtain ⟨q1, _⟩ := hhok z _ n
          obtain ⟨q2, _⟩ := ehok z _ (eun.frzs z o2 _ n)
          rw [q] at q1
          cases q1
          exact q2
  cases hk : K.lookup al with
  | some ob =>
    have q := inK al ob hk
    rw [hal] at q
    cases q
    exact main (fun _ => none) (fun _ => .inl rfl) (.inr ⟨_, rs.toArray, _, hk, rfl, rfl, rfl, by rw [List.size_toArray, lrs]; exact hsz, by simpa using rvals⟩) (fun z u q => by have q' : (none : Option HO) = some u := q; cases q') (fun z q => absurd rfl q) fun q => absurd rfl q
  | none =>
    have nal : ∀ {z : Addr}, ¬ z = al → (if z = al then some (HO.frz { cls := .type "list", data := .seq rs.toArray } (.lst (xs.map V.int))) else none) = none := fun h => if_neg h
    refine main (fun z => if z = al then some (.frz { cls := .type "list", data := .seq rs.toArray } (.lst (xs.map V.int))) else none) (fun z => ?_) (.inl (.inr ⟨{ cls := .type "list", data := .seq rs.toArray }, if_pos rfl⟩)) (fun z u q => ?_) (fun z q => Classical.byContradiction fun h => q (nal h)) fun _ => hk
    · by_cases h : z = al
      · exact .inr ⟨_, _, if_pos h⟩
      · exact .inl (nal h)
    · by_cases h : z = al
      · have q' := (if_pos h).symm.trans q
        cases q'
        subst h
        exact ⟨hal, by rw [List.length_map]; exact hsz, rs, _, rvals, hal⟩
      · have q' := (nal h).symm.trans q
        cases q'
theorem seq_hm {K : PySem.W.Frag} {H : Hp} {a : Addr} {xs : List V} (h : SqL K H a xs) : SqL K (Hm H []) a xs := by
  have e : Hm H [] = H := funext fun b => if_neg (fun z => (nomatch z))
  rw [e]
  exact h
/-- the law's end over the head -/
theorem walk_lawG {l : PySem.W.OpenLaw} {n k : Nat} {q : Program} {loose : List Str} {XP : (Str → Option Value) → Heap → Prop} {YP : World → Heap → Prop} {d : DefRec} {nm : Str} (hmost : l.most = some n) (hn2 : n ≤ sizeLine) (hdef : d.params.defaults = []) (hroom : Room k callerA)
    (F : ∀ (w : World) (mg : Str → Option Value) (fa : Addr) (h : Heap), YP w h → h.Ns mainGlobals mg → mg d.name = some (.ref fa) →
      ∃ (K : PySem.W.Frag) (fc : FuncData) (sp : Sp), K.In h ∧ (∀ (st : Shared) (u : Value), BindsTo st fc ⟨[u], []⟩ [(nm, u)]) ∧ (∀ (Hq : Hp) (al : Addr) (xs : List Int), xs.length ≤ n → Only Hq → SqL K Hq al (xs.map V.int) → sp [.ref al] Hq (fun y _ => y = .bl true) L2.E0) ∧
        ∀ bs : Heap, K.In bs → bs.Ns mainGlobals mg → FnG l.prog w K mg bs k fa fc [nm] sp) : PySem.W.WalkO q loose XP YP l.row.toRowW d [] (fun f vs => PySem.call f vs) := by
  refine Att.attach_call hmost hdef fun w s₀ sh mg mb fa o pm cd doc al rs xs G Y ho hd hcd hmg hobj hints hlen hgen => ?_
  obtain ⟨K, fc, sp, inK, hbd, hspec, hF⟩ := F w mg fa _ Y G.T.g hmg
  exact call_lawG inK G.T.g G.T.b G.T.builtins G.T.nolimit hgen hobj hints (Nat.le_trans hlen hn2) hroom hF hbd fun Hq h1 h2 => hspec Hq al xs hlen h1 h2
end Tw

set_option maxHeartbeats 4000000
namespace Tw
open PySem PySem.Spec L2
open PyProof.Rows hiding St
abbrev mkD (a : Str × Option Str) (n q : Str) (st : Stmt) : He.DefD := ⟨a, n, q, defArgs st, defBody st, defScope st, [], []⟩
section
variable {K : PySem.W.Frag} {h : Heap} {mg : Str → Option Value} (inK : K.In h) (G : h.Ns mainGlobals mg) (c : He.SaysD dFa dFns K)
include inK G c
theorem at_consists_of : DefAt K mg "consists_of" "consists_of" s_consists_of := let ⟨fd, F⟩ := c.def_ 0 (d := mkD ("consists_of", none) "consists_of" "consists_of" s_consists_of); ⟨_, fd, F, He.glo_ok inK G (c.fact 0 (f := .glo "consists_of"))⟩
theorem at_is_variable : DefAt K mg "is_variable" "is_variable" s_is_variable := let ⟨fd, F⟩ := c.def_ 1 (d := mkD ("is_variable", none) "is_variable" "is_variable" s_is_variable); ⟨_, fd, F, He.glo_ok inK G (c.fact 1 (f := .glo "is_variable"))⟩
theorem at_is_symbol_name : DefAt K mg "is_symbol_name" "is_symbol_name" s_is_symbol_name := let ⟨fd, F⟩ := c.def_ 2 (d := mkD ("is_symbol_name", none) "is_symbol_name" "is_symbol_name" s_is_symbol_name); ⟨_, fd, F, He.glo_ok inK G (c.fact 2 (f := .glo "is_symbol_name"))⟩
theorem at_variable_key : DefAt K mg "variable_key" "variable_key" s_variable_key := let ⟨fd, F⟩ := c.def_ 3 (d := mkD ("variable_key", none) "variable_key" "variable_key" s_variable_key); ⟨_, fd, F, He.glo_ok inK G (c.fact 3 (f := .glo "variable_key"))⟩
theorem at_check_term : DefAt K mg "check_term" "check_term" s_check_term := let ⟨fd, F⟩ := c.def_ 4 (d := mkD ("check_term", none) "check_term" "check_term" s_check_term); ⟨_, fd, F, He.glo_ok inK G (c.fact 4 (f := .glo "check_term"))⟩
theorem at_check_part : DefAt K mg "check_part" "check_part" s_check_part := let ⟨fd, F⟩ := c.def_ 5 (d := mkD ("check_part", none) "check_part" "check_part" s_check_part); ⟨_, fd, F, He.glo_ok inK G (c.fact 5 (f := .glo "check_part"))⟩
theorem at_term_order : DefAt K mg "term_order" "term_order" s_term_order := let ⟨fd, F⟩ := c.def_ 6 (d := mkD ("term_order", none) "term_order" "term_order" s_term_order); ⟨_, fd, F, He.glo_ok inK G (c.fact 6 (f := .glo "term_order"))⟩
theorem at_item_at : DefAt K mg "item_at" "item_at" s_item_at := let ⟨fd, F⟩ := c.def_ 7 (d := mkD ("item_at", none) "item_at" "item_at" s_item_at); ⟨_, fd, F, He.glo_ok inK G (c.fact 7 (f := .glo "item_at"))⟩
theorem at_is_term : DefAt K mg "is_term" "is_term" s_is_term := let ⟨fd, F⟩ := c.def_ 8 (d := mkD ("is_term", none) "is_term" "is_term" s_is_term); ⟨_, fd, F, He.glo_ok inK G (c.fact 8 (f := .glo "is_term"))⟩
theorem at_same_pair : DefAt K mg "same_pair" "same_pair" s_same_pair := let ⟨fd, F⟩ := c.def_ 9 (d := mkD ("same_pair", none) "same_pair" "same_pair" s_same_pair); ⟨_, fd, F, He.glo_ok inK G (c.fact 9 (f := .glo "same_pair"))⟩
theorem at_turn_pair : DefAt K mg "turn_pair" "turn_pair" s_turn_pair := let ⟨fd, F⟩ := c.def_ 10 (d := mkD ("turn_pair", none) "turn_pair" "turn_pair" s_turn_pair); ⟨_, fd, F, He.glo_ok inK G (c.fact 10 (f := .glo "turn_pair"))⟩
theorem at_chain_pair : DefAt K mg "chain_pair" "chain_pair" s_chain_pair := let ⟨fd, F⟩ := c.def_ 11 (d := mkD ("chain_pair", none) "chain_pair" "chain_pair" s_chain_pair); ⟨_, fd, F, He.glo_ok inK G (c.fact 11 (f := .glo "chain_pair"))⟩
theorem at_within_pair : DefAt K mg "within_pair" "within_pair" s_within_pair := let ⟨fd, F⟩ := c.def_ 12 (d := mkD ("within_pair", none) "within_pair" "within_pair" s_within_pair); ⟨_, fd, F, He.glo_ok inK G (c.fact 12 (f := .glo "within_pair"))⟩
theorem at_conclusion_after : DefAt K mg "conclusion_after" "conclusion_after" s_conclusion_after := let ⟨fd, F⟩ := c.def_ 13 (d := mkD ("conclusion_after", none) "conclusion_after" "conclusion_after" s_conclusion_after); ⟨_, fd, F, He.glo_ok inK G (c.fact 13 (f := .glo "conclusion_after"))⟩
theorem at_conclusions : DefAt K mg "conclusions" "conclusions" s_conclusions := let ⟨fd, F⟩ := c.def_ 14 (d := mkD ("conclusions", none) "conclusions" "conclusions" s_conclusions); ⟨_, fd, F, He.glo_ok inK G (c.fact 14 (f := .glo "conclusions"))⟩
theorem at_least_writing : DefAt K mg "least_writing" "least_writing" s_least_writing := let ⟨fd, F⟩ := c.def_ 15 (d := mkD ("least_writing", none) "least_writing" "least_writing" s_least_writing); ⟨_, fd, F, He.glo_ok inK G (c.fact 15 (f := .glo "least_writing"))⟩
theorem at_are_alike : DefAt K mg "are_alike" "are_alike" s_are_alike := let ⟨fd, F⟩ := c.def_ 16 (d := mkD ("are_alike", none) "are_alike" "are_alike" s_are_alike); ⟨_, fd, F, He.glo_ok inK G (c.fact 16 (f := .glo "are_alike"))⟩
theorem at_D_init : ∃ fd, FnP K "__init__" "Derivation.__init__" s_D_init (He.ma K (He.ga K "Derivation") "__init__") fd := c.def_ 17 (d := mkD ("Derivation", some "__init__") "__init__" "Derivation.__init__" s_D_init)
theorem at_D_put : MethAt K (He.ga K "Derivation") "put" "Derivation.put" s_D_put := let ⟨fd, F⟩ := c.def_ 18 (d := mkD ("Derivation", some "put") "put" "Derivation.put" s_D_put); ⟨_, fd, F, He.meth_ok (c.fact 17 (f := .meth "Derivation" "put"))⟩
theorem at_D_same : MethAt K (He.ga K "Derivation") "same" "Derivation.same" s_D_same := let ⟨fd, F⟩ := c.def_ 19 (d := mkD ("Derivation", some "same") "same" "Derivation.same" s_D_same); ⟨_, fd, F, He.meth_ok (c.fact 18 (f := .meth "Derivation" "same"))⟩
theorem at_D_turn : MethAt K (He.ga K "Derivation") "turn" "Derivation.turn" s_D_turn := let ⟨fd, F⟩ := c.def_ 20 (d := mkD ("Derivation", some "turn") "turn" "Derivation.turn" s_D_turn); ⟨_, fd, F, He.meth_ok (c.fact 19 (f := .meth "Derivation" "turn"))⟩
theorem at_D_chain : MethAt K (He.ga K "Derivation") "chain" "Derivation.chain" s_D_chain := let ⟨fd, F⟩ := c.def_ 21 (d := mkD ("Derivation", some "chain") "chain" "Derivation.chain" s_D_chain); ⟨_, fd, F, He.meth_ok (c.fact 20 (f := .meth "Derivation" "chain"))⟩
theorem at_D_within : MethAt K (He.ga K "Derivation") "within" "Derivation.within" s_D_within := let ⟨fd, F⟩ := c.def_ 22 (d := mkD ("Derivation", some "within") "within" "Derivation.within" s_D_within); ⟨_, fd, F, He.meth_ok (c.fact 21 (f := .meth "Derivation" "within"))⟩
theorem at_D_are_straight : MethAt K (He.ga K "Derivation") "are_straight" "Derivation.are_straight" s_D_are_straight := let ⟨fd, F⟩ := c.def_ 23 (d := mkD ("Derivation", some "are_straight") "are_straight" "Derivation.are_straight" s_D_are_straight); ⟨_, fd, F, He.meth_ok (c.fact 22 (f := .meth "Derivation" "are_straight"))⟩
theorem at_D_likeness : MethAt K (He.ga K "Derivation") "likeness" "Derivation.likeness" s_D_likeness := let ⟨fd, F⟩ := c.def_ 24 (d := mkD ("Derivation", some "likeness") "likeness" "Derivation.likeness" s_D_likeness); ⟨_, fd, F, He.meth_ok (c.fact 23 (f := .meth "Derivation" "likeness"))⟩
theorem at_derive_alike : DefAt K mg "derive_alike" "derive_alike" s_derive_alike := let ⟨fd, F⟩ := c.def_ 25 (d := mkD ("derive_alike", none) "derive_alike" "derive_alike" s_derive_alike); ⟨_, fd, F, He.glo_ok inK G (c.fact 24 (f := .glo "derive_alike"))⟩
theorem at_S_init : ∃ fd, FnP K "__init__" "Signature.__init__" s_S_init (He.ma K (He.ga K "Signature") "__init__") fd := c.def_ 26 (d := mkD ("Signature", some "__init__") "__init__" "Signature.__init__" s_S_init)
theorem at_S_arity : MethAt K (He.ga K "Signature") "arity" "Signature.arity" s_S_arity := let ⟨fd, F⟩ := c.def_ 27 (d := mkD ("Signature", some "arity") "arity" "Signature.arity" s_S_arity); ⟨_, fd, F, He.meth_ok (c.fact 25 (f := .meth "Signature" "arity"))⟩
theorem at_S_rank : MethAt K (He.ga K "Signature") "rank" "Signature.rank" s_S_rank := let ⟨fd, F⟩ := c.def_ 28 (d := mkD ("Signature", some "rank") "rank" "Signature.rank" s_S_rank); ⟨_, fd, F, He.meth_ok (c.fact 26 (f := .meth "Signature" "rank"))⟩
theorem at_S_is_two_way : MethAt K (He.ga K "Signature") "is_two_way" "Signature.is_two_way" s_S_is_two_way := let ⟨fd, F⟩ := c.def_ 29 (d := mkD ("Signature", some "is_two_way") "is_two_way" "Signature.is_two_way" s_S_is_two_way); ⟨_, fd, F, He.meth_ok (c.fact 27 (f := .meth "Signature" "is_two_way"))⟩
theorem at_law_whole : DefAt K mg "_law_whole" "_law_whole" s_law_whole := let ⟨fd, F⟩ := c.def_ 30 (d := mkD ("_law_whole", none) "_law_whole" "_law_whole" s_law_whole); ⟨_, fd, F, He.glo_ok inK G (c.fact 28 (f := .glo "_law_whole"))⟩
theorem at_law_cell : DefAt K mg "_law_cell" "_law_cell" s_law_cell := let ⟨fd, F⟩ := c.def_ 31 (d := mkD ("_law_cell", none) "_law_cell" "_law_cell" s_law_cell); ⟨_, fd, F, He.glo_ok inK G (c.fact 29 (f := .glo "_law_cell"))⟩
theorem at_law_digits : DefAt K mg "_law_digits" "_law_digits" s_law_digits := let ⟨fd, F⟩ := c.def_ 32 (d := mkD ("_law_digits", none) "_law_digits" "_law_digits" s_law_digits); ⟨_, fd, F, He.glo_ok inK G (c.fact 30 (f := .glo "_law_digits"))⟩
theorem at_law_symbols : DefAt K mg "_law_symbols" "_law_symbols" s_law_symbols := let ⟨fd, F⟩ := c.def_ 33 (d := mkD ("_law_symbols", none) "_law_symbols" "_law_symbols" s_law_symbols); ⟨_, fd, F, He.glo_ok inK G (c.fact 31 (f := .glo "_law_symbols"))⟩
theorem at_law_two : DefAt K mg "_law_two" "_law_two" s_law_two := let ⟨fd, F⟩ := c.def_ 34 (d := mkD ("_law_two", none) "_law_two" "_law_two" s_law_two); ⟨_, fd, F, He.glo_ok inK G (c.fact 32 (f := .glo "_law_two"))⟩
theorem at_law_term : DefAt K mg "_law_term" "_law_term" s_law_term := let ⟨fd, F⟩ := c.def_ 35 (d := mkD ("_law_term", none) "_law_term" "_law_term" s_law_term); ⟨_, fd, F, He.glo_ok inK G (c.fact 33 (f := .glo "_law_term"))⟩
theorem at_law_crossed : DefAt K mg "_law_crossed" "_law_crossed" s_law_crossed := let ⟨fd, F⟩ := c.def_ 36 (d := mkD ("_law_crossed", none) "_law_crossed" "_law_crossed" s_law_crossed); ⟨_, fd, F, He.glo_ok inK G (c.fact 34 (f := .glo "_law_crossed"))⟩
theorem at_law_form : DefAt K mg "_law_form" "_law_form" s_law_form := let ⟨fd, F⟩ := c.def_ 37 (d := mkD ("_law_form", none) "_law_form" "_law_form" s_law_form); ⟨_, fd, F, He.glo_ok inK G (c.fact 35 (f := .glo "_law_form"))⟩
theorem at_law_places : DefAt K mg "_law_places" "_law_places" s_law_places := let ⟨fd, F⟩ := c.def_ 38 (d := mkD ("_law_places", none) "_law_places" "_law_places" s_law_places); ⟨_, fd, F, He.glo_ok inK G (c.fact 36 (f := .glo "_law_places"))⟩
theorem at_law_turned : DefAt K mg "_law_turned" "_law_turned" s_law_turned := let ⟨fd, F⟩ := c.def_ 39 (d := mkD ("_law_turned", none) "_law_turned" "_law_turned" s_law_turned); ⟨_, fd, F, He.glo_ok inK G (c.fact 37 (f := .glo "_law_turned"))⟩
theorem at_law_menu : DefAt K mg "_law_menu" "_law_menu" s_law_menu := let ⟨fd, F⟩ := c.def_ 40 (d := mkD ("_law_menu", none) "_law_menu" "_law_menu" s_law_menu); ⟨_, fd, F, He.glo_ok inK G (c.fact 38 (f := .glo "_law_menu"))⟩
theorem at_law_among : DefAt K mg "_law_among" "_law_among" s_law_among := let ⟨fd, F⟩ := c.def_ 41 (d := mkD ("_law_among", none) "_law_among" "_law_among" s_law_among); ⟨_, fd, F, He.glo_ok inK G (c.fact 39 (f := .glo "_law_among"))⟩
theorem at_law_is_variable : DefAt K mg "_law_is_variable" "_law_is_variable" s_law_is_variable := let ⟨fd, F⟩ := c.def_ 42 (d := mkD ("_law_is_variable", none) "_law_is_variable" "_law_is_variable" s_law_is_variable); ⟨_, fd, F, He.glo_ok inK G (c.fact 40 (f := .glo "_law_is_variable"))⟩
theorem at_law_is_term : DefAt K mg "_law_is_term" "_law_is_term" s_law_is_term := let ⟨fd, F⟩ := c.def_ 43 (d := mkD ("_law_is_term", none) "_law_is_term" "_law_is_term" s_law_is_term); ⟨_, fd, F, He.glo_ok inK G (c.fact 41 (f := .glo "_law_is_term"))⟩
theorem at_law_concluded : DefAt K mg "_law_concluded" "_law_concluded" s_law_concluded := let ⟨fd, F⟩ := c.def_ 44 (d := mkD ("_law_concluded", none) "_law_concluded" "_law_concluded" s_law_concluded); ⟨_, fd, F, He.glo_ok inK G (c.fact 42 (f := .glo "_law_concluded"))⟩
theorem at_law_equal : DefAt K mg "_law_equal" "_law_equal" s_law_equal := let ⟨fd, F⟩ := c.def_ 45 (d := mkD ("_law_equal", none) "_law_equal" "_law_equal" s_law_equal); ⟨_, fd, F, He.glo_ok inK G (c.fact 43 (f := .glo "_law_equal"))⟩
theorem at_law_walked : DefAt K mg "_law_walked" "_law_walked" s_law_walked := let ⟨fd, F⟩ := c.def_ 46 (d := mkD ("_law_walked", none) "_law_walked" "_law_walked" s_law_walked); ⟨_, fd, F, He.glo_ok inK G (c.fact 44 (f := .glo "_law_walked"))⟩
theorem at_law_put : DefAt K mg "_law_put" "_law_put" s_law_put := let ⟨fd, F⟩ := c.def_ 47 (d := mkD ("_law_put", none) "_law_put" "_law_put" s_law_put); ⟨_, fd, F, He.glo_ok inK G (c.fact 45 (f := .glo "_law_put"))⟩
theorem at_law_swap : DefAt K mg "_law_swap" "_law_swap" s_law_swap := let ⟨fd, F⟩ := c.def_ 48 (d := mkD ("_law_swap", none) "_law_swap" "_law_swap" s_law_swap); ⟨_, fd, F, He.glo_ok inK G (c.fact 46 (f := .glo "_law_swap"))⟩
theorem at_law_nearly : DefAt K mg "_law_nearly" "_law_nearly" s_law_nearly := let ⟨fd, F⟩ := c.def_ 49 (d := mkD ("_law_nearly", none) "_law_nearly" "_law_nearly" s_law_nearly); ⟨_, fd, F, He.glo_ok inK G (c.fact 47 (f := .glo "_law_nearly"))⟩
theorem at_law_grown_term : DefAt K mg "_law_grown_term" "_law_grown_term" s_law_grown_term := let ⟨fd, F⟩ := c.def_ 50 (d := mkD ("_law_grown_term", none) "_law_grown_term" "_law_grown_term" s_law_grown_term); ⟨_, fd, F, He.glo_ok inK G (c.fact 48 (f := .glo "_law_grown_term"))⟩
theorem at_law_answers : DefAt K mg "_law_answers" "_law_answers" s_law_answers := let ⟨fd, F⟩ := c.def_ 51 (d := mkD ("_law_answers", none) "_law_answers" "_law_answers" s_law_answers); ⟨_, fd, F, He.glo_ok inK G (c.fact 49 (f := .glo "_law_answers"))⟩
theorem at_law : DefAt K mg "law" "law" s_law := let ⟨fd, F⟩ := c.def_ 52 (d := mkD ("law", none) "law" "law" s_law); ⟨_, fd, F, He.glo_ok inK G (c.fact 50 (f := .glo "law"))⟩
theorem at_bi : Bi mg := ⟨He.free_ok inK G (c.fact 63 (f := .free "len")), He.free_ok inK G (c.fact 64 (f := .free "int")), He.free_ok inK G (c.fact 65 (f := .free "isinstance")), He.free_ok inK G (c.fact 66 (f := .free "range")), He.free_ok inK G (c.fact 67 (f := .free "list")), He.free_ok inK G (c.fact 68 (f := .free "tuple")), He.free_ok inK G (c.fact 69 (f := .free "repr")), He.free_ok inK G (c.fact 70 (f := .free "str")), He.free_ok inK G (c.fact 71 (f := .free "enumerate")), He.free_ok inK G (c.fact 72 (f := .free "bool")), He.str_ok inK G (c.fact 73 (f := .str "CAPITALS" "ABCDEFGHIJKLMNOPQRSTUVWXYZ")), He.str_ok inK G (c.fact 74 (f := .str "SMALL" "abcdefghijklmnopqrstuvwxyz")), He.str_ok inK G (c.fact 75 (f := .str "DIGITS" "0123456789"))⟩
theorem at_sf : SF K := ⟨He.cls_ok (c.fact 59 (f := .cls "Signature")), He.noat_ok (c.fact 62 (f := .noat "Signature" "table")), He.noat_ok (c.fact 61 (f := .noat "Signature" "symbols"))⟩
theorem at_df : DF K := ⟨He.cls_ok (c.fact 52 (f := .cls "Derivation")), He.noat_ok (c.fact 54 (f := .noat "Derivation" "signature")), He.noat_ok (c.fact 55 (f := .noat "Derivation" "axioms")), He.noat_ok (c.fact 56 (f := .noat "Derivation" "lines")), He.noat_ok (c.fact 57 (f := .noat "Derivation" "pairs"))⟩
theorem at_mkS : Mk K (sigC K) (He.ma K (sigC K) "__init__") ∧ mg "Signature" = some (.ref (sigC K)) := ⟨He.mkr_ok (c.fact 60 (f := .mkr "Signature")), He.glo_ok inK G (c.fact 58 (f := .glo "Signature"))⟩
theorem at_mkD : Mk K (derC K) (He.ma K (derC K) "__init__") ∧ mg "Derivation" = some (.ref (derC K)) := ⟨He.mkr_ok (c.fact 53 (f := .mkr "Derivation")), He.glo_ok inK G (c.fact 51 (f := .glo "Derivation"))⟩
theorem all_law (P : Program) (w : World) (base : Heap) : LawFs P w K mg base := by
  have B := at_bi inK G c
  have T := at_sf inK G c
  have Z := at_df inK G c
  have f1 := fd_mk (P := P) (w := w) (base := base) (at_consists_of inK G c) (fun F => bn_consists_of F) fun f fd F => ok_consists_of F
  have f2 := fd_mk (P := P) (w := w) (base := base) (at_is_variable inK G c) (fun F => bn_is_variable F) fun f fd F => ok_is_variable B F f1
  have f3 := fd_mk (P := P) (w := w) (base := base) (at_is_symbol_name inK G c) (fun F => bn_is_symbol_name F) fun f fd F => ok_is_symbol_name B F f1
  have f4 := fd_mk (P := P) (w := w) (base := base) (at_variable_key inK G c) (fun F => bn_variable_key F) fun f fd F => ok_variable_key B F
  have m1 : MD P w K mg base 1 (sigC K) "arity" P_S_arity R_arity := md_mk (at_S_arity inK G c) (fun F => bn_S_arity F) fun f fd F => ok_arity T F
  have m2 : MD P w K mg base 1 (sigC K) "rank" P_S_rank R_rank := md_mk (at_S_rank inK G c) (fun F => bn_S_rank F) fun f fd F => ok_rank T F
  have m3 : MD P w K mg base 1 (sigC K) "is_two_way" P_S_is_two_way R_is_two_way := md_mk (at_S_is_two_way inK G c) (fun F => bn_S_is_two_way F) fun f fd F => ok_is_two_way T F
  have g1 := fd_check_part B T (at_check_part inK G c) f2 m1 60
  have g2 := fd_check_term (at_check_term inK G c) g1 (by decide)
  have g3 := fd_is_term B (at_is_term inK G c) g2
  have g4 := fd_same_pair (at_same_pair inK G c) g3
  have g5 := fd_turn_pair B T (at_turn_pair inK G c) g3 m3 (by decide)
  have g6 := fd_item_at (P := P) (w := w) (base := base) B (at_item_at inK G c)
  have g7 := fd_chain_pair (P := P) (w := w) (base := base) B (at_chain_pair inK G c)
  have g8 := fd_within_pair B T (at_within_pair inK G c) m1
  have g9 := fd_conclusion_after B (at_conclusion_after inK G c) g4 g5 g6 g7 g8 (by decide)
  have g10 := fd_conclusions B (at_conclusions inK G c) g9
  have l1 := fd_term_order B T (at_term_order inK G c) f4 m2
  have l2 := fd_least_writing B T (at_least_writing inK G c) l1 m3 60
  have l3 := fd_are_alike (at_are_alike inK G c) l2
  have d1 := mm_put B Z (at_D_put inK G c) g9
  have d2 := mm_same Z (at_D_same inK G c) d1
  have d3 := mm_turn Z (at_D_turn inK G c) d1
  have d4 := mm_chain Z (at_D_chain inK G c) d1
  have d5 := mm_within B Z (at_D_within inK G c) d1
  have d6 := md_are_straight B Z (at_D_are_straight inK G c) l3
  have d7 := mm_likeness B Z (at_D_likeness inK G c) d2 d3 d4 d5 (d6.mono (by decide)) 60 (Nat.le_refl _)
  have nd : NewD P w K mg base := by
    obtain ⟨fd, F⟩ := at_D_init inK G c
    obtain ⟨k1, k2⟩ := at_mkD inK G c
    exact ⟨_, fd, k1, ok_D_init B Z F, bn_D_init F, k2⟩
  have nsg : NewS P w K mg base := by
    obtain ⟨fd, F⟩ := at_S_init inK G c
    obtain ⟨k1, k2⟩ := at_mkS inK G c
    exact ⟨_, fd, k1, ok_S_init B T F f3, bn_S_init F, k2⟩
  have e1 := fd_derive_alike (k := 134) B Z (at_derive_alike inK G c) nd (l3.mono (by decide)) (d7.mono (by decide)) (by decide)
  have e2 := fdk_derive_alike (k := 134) B Z (at_derive_alike inK G c) nd (l3.mono (by decide)) (d7.mono (by decide)) (by decide)
  have w1 := fd_law_whole (P := P) (w := w) (base := base) B (at_law_whole inK G c)
  have w2 := fd_law_among (at_law_among inK G c) w1
  have w3 := fd_law_two (P := P) (w := w) (base := base) (at_law_two inK G c)
  have w4 := fd_law_is_variable (P := P) (w := w) (base := base) B (at_law_is_variable inK G c)
  have w5 := fd_law_is_term B (at_law_is_term inK G c) w4 60
  have w6 := fd_law_concluded B (at_law_concluded inK G c) w5 w3 w2 (by decide)
  have w7 := fd_law_walked B (at_law_walked inK G c) w6
  have w8 := fd_law_equal (P := P) (w := w) (base := base) B (at_law_equal inK G c) 62
  have w9 := fdg_law_form (P := P) (w := w) (base := base) B (at_law_form inK G c) 60
  have v1 := fx_law_cell (P := P) (w := w) (base := base) B (at_law_cell inK G c)
  have v2 := fx_law_digits (P := P) (w := w) (base := base) B (at_law_digits inK G c)
  have v3 := fun (ss : Sg) (g : ss.Good) => fx_law_turned (P := P) (w := w) (base := base) B g (at_law_turned inK G c)
  have v4 := fun (ss : Sg) (g : ss.Good) (h : ∃ s ∈ ss, s.ar = 0) => fx_law_term (P := P) (w := w) (base := base) B g h (at_law_term inK G c)
  exact {
    cell := v1
    digits := v2
    symbols := fx_law_symbols B (at_law_symbols inK G c)
    menu := fx_law_menu B (at_law_menu inK G c)
    grown := fun ss hS => fx_law_grown B hS (at_law_grown_term inK G c) v1 v2 w3 (fun dp => v4 ss hS.g hS.c dp fun _ => hS.t) (fun dp => fx_law_crossed B hS (at_law_crossed inK G c) (v4 ss hS.g hS.c dp fun _ => hS.t) w3) (v3 ss hS.g)
    two := w3
    turned := v3
    nearly := fun ss g h t o hd hz => fx_law_nearly (n := 58) B g o hd (by decide) hz (at_law_nearly inK G c) (fx_law_places B (at_law_places inK G c) 58 t [] hd (by omega) (by decide)) (fd_law_put B (at_law_put inK G c) 58) w3 (fd_law_swap (at_law_swap inK G c)) (v4 ss g h 1 fun z => absurd z (by decide)) (by decide)
    sig := nsg
    derive := e1
    deriveK := e2
    answers := fdg_law_answers (k := 79) B (by decide) (at_law_answers inK G c) w3 w9 (w7.mono (by decide)) w8 (g10.mono (by decide)) (by decide) }
theorem facts (P : Program) (w : World) {fa : Addr} (hfa : mg ("law" : Str) = some (.ref fa)) : ∃ fc : FuncData, (∀ (st : Shared) (u : Value), BindsTo st fc ⟨[u], []⟩ [(("_law_script" : Str), u)]) ∧ ∀ bs : Heap, FnG P w K mg bs 140 fa fc ["_law_script"] (spD K R_law) := by
  obtain ⟨fd, F⟩ := c.def_ 52 (d := mkD ("law", none) "law" "law" s_law)
  have e := hfa.symm.trans (He.glo_ok inK G (c.fact 50 (f := .glo "law")))
  cases e
  have F' : FnP K "law" "law" s_law (He.ga K "law") fd := F
  have b := FunD.bindsA (ps := ["_law_script"]) F' fun _ _ _ _ _ _ us hl => match us, hl with | [_], _ => rfl
  exact ⟨fd, fun st u => b st [u] rfl, fun bs => ok_law (at_bi inK G c) (all_law inK G c P w bs) F'⟩
end
end Tw
open PySem PySem.W PySem.Calls PyProof.Rows
theorem PySem.Challenge.cw_twowaysigns_k63_alike_derived_whole_holds : PySem.Challenge.rw_twowaysigns_k63_alike_derived_whole.Holds := by
  w_on; o_law
  refine HandSHeadRun.head_any (r := Tw.R) (q := view Tw.R.prog [66]) (H := Tw.hk) (ob := Tw.ob) (M := 20000) (loose := Tw.nm1 ++ Tw.nm2) (d := HandSHeadRun.topDef Tw.R.prog 66) (kwd := []) Tw.ob_eq
    (by kernel_rfl) (fun s => by kernel_rfl) Tw.run (by kernel_rfl) (by kernel_rfl) (by kernel_rfl) (by rfl) (by first | assumption | decide +kernel) (by decide +kernel) ⟨rfl, rfl, rfl, rfl, rfl, by decide +kernel⟩ ?hw ?hc
  case hw => w_witness2
  case hc =>
    refine Tw.walk_lawG (l := PySem.Challenge.rw_twowaysigns_k63_alike_derived_whole) (n := 63) (k := 140) (nm := "_law_script") rfl (by decide) (by kernel_rfl) ⟨rfl, by decide, by decide⟩ ?F
    intro w mg fa h Y G hmg0
    obtain ⟨K, inK, c⟩ := Y
    have hmg : mg ("law" : PySem.Str) = some (.ref fa) := by
      have e : (HandSHeadRun.topDef Tw.R.prog 66).name = ("law" : PySem.Str) := by kernel_rfl
      rw [← e]
      exact hmg0
    obtain ⟨fc, hb, hF⟩ := Tw.facts inK G c (PySem.Challenge.rw_twowaysigns_k63_alike_derived_whole).prog w hmg
    refine ⟨K, fc, _, inK, hb, fun Hq al xs hl _ hS => ⟨[], [.scr xs], .bool true, (fun a ha => (nomatch ha)), ⟨⟨al, rfl, Tw.seq_hm hS⟩, trivial⟩, ⟨xs, rfl, rfl⟩, fun v Hz _ r => ?_⟩, fun bs _ _ => hF bs⟩
    cases r
    rfl

