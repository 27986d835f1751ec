import PyProof.Rows.All
import Wide.All
import OpenK.AllK
import Wide.FinOn
import HandS.ForMost
import HandS.TupAny
import HandS.IsInst
import HandS.Zip
import HandS.Deep
import HandS.TupMul
import HandS.Style
import HandS.DictComp
import KE.KDictCopyH
import HandS.TupLen
import KE.KDictKeyed
import KE.KDictDisplayH
import KE.SortData
import KE.KDictSum
import HandS.Defaults
import PyProof.DictMoreH
import HandS.IterVal
import HandS.DeepEq
import PyProof.NeKinds
import PyProof.MeetsIn
import PySem.Challenge.RW_fillchairs_k23_whole_rings_judged
set_option Elab.async false
set_option linter.all false
set_option maxRecDepth 100000
/-! Fc: Python on data, by combinators, over the hand layer. -/
namespace Fc
open PySem L2
abbrev D := PyData
structure Cn where
  P : Program
  w : World
  K : PySem.W.Frag
abbrev cn (X : Cx) : Cn := ⟨X.prog, X.w, X.K⟩
def Ex (H H' : Hp) : Prop := ∀ a o, H a = some o → H' a = some o
theorem Ex.refl (H : Hp) : Ex H H := fun _ _ h => h
theorem Ex.trans {H H1 H2 : Hp} (a : Ex H H1) (b : Ex H1 H2) : Ex H H2 := fun x o h => b x o (a x o h)
theorem Ex.new {H : Hp} {p : Addr} {o : HO} (h : H p = none) : Ex H (upd H p o) := fun a u e => by
  rw [upd_ne (ne_of_none e h)]
  exact e
theorem Ex.free {H H' : Hp} (e : Ex H H') {p : Addr} (h : H' p = none) : H p = none := by
  cases q : H p with
  | none => rfl
  | some o =>
    rw [e p o q] at h
    cases h
theorem Ex.both {H H' : Hp} {p : Addr} {o : HO} (e : Ex H H') : Ex (upd H p o) (upd H' p o) := fun a u h => by
  by_cases ha : a = p
  · subst ha
    rw [upd_same] at h ⊢
    exact h
  · rw [upd_ne ha] at h ⊢
    exact e a u h
theorem Ex.rd {H H' : Hp} {a : Addr} {u : HO} (e : Ex H H') (h : Rd H a u) : Rd H' a u := by
  rcases h with h | ⟨o, h⟩
  · exact .inl (e a _ h)
  · exact .inr ⟨o, e a _ h⟩
theorem Ex.l {K : PySem.W.Frag} {H H' : Hp} {a : Addr} {xs : List V} (e : Ex H H') (h : SqL K H a xs) : SqL K H' a xs := by
  rcases h with h | h
  · exact .inl (e.rd h)
  · exact .inr h
theorem Ex.t {K : PySem.W.Frag} {H H' : Hp} {a : Addr} {xs : List V} (e : Ex H H') (h : SqT K H a xs) : SqT K H' a xs := by
  rcases h with h | h
  · exact .inl (e.rd h)
  · exact .inr h

/-! ### dicts with keys that are tuples -/
abbrev DE := NestedKey × Addr × V
def DicPhi (C : Cn) (p : Addr) (xs : List DE) (ep : Nat) (h : Heap) : Prop :=
  ∃ us : List (NestedKey × Addr × Value), Paired (fun (a : DE) (b : NestedKey × Addr × Value) => a.1 = b.1 ∧ a.2.1 = b.2.1 ∧ RelV a.2.2 b.2.2) xs us ∧
    (∃ o es, h.get? p = some o ∧ o.ExactDict ∧ o.data = .dict es ep ∧ es.toList = us.map (entryOfKey (nestedKind C.P C.w))) ∧ (xs.map (·.1)).Nodup ∧ xs.length ≤ sizeLine ∧ (p == sysModules) = false
def dicO (C : Cn) (p : Addr) (xs : List DE) (ep : Nat) : HO := .ext (DicPhi C p xs ep)
mutual
/-- a datum as a key -/
def keyOf : D → Option NestedKey
  | .none => some .none
  | .bool b => some (.num (if b = true then 1 else 0))
  | .int i => some (.num i)
  | .str x => some (.text x)
  | .tuple ds => (keysOf ds).map NestedKey.tup
  | .list _ => none
  | .dict _ => none
def keysOf : List D → Option (List NestedKey)
  | [] => some []
  | d :: ds => match keyOf d, keysOf ds with
    | some k, some ks => some (k :: ks)
    | _, _ => none
end

/-! ### what a value stands for -/
/-- dicts that are only looked at: {} and {1: 2} -/
def oddK (n : Int) : List (Key × V) := if n = 0 then [] else [(.inl 1, .int 2)]
mutual
inductive Dn (C : Cn) (B : Hp) : V → D → Prop
  | non : Dn C B .non .none
  | bl (b : Bool) : Dn C B (.bl b) (.bool b)
  | int (i : Int) : Dn C B (.int i) (.int i)
  | str (x : Str) : Dn C B (.str x) (.str x)
  | lst {a : Addr} {vs : List V} {ds : List D} : Rd B a (.lst vs) → Dns C B vs ds → Dn C B (V.ref a) (.list ds)
  | tup {a : Addr} {vs : List V} {ds : List D} : SqT C.K B a vs → Dns C B vs ds → Dn C B (V.ref a) (.tuple ds)
  | scr {a : Addr} {vs : List V} {ds : List D} : SqL C.K B a vs → Dns C B vs ds → Dn C B (V.ref a) (.dict [(.none, .list ds)])
  | dic {a : Addr} {xs : List DE} {ep : Nat} {kvs : List (D × D)} : B a = some (dicO C a xs ep) → Ents C B xs kvs → Dn C B (V.ref a) (.dict kvs)
  | odd {a : Addr} {n : Int} : B a = some (.dK (oddK n)) → Dn C B (V.ref a) (.dict [(.int n, .none)])
inductive Dns (C : Cn) (B : Hp) : List V → List D → Prop
  | nil : Dns C B [] []
  | cons {v : V} {vs : List V} {d : D} {ds : List D} : Dn C B v d → Dns C B vs ds → Dns C B (v :: vs) (d :: ds)
inductive Ents (C : Cn) (B : Hp) : List DE → List (D × D) → Prop
  | nil : Ents C B [] []
  | cons {n : NestedKey} {a : Addr} {v : V} {xs : List DE} {k d : D} {kvs : List (D × D)} : Dn C B (V.ref a) k → keyOf k = some n → n.depth ≤ 8 → Dn C B v d → Ents C B xs kvs → Ents C B ((n, a, v) :: xs) ((k, d) :: kvs)
end
section
variable {C : Cn} {B B' : Hp}
mutual
theorem Dn.mono (e : Ex B B') : ∀ {v : V} {d : D}, Dn C B v d → Dn C B' v d
  | _, _, .non => .non
  | _, _, .bl b => .bl b
  | _, _, .int i => .int i
  | _, _, .str x => .str x
  | _, _, .lst h hs => .lst (e.rd h) (Dns.mono e hs)
  | _, _, .tup h hs => .tup (e.t h) (Dns.mono e hs)
  | _, _, .scr h hs => .scr (e.l h) (Dns.mono e hs)
  | _, _, .dic h hs => .dic (e _ _ h) (Ents.mono e hs)
  | _, _, .odd h => .odd (e _ _ h)
theorem Dns.mono (e : Ex B B') : ∀ {vs : List V} {ds : List D}, Dns C B vs ds → Dns C B' vs ds
  | _, _, .nil => .nil
  | _, _, .cons h hs => .cons (Dn.mono e h) (Dns.mono e hs)
theorem Ents.mono (e : Ex B B') : ∀ {xs : List DE} {kvs : List (D × D)}, Ents C B xs kvs → Ents C B' xs kvs
  | _, _, .nil => .nil
  | _, _, .cons h q z h2 hs => .cons (Dn.mono e h) q z (Dn.mono e h2) (Ents.mono e hs)
end
theorem Dns.length : ∀ {vs : List V} {ds : List D}, Dns C B vs ds → vs.length = ds.length
  | _, _, .nil => rfl
  | _, _, .cons _ hs => by simp [Dns.length hs]
theorem Dns.get : ∀ {vs : List V} {ds : List D} {i : Nat} {d : D}, Dns C B vs ds → ds[i]? = some d → ∃ v, vs[i]? = some v ∧ Dn C B v d
  | _, _, i, d, .nil, h => by simp at h
  | _, _, 0, d, .cons h _, e => by
    simp at e
    subst e
    exact ⟨_, rfl, h⟩
  | _, _, i + 1, d, .cons _ hs, e => by
    obtain ⟨v, h1, h2⟩ := Dns.get (i := i) hs (by simpa using e)
    exact ⟨v, by simpa using h1, h2⟩
theorem Dns.got : ∀ {vs : List V} {ds : List D} {i : Nat} {v : V}, Dns C B vs ds → vs[i]? = some v → ∃ d, ds[i]? = some d ∧ Dn C B v d
  | _, _, i, v, .nil, h => by simp at h
  | _, _, 0, v, .cons h _, e => by
    simp at e
    subst e
    exact ⟨_, rfl, h⟩
  | _, _, i + 1, v, .cons _ hs, e => by
    obtain ⟨d, h1, h2⟩ := Dns.got (i := i) hs (by simpa using e)
    exact ⟨d, by simpa using h1, h2⟩
theorem Dns.append : ∀ {vs us : List V} {ds es : List D}, Dns C B vs ds → Dns C B us es → Dns C B (vs ++ us) (ds ++ es)
  | _, _, _, _, .nil, h => h
  | _, _, _, _, .cons h hs, q => .cons h (Dns.append hs q)
theorem Dns.take : ∀ {vs : List V} {ds : List D} (n : Nat), Dns C B vs ds → Dns C B (vs.take n) (ds.take n)
  | _, _, 0, _ => .nil
  | _, _, _ + 1, .nil => .nil
  | _, _, n + 1, .cons h hs => .cons h (Dns.take n hs)
theorem Dns.drop : ∀ {vs : List V} {ds : List D} (n : Nat), Dns C B vs ds → Dns C B (vs.drop n) (ds.drop n)
  | _, _, 0, h => h
  | _, _, _ + 1, .nil => .nil
  | _, _, n + 1, .cons _ hs => Dns.drop n hs
theorem Dns.set {v : V} {d : D} (h : Dn C B v d) : ∀ {vs : List V} {ds : List D} (i : Nat), Dns C B vs ds → Dns C B (vs.set i v) (ds.set i d)
  | _, _, _, .nil => .nil
  | _, _, 0, .cons _ hs => .cons h hs
  | _, _, i + 1, .cons g hs => .cons g (Dns.set h i hs)
theorem Dns.reverse : ∀ {vs : List V} {ds : List D}, Dns C B vs ds → Dns C B vs.reverse ds.reverse
  | _, _, .nil => .nil
  | _, _, .cons h hs => by
    rw [List.reverse_cons, List.reverse_cons]
    exact Dns.append (Dns.reverse hs) (.cons h .nil)
theorem Dns.dropLast : ∀ {vs : List V} {ds : List D}, Dns C B vs ds → Dns C B vs.dropLast ds.dropLast
  | _, _, .nil => .nil
  | _, _, .cons h .nil => .nil
  | _, _, .cons h (.cons g hs) => .cons h (Dns.dropLast (.cons g hs))
theorem Dns.rep {vs : List V} {ds : List D} (h : Dns C B vs ds) : ∀ k : Nat, Dns C B (List.replicate k vs).flatten (List.replicate k ds).flatten
  | 0 => .nil
  | k + 1 => by
    rw [List.replicate_succ, List.replicate_succ, List.flatten_cons, List.flatten_cons]
    exact Dns.append h (Dns.rep h k)
theorem Dns.ints : ∀ {vs : List V} {ns : List Int}, Dns C B vs (ns.map PyData.int) → vs = ns.map V.int
  | _, [], h => by cases h; rfl
  | _, n :: ns, h => by
    have h' : Dns C B _ (PyData.int n :: ns.map PyData.int) := h
    cases h' with
    | cons g hs =>
      cases g
      rw [Dns.ints hs]
      rfl
theorem Dns.bools : ∀ {vs : List V} {ns : List Bool}, Dns C B vs (ns.map PyData.bool) → vs = ns.map V.bl
  | _, [], h => by cases h; rfl
  | _, n :: ns, h => by
    have h' : Dns C B _ (PyData.bool n :: ns.map PyData.bool) := h
    cases h' with
    | cons g hs =>
      cases g
      rw [Dns.bools hs]
      rfl
theorem Dns.of_ints : ∀ (ns : List Int), Dns C B (ns.map V.int) (ns.map PyData.int)
  | [] => .nil
  | n :: ns => .cons (.int n) (Dns.of_ints ns)
end

/-! ### the names' state -/
inductive Sl where
  | em
  | sh (d : D)
  | ow (d : D)
  | io (d : D)
  | bo (d : D)
abbrev En := List Sl
def Sl.own : Option Sl → Prop
  | some (.ow _) => True
  | some (.io _) => True
  | _ => False
def slD : Option Sl → Option D
  | some (.sh d) => some d
  | some (.ow d) => some d
  | some (.io d) => some d
  | some (.bo d) => some d
  | _ => none
structure Fr0 where
  H0 : Hp
  B0 : Hp
  ios : List (Nat × Addr)
  tmp : Hp
  bos : List (Nat × Addr)
def OwnAt (C : Cn) (B H : Hp) (p : Addr) : D → Prop
  | .list ds => ∃ vs, H p = some (.lst vs) ∧ Dns C B vs ds
  | .dict kvs => ∃ xs ep, H p = some (dicO C p xs ep) ∧ Ents C B xs kvs
  | _ => False
def SlOk (C : Cn) (f : Fr0) (B H : Hp) (ov : Option (Option V)) (i : Nat) : Sl → Prop
  | .em => True
  | .sh d => ∃ v, ov = some (some v) ∧ Dn C B v d
  | .ow d => ∃ p, ov = some (some (V.ref p)) ∧ f.H0 p = none ∧ B p = none ∧ OwnAt C B H p d
  | .io d => ∃ p, (i, p) ∈ f.ios ∧ ov = some (some (V.ref p)) ∧ f.H0 p ≠ none ∧ B p = none ∧ OwnAt C B H p d
  | .bo d => ∃ p, (i, p) ∈ f.bos ∧ ov = some (some (V.ref p)) ∧ OwnAt C B H p d
structure Stt (C : Cn) (f : Fr0) (B : Hp) (σ : L2.St) (H : Hp) (ρ : En) : Prop where
  b0 : Ex f.B0 B
  bh : Ex B H
  old : ∀ a, f.H0 a ≠ none → H a ≠ none
  nw : ∀ a, f.H0 a ≠ none → f.B0 a = none → B a = none
  keep : ∀ a o, f.H0 a = some o → a ∉ f.ios.map (·.2) → H a = some o
  len : σ.length = ρ.length
  sl : ∀ (i : Nat) (s : Sl), ρ[i]? = some s → SlOk C f B H σ[i]? i s
  dis : ∀ (i j : Nat) (p : Addr), Sl.own ρ[i]? → Sl.own ρ[j]? → σ[i]? = some (some (V.ref p)) → σ[j]? = some (some (V.ref p)) → i = j
  iof : ∀ q ∈ f.ios, ∃ d, ρ[q.1]? = some (.io d)
  tm : ∀ a o, f.tmp a = some o → H a = some o ∧ B a = none ∧ ∀ i : Nat, Sl.own ρ[i]? → σ[i]? ≠ some (some (V.ref a))
  ifn : ∀ q ∈ f.ios, ∀ q' ∈ f.ios, q.1 = q'.1 → q.2 = q'.2
  bs : ∀ q ∈ f.bos, ∃ o, f.tmp q.2 = some o
section
variable {C : Cn} {f : Fr0} {B B' H H' : Hp} {σ σ' : L2.St} {ρ ρ' : En} {p : Addr} {o : HO} {v : V} {d : D} {i : Nat}
theorem OwnAt.got (h : OwnAt C B H p d) : ∃ o, H p = some o := by
  cases d with
  | list ds => obtain ⟨vs, e, _⟩ := h; exact ⟨_, e⟩
  | dict kvs => obtain ⟨xs, ep, e, _⟩ := h; exact ⟨_, e⟩
  | _ => exact h.elim
theorem OwnAt.mono (e : Ex B B') (k : ∀ o, H p = some o → H' p = some o) (h : OwnAt C B H p d) : OwnAt C B' H' p d := by
  cases d with
  | list ds => obtain ⟨vs, q, z⟩ := h; exact ⟨vs, k _ q, z.mono e⟩
  | dict kvs => obtain ⟨xs, ep, q, z⟩ := h; exact ⟨xs, ep, k _ q, z.mono e⟩
  | _ => exact h.elim
theorem Stt.own_free (S : Stt C f B σ H ρ) (h : Sl.own ρ[i]?) (e : σ[i]? = some (some (V.ref p))) : B p = none := by
  cases q : ρ[i]? with
  | none => rw [q] at h; exact h.elim
  | some s =>
    have z := S.sl i s q
    rw [q] at h
    cases s with
    | em => exact h.elim
    | bo _ => exact h.elim
    | sh _ => exact h.elim
    | ow d =>
      obtain ⟨p', e', _, hb, _⟩ := z
      rw [e] at e'
      cases e'
      exact hb
    | io d =>
      obtain ⟨p', _, e', _, hb, _⟩ := z
      rw [e] at e'
      cases e'
      exact hb
theorem Stt.own_there (S : Stt C f B σ H ρ) (h : Sl.own ρ[i]?) (e : σ[i]? = some (some (V.ref p))) : ∃ o, H p = some o := by
  cases q : ρ[i]? with
  | none => rw [q] at h; exact h.elim
  | some s =>
    have z := S.sl i s q
    rw [q] at h
    cases s with
    | em => exact h.elim
    | bo _ => exact h.elim
    | sh _ => exact h.elim
    | ow d =>
      obtain ⟨p', e', _, hb, ho⟩ := z
      rw [e] at e'
      cases e'
      exact ho.got
    | io d =>
      obtain ⟨p', _, e', _, hb, ho⟩ := z
      rw [e] at e'
      cases e'
      exact ho.got
theorem Stt.h0_free (S : Stt C f B σ H ρ) (n : H p = none) : f.H0 p = none := by
  cases q : f.H0 p with
  | none => rfl
  | some o => exact absurd n (S.old p (by rw [q]; exact fun z => nomatch z))
/-- B, H grow; what slots own stays -/
theorem Stt.grow (S : Stt C f B σ H ρ) (eb : Ex B B') (bh : Ex B' H') (eh : Ex H H') (nb : ∀ a, H a ≠ none → B a = none → B' a = none) : Stt C f B' σ H' ρ where
  b0 := S.b0.trans eb
  bh := bh
  old := fun a h => by
    have := S.old a h
    cases q : H a with
    | none => exact absurd q this
    | some o => rw [eh a o q]; exact fun z => nomatch z
  nw := fun a h1 h2 => nb a (S.old a h1) (S.nw a h1 h2)
  keep := fun a o h1 h2 => eh a o (S.keep a o h1 h2)
  len := S.len
  sl := fun i s h => by
    have z := S.sl i s h
    cases s with
    | em => trivial
    | bo d => obtain ⟨p, hi, e, ho⟩ := z; exact ⟨p, hi, e, ho.mono eb fun o q => eh p o q⟩
    | sh d => obtain ⟨v, e, q⟩ := z; exact ⟨v, e, q.mono eb⟩
    | ow d =>
      obtain ⟨p, e, h0, hb, ho⟩ := z
      refine ⟨p, e, h0, nb p ?_ hb, ho.mono eb fun o q => eh p o q⟩
      obtain ⟨o, q⟩ := ho.got
      rw [q]
      exact fun z => nomatch z
    | io d =>
      obtain ⟨p, hi, e, h0, hb, ho⟩ := z
      refine ⟨p, hi, e, h0, nb p ?_ hb, ho.mono eb fun o q => eh p o q⟩
      obtain ⟨o, q⟩ := ho.got
      rw [q]
      exact fun z => nomatch z
  dis := S.dis
  iof := S.iof
  ifn := S.ifn
  bs := S.bs
  tm := fun a o h => by
    obtain ⟨h1, h2, h3⟩ := S.tm a o h
    exact ⟨eh a o h1, nb a (by rw [h1]; exact fun z => nomatch z) h2, h3⟩
theorem Stt.tm_free (S : Stt C f B σ H ρ) (n : H p = none) : f.tmp p = none := by
  cases q : f.tmp p with
  | none => rfl
  | some o =>
    have := (S.tm p o q).1
    rw [n] at this
    cases this
/-- a new shared object -/
theorem Stt.alloc (S : Stt C f B σ H ρ) (n : H p = none) : Stt C f (upd B p o) σ (upd H p o) ρ := by
  have nb : B p = none := S.bh.free n
  refine S.grow (Ex.new nb) S.bh.both (Ex.new n) fun a ha hb => ?_
  have : a ≠ p := fun e => ha (by rw [e]; exact n)
  rw [upd_ne this]
  exact hb
/-- a new object that nobody knows yet -/
theorem Stt.allocO (S : Stt C f B σ H ρ) (n : H p = none) : Stt C f B σ (upd H p o) ρ :=
  S.grow (Ex.refl B) (S.bh.trans (Ex.new n)) (Ex.new n) fun _ _ h => h
/-- an object that no slot owns is shared from now on -/
theorem Stt.share (S : Stt C f B σ H ρ) (e : H p = some o) (h0 : f.H0 p = none) (ht : f.tmp p = none) (hb : B p = none) (hn : ∀ i : Nat, Sl.own ρ[i]? → σ[i]? ≠ some (some (V.ref p))) : Stt C f (upd B p o) σ H ρ where
  b0 := S.b0.trans (Ex.new hb)
  bh := fun a u q => by
    by_cases ha : a = p
    · subst ha
      rw [upd_same] at q
      rw [e]
      exact q
    · rw [upd_ne ha] at q
      exact S.bh a u q
  old := S.old
  nw := fun a h1 h2 => by
    have : a ≠ p := fun z => h1 (by rw [z]; exact h0)
    rw [upd_ne this]
    exact S.nw a h1 h2
  keep := S.keep
  len := S.len
  sl := fun i s h => by
    have z := S.sl i s h
    cases s with
    | em => trivial
    | bo d => obtain ⟨q, hi, e, ho⟩ := z; exact ⟨q, hi, e, ho.mono (Ex.new hb) fun _ z => z⟩
    | sh d => obtain ⟨v, e, q⟩ := z; exact ⟨v, e, q.mono (Ex.new hb)⟩
    | ow d =>
      obtain ⟨q, e1, h01, hb1, ho⟩ := z
      have hq : q ≠ p := fun z => hn i (by rw [h]; trivial) (by rw [e1, z])
      exact ⟨q, e1, h01, by rw [upd_ne hq]; exact hb1, ho.mono (Ex.new hb) fun _ z => z⟩
    | io d =>
      obtain ⟨q, hi, e1, h01, hb1, ho⟩ := z
      have hq : q ≠ p := fun z => hn i (by rw [h]; trivial) (by rw [e1, z])
      exact ⟨q, hi, e1, h01, by rw [upd_ne hq]; exact hb1, ho.mono (Ex.new hb) fun _ z => z⟩
  dis := S.dis
  iof := S.iof
  ifn := S.ifn
  bs := S.bs
  tm := fun a o h => by
    obtain ⟨h1, h2, h3⟩ := S.tm a o h
    have : a ≠ p := fun z => by rw [z, ht] at h; cases h
    exact ⟨h1, by rw [upd_ne this]; exact h2, h3⟩
/-- a slot is set to a shared value, or forgotten -/
theorem Stt.setSh (S : Stt C f B σ H ρ) (hv : Dn C B v d) (hi : ∀ d, ρ[i]? ≠ some (.io d)) : Stt C f B (σ.set i (some v)) H (ρ.set i (.sh d)) where
  b0 := S.b0
  bh := S.bh
  old := S.old
  nw := S.nw
  keep := S.keep
  len := by rw [List.length_set, List.length_set]; exact S.len
  sl := fun j s h => by
    by_cases hj : i = j
    · subst hj
      by_cases hl : i < ρ.length
      · rw [List.getElem?_set_self hl] at h
        cases h
        rw [List.getElem?_set_self (by rw [S.len]; exact hl)]
        exact ⟨v, rfl, hv⟩
      · rw [List.getElem?_eq_none (by rw [List.length_set]; omega)] at h
        cases h
    · rw [List.getElem?_set_ne hj] at h
      rw [List.getElem?_set_ne hj]
      exact S.sl j s h
  dis := fun j k p h1 h2 e1 e2 => by
    by_cases hj : i = j
    · subst hj
      by_cases hl : i < ρ.length
      · rw [List.getElem?_set_self hl] at h1
        exact h1.elim
      · rw [List.getElem?_eq_none (by rw [List.length_set]; omega)] at h1
        exact h1.elim
    · by_cases hk : i = k
      · subst hk
        by_cases hl : i < ρ.length
        · rw [List.getElem?_set_self hl] at h2
          exact h2.elim
        · rw [List.getElem?_eq_none (by rw [List.length_set]; omega)] at h2
          exact h2.elim
      · rw [List.getElem?_set_ne hj] at h1 e1
        rw [List.getElem?_set_ne hk] at h2 e2
        exact S.dis j k p h1 h2 e1 e2
  iof := fun q hq => by
    obtain ⟨d', e⟩ := S.iof q hq
    by_cases hj : i = q.1
    · subst hj
      exact absurd e (hi d')
    · exact ⟨d', by rw [List.getElem?_set_ne hj]; exact e⟩
  ifn := S.ifn
  bs := S.bs
  tm := fun a o h => by
    obtain ⟨h1, h2, h3⟩ := S.tm a o h
    refine ⟨h1, h2, fun j hj e => ?_⟩
    by_cases hij : i = j
    · subst hij
      by_cases hl : i < ρ.length
      · rw [List.getElem?_set_self hl] at hj
        exact hj.elim
      · rw [List.getElem?_eq_none (by rw [List.length_set]; omega)] at hj
        exact hj.elim
    · rw [List.getElem?_set_ne hij] at hj e
      exact h3 j hj e
/-- slots are forgotten: the frame's values there may be any -/
theorem Stt.forget (S : Stt C f B σ H ρ) (hl : σ'.length = ρ'.length) (h : ∀ (j : Nat) (s : Sl), ρ'[j]? = some s → s = .em ∨ (ρ[j]? = some s ∧ σ'[j]? = σ[j]?)) (hi : ∀ q ∈ f.ios, ∃ d, ρ'[q.1]? = some (.io d)) : Stt C f B σ' H ρ' where
  b0 := S.b0
  bh := S.bh
  old := S.old
  nw := S.nw
  keep := S.keep
  len := hl
  sl := fun j s e => by
    rcases h j s e with rfl | ⟨e1, e2⟩
    · trivial
    · rw [e2]
      exact S.sl j s e1
  dis := fun j k p h1 h2 e1 e2 => by
    cases q1 : ρ'[j]? with
    | none => rw [q1] at h1; exact h1.elim
    | some s1 =>
      cases q2 : ρ'[k]? with
      | none => rw [q2] at h2; exact h2.elim
      | some s2 =>
        rw [q1] at h1
        rw [q2] at h2
        rcases h j s1 q1 with rfl | ⟨a1, a2⟩
        · exact h1.elim
        · rcases h k s2 q2 with rfl | ⟨b1, b2⟩
          · exact h2.elim
          · rw [a2] at e1
            rw [b2] at e2
            exact S.dis j k p (by rw [a1]; exact h1) (by rw [b1]; exact h2) e1 e2
  iof := hi
  ifn := S.ifn
  bs := S.bs
  tm := fun a o ha => by
    obtain ⟨h1, h2, h3⟩ := S.tm a o ha
    refine ⟨h1, h2, fun j hj e => ?_⟩
    cases q1 : ρ'[j]? with
    | none => rw [q1] at hj; exact hj.elim
    | some s1 =>
      rw [q1] at hj
      rcases h j s1 q1 with rfl | ⟨a1, a2⟩
      · exact hj.elim
      · rw [a2] at e
        exact h3 j (by rw [a1]; exact hj) e
/-- a slot takes a new object of its own -/
theorem Stt.setOw (S : Stt C f B σ H ρ) (h0 : f.H0 p = none) (ht : f.tmp p = none) (hb : B p = none) (ho : OwnAt C B H p d) (hn : ∀ j : Nat, Sl.own ρ[j]? → σ[j]? ≠ some (some (V.ref p))) (hi : ∀ d, ρ[i]? ≠ some (.io d)) :
    Stt C f B (σ.set i (some (V.ref p))) H (ρ.set i (.ow d)) where
  b0 := S.b0
  bh := S.bh
  old := S.old
  nw := S.nw
  keep := S.keep
  len := by rw [List.length_set, List.length_set]; exact S.len
  sl := fun j s h => by
    by_cases hj : i = j
    · subst hj
      by_cases hl : i < ρ.length
      · rw [List.getElem?_set_self hl] at h
        cases h
        rw [List.getElem?_set_self (by rw [S.len]; exact hl)]
        exact ⟨p, rfl, h0, hb, ho⟩
      · rw [List.getElem?_eq_none (by rw [List.length_set]; omega)] at h
        cases h
    · rw [List.getElem?_set_ne hj] at h
      rw [List.getElem?_set_ne hj]
      exact S.sl j s h
  dis := fun j k q h1 h2 e1 e2 => by
    by_cases hj : i = j
    · subst hj
      by_cases hl : i < ρ.length
      · rw [List.getElem?_set_self (by rw [S.len]; exact hl)] at e1
        cases e1
        by_cases hk : i = k
        · exact hk
        · rw [List.getElem?_set_ne hk] at h2 e2
          exact absurd e2 (hn k h2)
      · rw [List.getElem?_eq_none (by rw [List.length_set]; omega)] at h1
        exact h1.elim
    · by_cases hk : i = k
      · subst hk
        by_cases hl : i < ρ.length
        · rw [List.getElem?_set_self (by rw [S.len]; exact hl)] at e2
          cases e2
          rw [List.getElem?_set_ne hj] at h1 e1
          exact absurd e1 (hn j h1)
        · rw [List.getElem?_eq_none (by rw [List.length_set]; omega)] at h2
          exact h2.elim
      · rw [List.getElem?_set_ne hj] at h1 e1
        rw [List.getElem?_set_ne hk] at h2 e2
        exact S.dis j k q h1 h2 e1 e2
  iof := fun q hq => by
    obtain ⟨d', e⟩ := S.iof q hq
    by_cases hj : i = q.1
    · subst hj
      exact absurd e (hi d')
    · exact ⟨d', by rw [List.getElem?_set_ne hj]; exact e⟩
  ifn := S.ifn
  bs := S.bs
  tm := fun a o h => by
    obtain ⟨h1, h2, h3⟩ := S.tm a o h
    refine ⟨h1, h2, fun j hj e => ?_⟩
    by_cases hij : i = j
    · subst hij
      by_cases hl : i < ρ.length
      · rw [List.getElem?_set_self (by rw [S.len]; exact hl)] at e
        cases e
        rw [ht] at h
        cases h
      · rw [List.getElem?_eq_none (by rw [List.length_set]; omega)] at hj
        exact hj.elim
    · rw [List.getElem?_set_ne hij] at hj e
      exact h3 j hj e
/-- temporaries are told, and forgotten again -/
theorem Stt.tell (S : Stt C f B σ H ρ) (e : H p = some o) (hb : B p = none) (hn : ∀ i : Nat, Sl.own ρ[i]? → σ[i]? ≠ some (some (V.ref p))) : Stt C { f with tmp := upd f.tmp p o } B σ H ρ where
  b0 := S.b0
  bh := S.bh
  old := S.old
  nw := S.nw
  keep := S.keep
  len := S.len
  sl := fun i s h => by
    have z := S.sl i s h
    cases s <;> exact z
  dis := S.dis
  iof := S.iof
  ifn := S.ifn
  bs := fun q hq => by
    obtain ⟨o2, h2⟩ := S.bs q hq
    by_cases ha : q.2 = p
    · exact ⟨o, by show upd f.tmp p o q.2 = _; rw [ha, upd_same]⟩
    · exact ⟨o2, by show upd f.tmp p o q.2 = _; rw [upd_ne ha]; exact h2⟩
  tm := fun a u h => by
    by_cases ha : a = p
    · subst ha
      have h' : upd f.tmp a o a = some u := h
      rw [upd_same] at h'
      cases h'
      exact ⟨e, hb, hn⟩
    · have h' : upd f.tmp p o a = some u := h
      rw [upd_ne ha] at h'
      exact S.tm a u h'
theorem Stt.untell {t : Hp} (S : Stt C { f with tmp := t } B σ H ρ) (e : Ex f.tmp t) (hbs : ∀ q ∈ f.bos, ∃ o, f.tmp q.2 = some o) : Stt C f B σ H ρ where
  b0 := S.b0
  bh := S.bh
  old := S.old
  nw := S.nw
  keep := S.keep
  len := S.len
  sl := fun i s h => by
    have z := S.sl i s h
    cases s <;> exact z
  dis := S.dis
  iof := S.iof
  ifn := S.ifn
  bs := hbs
  tm := fun a u h => S.tm a u (e a u h)
/-- an object that no slot owns and that is not shared is changed -/
theorem Stt.touch (S : Stt C f B σ H ρ) (h0 : f.H0 p = none) (ht : f.tmp p = none) (hb : B p = none) (hn : ∀ i : Nat, Sl.own ρ[i]? → σ[i]? ≠ some (some (V.ref p))) : Stt C f B σ (upd H p o) ρ where
  b0 := S.b0
  bh := fun a u h => by
    have : a ≠ p := fun z => by rw [z, hb] at h; cases h
    rw [upd_ne this]
    exact S.bh a u h
  old := fun a h => by
    by_cases ha : a = p
    · subst ha
      rw [upd_same]
      exact fun z => nomatch z
    · rw [upd_ne ha]
      exact S.old a h
  nw := S.nw
  keep := fun a u h hi => by
    have : a ≠ p := fun z => by rw [z, h0] at h; cases h
    rw [upd_ne this]
    exact S.keep a u h hi
  len := S.len
  sl := fun i s h => by
    have z := S.sl i s h
    cases s with
    | em => trivial
    | bo d =>
      obtain ⟨q, hi, e, ho⟩ := z
      obtain ⟨o2, ht2⟩ := S.bs _ hi
      have hq : q ≠ p := fun z => by rw [show (i, q).2 = q from rfl, z, ht] at ht2; cases ht2
      exact ⟨q, hi, e, ho.mono (Ex.refl B) fun u z => by rw [upd_ne hq]; exact z⟩
    | sh d => exact z
    | ow d =>
      obtain ⟨q, e, h0, hb, ho⟩ := z
      have hq : q ≠ p := fun z => hn i (by rw [h]; trivial) (by rw [e, z])
      exact ⟨q, e, h0, hb, ho.mono (Ex.refl B) fun u z => by rw [upd_ne hq]; exact z⟩
    | io d =>
      obtain ⟨q, hi, e, h0, hb, ho⟩ := z
      have hq : q ≠ p := fun z => hn i (by rw [h]; trivial) (by rw [e, z])
      exact ⟨q, hi, e, h0, hb, ho.mono (Ex.refl B) fun u z => by rw [upd_ne hq]; exact z⟩
  dis := S.dis
  iof := S.iof
  ifn := S.ifn
  bs := S.bs
  tm := fun a u h => by
    obtain ⟨h1, h2, h3⟩ := S.tm a u h
    have : a ≠ p := fun z => by rw [z, ht] at h; cases h
    exact ⟨by rw [upd_ne this]; exact h1, h2, h3⟩
/-- what a slot owns is changed -/
def Sl.put : Sl → D → Sl
  | .ow _, d => .ow d
  | .io _, d => .io d
  | s, _ => s
theorem Sl.put_own {s : Sl} {d : D} : Sl.own (some (s.put d)) ↔ Sl.own (some s) := by
  cases s <;> rfl
theorem Stt.mut {s : Sl} (S : Stt C f B σ H ρ) (hs : ρ[i]? = some s) (hw : Sl.own (some s)) (e : σ[i]? = some (some (V.ref p))) (ho : OwnAt C B (upd H p o) p d) : Stt C f B σ (upd H p o) (ρ.set i (s.put d)) := by
  have hl : i < ρ.length := (List.getElem?_eq_some_iff.mp hs).1
  have hb : B p = none := S.own_free (by rw [hs]; exact hw) e
  have htm : f.tmp p = none := by
    cases q : f.tmp p with
    | none => rfl
    | some u => exact absurd e ((S.tm p u q).2.2 i (by rw [hs]; exact hw))
  have own_iff : ∀ j : Nat, Sl.own (ρ.set i (s.put d))[j]? ↔ Sl.own ρ[j]? := fun j => by
    by_cases hj : i = j
    · subst hj
      rw [List.getElem?_set_self hl, hs]
      exact Sl.put_own
    · rw [List.getElem?_set_ne hj]
  have h0io : f.H0 p = none ∨ (i, p) ∈ f.ios := by
    have z := S.sl i s hs
    cases s with
    | em => exact hw.elim
    | bo _ => exact hw.elim
    | sh _ => exact hw.elim
    | ow _ =>
      obtain ⟨q, e1, h0, _⟩ := z
      rw [e] at e1
      cases e1
      exact .inl h0
    | io _ =>
      obtain ⟨q, hi, e1, _⟩ := z
      rw [e] at e1
      cases e1
      exact .inr hi
  exact {
    b0 := S.b0
    bh := fun a u h => by
      have : a ≠ p := fun z => by rw [z, hb] at h; cases h
      rw [upd_ne this]
      exact S.bh a u h
    old := fun a h => by
      by_cases ha : a = p
      · subst ha
        rw [upd_same]
        exact fun z => nomatch z
      · rw [upd_ne ha]
        exact S.old a h
    nw := S.nw
    keep := fun a u h hi => by
      have : a ≠ p := fun z => by
        subst z
        rcases h0io with q | q
        · rw [q] at h; cases h
        · exact hi (List.mem_map.mpr ⟨_, q, rfl⟩)
      rw [upd_ne this]
      exact S.keep a u h hi
    len := by rw [List.length_set]; exact S.len
    sl := fun j t h => by
      by_cases hj : i = j
      · subst hj
        rw [List.getElem?_set_self hl] at h
        cases h
        have z := S.sl i s hs
        cases s with
        | em => exact hw.elim
        | bo _ => exact hw.elim
        | sh _ => exact hw.elim
        | ow _ =>
          obtain ⟨q, e1, h0, hb, _⟩ := z
          rw [e] at e1
          cases e1
          exact ⟨p, e, h0, hb, ho⟩
        | io _ =>
          obtain ⟨q, hi, e1, h0, hb, _⟩ := z
          rw [e] at e1
          cases e1
          exact ⟨p, hi, e, h0, hb, ho⟩
      · rw [List.getElem?_set_ne hj] at h
        have z := S.sl j t h
        have ne : ∀ q, Sl.own ρ[j]? → σ[j]? = some (some (V.ref q)) → q ≠ p := fun q hq e1 z => hj (S.dis i j p (by rw [hs]; exact hw) hq e (by rw [e1, z]))
        cases t with
        | em => trivial
        | bo d =>
          obtain ⟨q, hi, e1, ho⟩ := z
          obtain ⟨o2, ht2⟩ := S.bs _ hi
          have hq : q ≠ p := fun z => by rw [show (j, q).2 = q from rfl, z, htm] at ht2; cases ht2
          exact ⟨q, hi, e1, ho.mono (Ex.refl B) fun u z => by rw [upd_ne hq]; exact z⟩
        | sh d => exact z
        | ow d =>
          obtain ⟨q, e1, h0, hb, ho⟩ := z
          have hq := ne q (by rw [h]; trivial) e1
          exact ⟨q, e1, h0, hb, ho.mono (Ex.refl B) fun u z => by rw [upd_ne hq]; exact z⟩
        | io d =>
          obtain ⟨q, hi, e1, h0, hb, ho⟩ := z
          have hq := ne q (by rw [h]; trivial) e1
          exact ⟨q, hi, e1, h0, hb, ho.mono (Ex.refl B) fun u z => by rw [upd_ne hq]; exact z⟩
    dis := fun j k q h1 h2 => S.dis j k q ((own_iff j).mp h1) ((own_iff k).mp h2)
    iof := fun q hq => by
      obtain ⟨d', e1⟩ := S.iof q hq
      by_cases hj : i = q.1
      · subst hj
        rw [hs] at e1
        cases e1
        exact ⟨d, List.getElem?_set_self hl⟩
      · exact ⟨d', by rw [List.getElem?_set_ne hj]; exact e1⟩
    ifn := S.ifn
    bs := S.bs
    tm := fun a u h => by
      obtain ⟨h1, h2, h3⟩ := S.tm a u h
      have : a ≠ p := fun z => by rw [z, htm] at h; cases h
      exact ⟨by rw [upd_ne this]; exact h1, h2, fun j hj => h3 j ((own_iff j).mp hj)⟩ }
/-! ### a slot's object is lent -/
def borF (f : Fr0) (i : Nat) (p : Addr) (o : HO) : Fr0 := ⟨upd f.H0 p o, f.B0, f.ios.filter (fun q => decide (q.1 ≠ i)), upd f.tmp p o, (i, p) :: f.bos.filter (fun q => decide (q.1 ≠ i))⟩
theorem Stt.bor {s : Sl} (S : Stt C f B σ H ρ) (hs : ρ[i]? = some s) (hw : Sl.own (some s)) (hd : slD (some s) = some d) : ∃ p o, H p = some o ∧ B p = none ∧ σ[i]? = some (some (V.ref p)) ∧ OwnAt C B H p d ∧ f.tmp p = none ∧ (f.H0 p = none ∨ (i, p) ∈ f.ios) ∧ Stt C (borF f i p o) B σ H (ρ.set i (.bo d)) := by
  have hl : i < ρ.length := (List.getElem?_eq_some_iff.mp hs).1
  obtain ⟨p, e, ho, h0io⟩ : ∃ p, σ[i]? = some (some (V.ref p)) ∧ OwnAt C B H p d ∧ (f.H0 p = none ∨ (i, p) ∈ f.ios) := by
    have z := S.sl i s hs
    cases s with
    | em => exact hw.elim
    | sh _ => exact hw.elim
    | bo _ => exact hw.elim
    | ow d' => cases hd; obtain ⟨p, e, h0, _, ho⟩ := z; exact ⟨p, e, ho, .inl h0⟩
    | io d' => cases hd; obtain ⟨p, hi, e, _, _, ho⟩ := z; exact ⟨p, e, ho, .inr hi⟩
  have hb : B p = none := S.own_free (by rw [hs]; exact hw) e
  have htm : f.tmp p = none := by
    cases q : f.tmp p with
    | none => rfl
    | some u => exact absurd e ((S.tm p u q).2.2 i (by rw [hs]; exact hw))
  obtain ⟨o, hp⟩ := ho.got
  have oth : ∀ (j : Nat) (q : Addr), i ≠ j → Sl.own ρ[j]? → σ[j]? = some (some (V.ref q)) → q ≠ p := fun j q hj hq e1 z => hj (S.dis i j p (by rw [hs]; exact hw) hq e (by rw [e1, z]))
  have own_imp : ∀ j : Nat, Sl.own (ρ.set i (.bo d))[j]? → i ≠ j ∧ Sl.own ρ[j]? := fun j hj => by
    by_cases h : i = j
    · subst h
      rw [List.getElem?_set_self hl] at hj
      exact hj.elim
    · rw [List.getElem?_set_ne h] at hj
      exact ⟨h, hj⟩
  refine ⟨p, o, hp, hb, e, ho, htm, h0io, ?_⟩
  exact {
    b0 := S.b0
    bh := S.bh
    old := fun a h => by
      by_cases ha : a = p
      · rw [ha, hp]; exact fun z => nomatch z
      · exact S.old a (by have h' : upd f.H0 p o a ≠ none := h; rw [upd_ne ha] at h'; exact h')
    nw := fun a h1 h2 => by
      by_cases ha : a = p
      · rw [ha]; exact hb
      · exact S.nw a (by have h' : upd f.H0 p o a ≠ none := h1; rw [upd_ne ha] at h'; exact h') h2
    keep := fun a u h1 h2 => by
      have h1' : upd f.H0 p o a = some u := h1
      by_cases ha : a = p
      · subst ha
        rw [upd_same] at h1'
        cases h1'
        exact hp
      · rw [upd_ne ha] at h1'
        refine S.keep a u h1' fun hm => h2 ?_
        obtain ⟨q, q1, q2⟩ := List.mem_map.mp hm
        refine List.mem_map.mpr ⟨q, List.mem_filter.mpr ⟨q1, ?_⟩, q2⟩
        refine decide_eq_true fun hq => ha ?_
        obtain ⟨d', e2⟩ := S.iof q q1
        rw [hq, hs] at e2
        cases e2
        rcases h0io with g | g
        · have z := S.sl i _ hs
          obtain ⟨p', _, e3, g3, _⟩ := z
          rw [e] at e3
          cases e3
          exact absurd g g3
        · exact q2.symm.trans (S.ifn q q1 (i, p) g hq)
    len := by rw [List.length_set]; exact S.len
    sl := fun j s' h => by
      by_cases hj : i = j
      · subst hj
        rw [List.getElem?_set_self hl] at h
        cases h
        exact ⟨p, List.mem_cons_self, e, ho⟩
      · rw [List.getElem?_set_ne hj] at h
        have z := S.sl j s' h
        cases s' with
        | em => trivial
        | sh _ => exact z
        | ow d' =>
          obtain ⟨q, e1, h0, hb1, ho1⟩ := z
          exact ⟨q, e1, by show upd f.H0 p o q = none; rw [upd_ne (oth j q hj (by rw [h]; trivial) e1)]; exact h0, hb1, ho1⟩
        | io d' =>
          obtain ⟨q, hi, e1, h0, hb1, ho1⟩ := z
          exact ⟨q, List.mem_filter.mpr ⟨hi, decide_eq_true fun h => hj h.symm⟩, e1, by show upd f.H0 p o q ≠ none; rw [upd_ne (oth j q hj (by rw [h]; trivial) e1)]; exact h0, hb1, ho1⟩
        | bo d' =>
          obtain ⟨q, hi, e1, ho1⟩ := z
          exact ⟨q, List.mem_cons_of_mem _ (List.mem_filter.mpr ⟨hi, decide_eq_true fun h => hj h.symm⟩), e1, ho1⟩
    dis := fun j k q h1 h2 => S.dis j k q (own_imp j h1).2 (own_imp k h2).2
    iof := fun q hq => by
      obtain ⟨q1, q2⟩ := List.mem_filter.mp hq
      obtain ⟨d', e2⟩ := S.iof q q1
      exact ⟨d', by rw [List.getElem?_set_ne fun h => (of_decide_eq_true q2) h.symm]; exact e2⟩
    tm := fun a u h => by
      have h' : upd f.tmp p o a = some u := h
      by_cases ha : a = p
      · subst ha
        rw [upd_same] at h'
        cases h'
        exact ⟨hp, hb, fun j hj e2 => oth j _ (own_imp j hj).1 (own_imp j hj).2 e2 rfl⟩
      · rw [upd_ne ha] at h'
        obtain ⟨h1, h2, h3⟩ := S.tm a u h'
        exact ⟨h1, h2, fun j hj => h3 j (own_imp j hj).2⟩
    ifn := fun q hq q' hq' => S.ifn q (List.mem_filter.mp hq).1 q' (List.mem_filter.mp hq').1
    bs := fun q hq => by
      rcases List.mem_cons.mp hq with rfl | hq
      · exact ⟨o, upd_same⟩
      · obtain ⟨o2, h2⟩ := S.bs q (List.mem_filter.mp hq).1
        refine ⟨o2, ?_⟩
        show upd f.tmp p o q.2 = _
        rw [upd_ne fun z => by rw [z, htm] at h2; cases h2]
        exact h2 }
theorem Stt.unbor {s : Sl} {d' : D} (S : Stt C (borF f i p o) B σ H ρ) (hs : ρ[i]? = some (.bo d')) (hw : Sl.own (some s)) (h0 : (∀ d, s = .ow d → f.H0 p = none) ∧ ∀ d, s = .io d → (i, p) ∈ f.ios ∧ f.H0 p ≠ none) (htm : f.tmp p = none) (hio : ∀ q ∈ f.ios, q.1 = i → ∃ d, s = .io d)
    (hif : ∀ q ∈ f.ios, ∀ q' ∈ f.ios, q.1 = q'.1 → q.2 = q'.2) (hbs : ∀ q ∈ f.bos, ∃ o, f.tmp q.2 = some o) : Stt C f B σ H (ρ.set i (s.put d')) := by
  have hl : i < ρ.length := (List.getElem?_eq_some_iff.mp hs).1
  obtain ⟨hp, hb, hno⟩ := S.tm p o (show upd f.tmp p o p = some o from upd_same)
  obtain ⟨e, ho⟩ : σ[i]? = some (some (V.ref p)) ∧ OwnAt C B H p d' := by
    obtain ⟨q, hi, e1, ho⟩ := S.sl i _ hs
    rcases List.mem_cons.mp hi with z | z
    · cases z; exact ⟨e1, ho⟩
    · exact absurd rfl (of_decide_eq_true (List.mem_filter.mp z).2)
  have own_imp : ∀ j : Nat, i ≠ j → Sl.own (ρ.set i (s.put d'))[j]? → Sl.own ρ[j]? := fun j h hj => by
    rw [List.getElem?_set_ne h] at hj
    exact hj
  have nop : ∀ j : Nat, i ≠ j → Sl.own (ρ.set i (s.put d'))[j]? → σ[j]? ≠ some (some (V.ref p)) := fun j h hj => hno j (own_imp j h hj)
  exact {
    b0 := S.b0
    bh := S.bh
    old := fun a h => by
      by_cases ha : a = p
      · rw [ha, hp]; exact fun z => nomatch z
      · exact S.old a (by show upd f.H0 p o a ≠ none; rw [upd_ne ha]; exact h)
    nw := fun a h1 h2 => by
      by_cases ha : a = p
      · rw [ha]; exact hb
      · exact S.nw a (by show upd f.H0 p o a ≠ none; rw [upd_ne ha]; exact h1) h2
    keep := fun a u h1 h2 => by
      have ha : a ≠ p := fun z => by
        subst z
        cases s with
        | ow _ => rw [h0.1 _ rfl] at h1; cases h1
        | io _ => exact h2 (List.mem_map.mpr ⟨_, (h0.2 _ rfl).1, rfl⟩)
        | em => exact hw.elim
        | sh _ => exact hw.elim
        | bo _ => exact hw.elim
      refine S.keep a u (by show upd f.H0 p o a = _; rw [upd_ne ha]; exact h1) fun hm => h2 ?_
      obtain ⟨q, q1, q2⟩ := List.mem_map.mp hm
      exact List.mem_map.mpr ⟨q, (List.mem_filter.mp q1).1, q2⟩
    len := by rw [List.length_set]; exact S.len
    sl := fun j s' h => by
      by_cases hj : i = j
      · subst hj
        rw [List.getElem?_set_self hl] at h
        cases h
        cases s with
        | ow _ => exact ⟨p, e, h0.1 _ rfl, hb, ho⟩
        | io _ => exact ⟨p, (h0.2 _ rfl).1, e, (h0.2 _ rfl).2, hb, ho⟩
        | em => exact hw.elim
        | sh _ => exact hw.elim
        | bo _ => exact hw.elim
      · rw [List.getElem?_set_ne hj] at h
        have z := S.sl j s' h
        cases s' with
        | em => trivial
        | sh _ => exact z
        | ow d2 =>
          obtain ⟨q, e1, g0, hb1, ho1⟩ := z
          have hq : q ≠ p := fun z => hno j (by rw [h]; trivial) (by rw [e1, z])
          exact ⟨q, e1, by have g : upd f.H0 p o q = none := g0; rw [upd_ne hq] at g; exact g, hb1, ho1⟩
        | io d2 =>
          obtain ⟨q, hi, e1, g0, hb1, ho1⟩ := z
          have hq : q ≠ p := fun z => hno j (by rw [h]; trivial) (by rw [e1, z])
          exact ⟨q, (List.mem_filter.mp hi).1, e1, by have g : upd f.H0 p o q ≠ none := g0; rw [upd_ne hq] at g; exact g, hb1, ho1⟩
        | bo d2 =>
          obtain ⟨q, hi, e1, ho1⟩ := z
          rcases List.mem_cons.mp hi with z | z
          · cases z; exact absurd rfl hj
          · exact ⟨q, (List.mem_filter.mp z).1, e1, ho1⟩
    dis := fun j k q h1 h2 e1 e2 => by
      by_cases hj : i = j
      · by_cases hk : i = k
        · rw [← hj, hk]
        · rw [← hj, e] at e1
          cases e1
          exact absurd e2 (nop k hk h2)
      · by_cases hk : i = k
        · rw [← hk, e] at e2
          cases e2
          exact absurd e1 (nop j hj h1)
        · exact S.dis j k q (own_imp j hj h1) (own_imp k hk h2) e1 e2
    iof := fun q hq => by
      by_cases hj : q.1 = i
      · obtain ⟨d2, rfl⟩ := hio q hq hj
        exact ⟨d', by rw [hj]; exact List.getElem?_set_self hl⟩
      · obtain ⟨d2, e2⟩ := S.iof q (List.mem_filter.mpr ⟨hq, decide_eq_true hj⟩)
        exact ⟨d2, by rw [List.getElem?_set_ne fun h => hj h.symm]; exact e2⟩
    tm := fun a u h => by
      have ha : a ≠ p := fun z => by rw [z, htm] at h; cases h
      obtain ⟨h1, h2, h3⟩ := S.tm a u (by show upd f.tmp p o a = _; rw [upd_ne ha]; exact h)
      refine ⟨h1, h2, fun j hj e2 => ?_⟩
      by_cases hij : i = j
      · rw [← hij, e] at e2
        cases e2
        exact ha rfl
      · exact h3 j (own_imp j hij hj) e2
    ifn := hif
    bs := hbs }
end
end Fc
set_option Elab.async false
set_option linter.all false
set_option maxRecDepth 100000
/-! Fc: expressions. -/
namespace Fc
open PySem L2
abbrev EF := En → Option (D × En)
abbrev TF := En → Option (Bool × En)
/-- the value shared, the slots' state changed -/
def EE (C : Cn) (te : TE) (E : EF) : Prop := ∀ (f : Fr0) (B : Hp) (σ : L2.St) (H : Hp) (ρ : En) (d : D) (ρ' : En) (Q : VK), Stt C f B σ H ρ → E ρ = some (d, ρ') →
  (∀ v B' H', Ex B B' → Stt C f B' σ H' ρ' → Dn C B' v d → Q v H') → te σ H Q
/-- a new object that nobody else has -/
def EO (C : Cn) (te : TE) (E : EF) : Prop := ∀ (f : Fr0) (B : Hp) (σ : L2.St) (H : Hp) (ρ : En) (d : D) (ρ' : En) (Q : VK), Stt C f B σ H ρ → E ρ = some (d, ρ') →
  (∀ p B' H', Ex B B' → Stt C f B' σ H' ρ' → f.H0 p = none → f.tmp p = none → B' p = none → (∀ i : Nat, Sl.own ρ'[i]? → σ[i]? ≠ some (some (V.ref p))) → OwnAt C B' H' p d → Q (V.ref p) H') → te σ H Q
def ET (C : Cn) (tt : TT) (T : TF) : Prop := ∀ (f : Fr0) (B : Hp) (σ : L2.St) (H : Hp) (ρ : En) (b : Bool) (ρ' : En) (Q : Bool → Hp → Prop), Stt C f B σ H ρ → T ρ = some (b, ρ') →
  (∀ B' H', Ex B B' → Stt C f B' σ H' ρ' → Q b H') → tt σ H Q
/-- the script -/
def scrOf : List (D × D) → Option (List D)
  | [(.none, .list ds)] => some ds
  | [(.int _, .none)] => some []
  | _ => none
def scrT : List (D × D) → Option (List D)
  | [(.none, .list ds)] => some ds
  | _ => none
/-- a value as it stands: shared, or a slot's own -/
def Dv (C : Cn) (B H : Hp) (v : V) (d : D) : Prop := Dn C B v d ∨ ∃ p, v = V.ref p ∧ OwnAt C B H p d
section
variable {C : Cn} {f : Fr0} {B B' H H' : Hp} {σ : L2.St} {ρ ρ' : En} {v u : V} {d x y : D} {ds : List D} {i j : Nat}
theorem Dv.listR (h : Dv C B H v (.list ds)) (e : Ex B H) : ∃ a vs, v = V.ref a ∧ Rd H a (.lst vs) ∧ Dns C B vs ds := by
  rcases h with h | ⟨p, rfl, vs, h, hs⟩
  · cases h with
    | lst q qs => exact ⟨_, _, rfl, e.rd q, qs⟩
  · exact ⟨p, vs, rfl, Rd.of h, hs⟩
theorem Dv.list (h : Dv C B H v (.list ds)) (e : Ex B H) : ∃ a vs, v = V.ref a ∧ SqL C.K H a vs ∧ Dns C B vs ds := by
  obtain ⟨a, vs, h1, h2, h3⟩ := h.listR e
  exact ⟨a, vs, h1, .inl h2, h3⟩
theorem Dv.tup (h : Dv C B H v (.tuple ds)) (e : Ex B H) : ∃ a vs, v = V.ref a ∧ SqT C.K H a vs ∧ Dns C B vs ds := by
  rcases h with h | ⟨p, _, h⟩
  · cases h with
    | tup q qs => exact ⟨_, _, rfl, e.t q, qs⟩
  · exact h.elim
theorem Dv.dict {kvs : List (D × D)} (h : Dv C B H v (.dict kvs)) (e : Ex B H) (hn : scrOf kvs = none) : ∃ a xs ep, v = V.ref a ∧ H a = some (dicO C a xs ep) ∧ Ents C B xs kvs := by
  rcases h with h | ⟨p, rfl, xs, ep, h, hs⟩
  · cases h with
    | scr q qs => cases hn
    | dic q qs => exact ⟨_, _, _, rfl, e _ _ q, qs⟩
    | odd q => cases hn
  · exact ⟨p, xs, ep, rfl, h, hs⟩
theorem scrT_eq {kvs : List (D × D)} (h : scrT kvs = some ds) : kvs = [(.none, .list ds)] := by
  unfold scrT at h
  split at h
  · cases h; rfl
  · cases h
theorem scrOf_eq {kvs : List (D × D)} (h : scrOf kvs = some ds) : kvs = [(.none, .list ds)] ∨ ∃ n, kvs = [(.int n, .none)] := by
  unfold scrOf at h
  split at h
  · cases h; exact .inl rfl
  · exact .inr ⟨_, rfl⟩
  · cases h
theorem ents_no_odd {C : Cn} {B : Hp} {xs : List DE} {n : Int} (h : Ents C B xs [(.int n, .none)]) : False := by
  cases h with
  | cons h1 _ _ _ _ => cases h1
theorem ents_no_scr {xs : List DE} (h : Ents C B xs [(.none, .list ds)]) : False := by
  cases h with
  | cons h1 _ _ _ _ => cases h1
theorem Dv.scr {kvs : List (D × D)} (h : Dv C B H v (.dict kvs)) (e : Ex B H) (hn : scrT kvs = some ds) : ∃ a vs, v = V.ref a ∧ SqL C.K H a vs ∧ Dns C B vs ds := by
  have := scrT_eq hn
  subst this
  rcases h with h | ⟨p, rfl, xs, ep, h, hs⟩
  · cases h with
    | scr q qs => exact ⟨_, _, rfl, e.l q, qs⟩
    | dic q qs => exact (ents_no_scr qs).elim
  · exact (ents_no_scr hs).elim
theorem Dv.int (h : Dv C B H v (.int z)) : v = V.int z := by
  rcases h with h | ⟨p, _, h⟩
  · cases h; rfl
  · exact h.elim
theorem Dv.bool {z : Bool} (h : Dv C B H v (.bool z)) : v = V.bl z := by
  rcases h with h | ⟨p, _, h⟩
  · cases h; rfl
  · exact h.elim
theorem Dv.str {z : Str} (h : Dv C B H v (.str z)) : v = V.str z := by
  rcases h with h | ⟨p, _, h⟩
  · cases h; rfl
  · exact h.elim
theorem Dv.none (h : Dv C B H v .none) : v = V.non := by
  rcases h with h | ⟨p, _, h⟩
  · cases h; rfl
  · exact h.elim
theorem Stt.val (S : Stt C f B σ H ρ) (h : slD ρ[i]? = some d) : ∃ v, σ[i]? = some (some v) ∧ Dv C B H v d := by
  cases q : ρ[i]? with
  | none => rw [q] at h; cases h
  | some s =>
    have z := S.sl i s q
    rw [q] at h
    cases s with
    | em => cases h
    | sh d' => cases h; obtain ⟨v, e, r⟩ := z; exact ⟨v, e, .inl r⟩
    | ow d' => cases h; obtain ⟨p, e, _, _, r⟩ := z; exact ⟨_, e, .inr ⟨p, rfl, r⟩⟩
    | io d' => cases h; obtain ⟨p, _, e, _, _, r⟩ := z; exact ⟨_, e, .inr ⟨p, rfl, r⟩⟩
    | bo d' => cases h; obtain ⟨p, _, e, r⟩ := z; exact ⟨_, e, .inr ⟨p, rfl, r⟩⟩
end
/-- an operand: an expression, or a slot as it stands when all operands are there -/
inductive Ar where
  | e (E : EF)
  | v (i : Nat)
def Ar.run : Ar → EF
  | .e E => E
  | .v i => fun ρ => (slD ρ[i]?).bind fun d => some (d, ρ)
def Ar.get : Ar → D → En → Option D
  | .e _ => fun d _ => some d
  | .v i => fun _ ρ => slD ρ[i]?
def ArE (C : Cn) (te : TE) : Ar → Prop
  | .e E => EE C te E
  | .v i => te = tVar i
def arg1 (a : Ar) (ρ : En) : Option (D × En) := (a.run ρ).bind fun p => (a.get p.1 p.2).bind fun x => some (x, p.2)
def arg2 (a b : Ar) (ρ : En) : Option (D × D × En) := (a.run ρ).bind fun p => (b.run p.2).bind fun q => (a.get p.1 q.2).bind fun x => (b.get q.1 q.2).bind fun y => some (x, y, q.2)
section
variable {C : Cn} {f : Fr0} {B B' H H' : Hp} {σ : L2.St} {ρ ρ' : En} {v u : V} {d x y : D} {ds : List D} {i j : Nat} {a b : Ar} {ta tb tc te : TE}
/-- an operand is read: what is known of it in the end -/
def Hold (C : Cn) (B : Hp) (σ : L2.St) (v : V) (d : D) : Ar → Prop
  | .e _ => Dn C B v d
  | .v i => σ[i]? = some (some v)
theorem Hold.mono (e : Ex B B') (h : Hold C B σ v d a) : Hold C B' σ v d a := by
  cases a with
  | e E => exact Dn.mono e h
  | v i => exact h
theorem Hold.dv (S : Stt C f B σ H ρ) (h : Hold C B σ v d a) (g : a.get d ρ = some x) : Dv C B H v x := by
  cases a with
  | e E => cases g; exact .inl h
  | v i =>
    obtain ⟨w, e, r⟩ := S.val g
    have h' : σ[i]? = some (some v) := h
    rw [e] at h'
    cases h'
    exact r
theorem ar_run (ha : ArE C ta a) (S : Stt C f B σ H ρ) (h : a.run ρ = some (d, ρ')) {R : V → Hp → Prop} (k : ∀ v B' H', Ex B B' → Stt C f B' σ H' ρ' → Hold C B' σ v d a → R v H') : ta σ H R := by
  cases a with
  | e E => exact ha f B σ H ρ d ρ' R S h k
  | v i =>
    have ha' : ta = tVar i := ha
    subst ha'
    obtain ⟨d', e, q⟩ := Option.bind_eq_some_iff.mp h
    cases q
    obtain ⟨w, e', r⟩ := S.val e
    exact ⟨w, e', k w B H (Ex.refl B) S e'⟩
theorem ar1 (ha : ArE C ta a) (S : Stt C f B σ H ρ) (h : arg1 a ρ = some (x, ρ')) {R : V → Hp → Prop} (k : ∀ v B' H', Ex B B' → Stt C f B' σ H' ρ' → Dv C B' H' v x → R v H') : ta σ H R := by
  obtain ⟨⟨d, ρ1⟩, e1, q⟩ := Option.bind_eq_some_iff.mp h
  obtain ⟨x', e2, q⟩ := Option.bind_eq_some_iff.mp q
  cases q
  exact ar_run ha S e1 fun v B' H' e S' hv => k v B' H' e S' (hv.dv S' e2)
theorem ar2 (ha : ArE C ta a) (hb : ArE C tb b) (S : Stt C f B σ H ρ) (h : arg2 a b ρ = some (x, y, ρ')) {R : V → V → Hp → Prop}
    (k : ∀ v u B' H', Ex B B' → Stt C f B' σ H' ρ' → Dv C B' H' v x → Dv C B' H' u y → R v u H') : ta σ H fun v H1 => tb σ H1 fun u H2 => R v u H2 := by
  obtain ⟨⟨d, ρ1⟩, e1, q⟩ := Option.bind_eq_some_iff.mp h
  obtain ⟨⟨d2, ρ2⟩, e2, q⟩ := Option.bind_eq_some_iff.mp q
  obtain ⟨x', e3, q⟩ := Option.bind_eq_some_iff.mp q
  obtain ⟨y', e4, q⟩ := Option.bind_eq_some_iff.mp q
  cases q
  exact ar_run ha S e1 fun v B1 H1 e S1 hv => ar_run hb S1 e2 fun u B2 H2 e' S2 hu => k v u B2 H2 (e.trans e') S2 ((hv.mono e').dv S2 e3) (hu.dv S2 e4)
theorem EO.ee {E : EF} (h : EO C te E) : EE C te E := fun f B σ H ρ d ρ' Q S e k => h f B σ H ρ d ρ' Q S e fun p B' H' eb S' h0 ht hb hn ho => by
  cases d with
  | list ds =>
    obtain ⟨vs, q, z⟩ := ho
    exact k _ _ _ (eb.trans (Ex.new hb)) (S'.share q h0 ht hb hn) (.lst (Rd.of upd_same) (z.mono (Ex.new hb)))
  | dict kvs =>
    obtain ⟨xs, ep, q, z⟩ := ho
    exact k _ _ _ (eb.trans (Ex.new hb)) (S'.share q h0 ht hb hn) (.dic upd_same (z.mono (Ex.new hb)))
  | _ => exact ho.elim
end

/-! ### names and constants -/
def shD : Option Sl → Option D
  | some (.sh d) => some d
  | _ => none
def eVar (i : Nat) : EF := fun ρ => (shD ρ[i]?).bind fun d => some (d, ρ)
def eC (d : D) : EF := fun ρ => some (d, ρ)
section
variable {C : Cn} {i : Nat} {d : D} {v : V}
theorem ee_var : EE C (tVar i) (eVar i) := fun f B σ H ρ d ρ' Q S e k => by
  obtain ⟨d', e1, q⟩ := Option.bind_eq_some_iff.mp e
  cases q
  cases q : ρ[i]? with
  | none => rw [q] at e1; cases e1
  | some s =>
    have z := S.sl i s q
    rw [q] at e1
    cases s with
    | sh d'' =>
      cases e1
      obtain ⟨v, e2, r⟩ := z
      exact ⟨v, e2, k v B H (Ex.refl B) S r⟩
    | _ => cases e1
theorem ee_c (h : ∀ B, Dn C B v d) : EE C (tC v) (eC d) := fun f B σ H ρ d' ρ' Q S e k => by
  cases e
  exact k v B H (Ex.refl B) S (h B)
theorem ee_int {z : Int} : EE C (tC (.int z)) (eC (.int z)) := ee_c fun _ => .int z
theorem ee_bl {z : Bool} : EE C (tC (.bl z)) (eC (.bool z)) := ee_c fun _ => .bl z
theorem ee_str {z : Str} : EE C (tC (.str z)) (eC (.str z)) := ee_c fun _ => .str z
theorem ee_non : EE C (tC .non) (eC .none) := ee_c fun _ => .non
end

/-! ### displays -/
def runE : List EF → En → Option (List D × En)
  | [], ρ => some ([], ρ)
  | E :: Es, ρ => (E ρ).bind fun p => (runE Es p.2).bind fun q => some (p.1 :: q.1, q.2)
def EEs (C : Cn) (ta : TA) (Es : List EF) : Prop := ∀ (f : Fr0) (B : Hp) (σ : L2.St) (H : Hp) (ρ : En) (ds : List D) (ρ' : En) (Q : List V → Hp → Prop), Stt C f B σ H ρ → runE Es ρ = some (ds, ρ') →
  (∀ vs B' H', Ex B B' → Stt C f B' σ H' ρ' → Dns C B' vs ds → Q vs H') → ta σ H Q
def eTup (Es : List EF) : EF := fun ρ => (runE Es ρ).bind fun p => some (.tuple p.1, p.2)
def eLst (Es : List EF) : EF := fun ρ => (runE Es ρ).bind fun p => some (.list p.1, p.2)
section
variable {C : Cn} {te : TE} {ta : TA} {E : EF} {Es : List EF}
theorem ees_nil : EEs C tNil [] := fun f B σ H ρ ds ρ' Q S e k => by
  cases e
  exact k [] B H (Ex.refl B) S .nil
theorem ees_cons (h : EE C te E) (hs : EEs C ta Es) : EEs C (tCons te ta) (E :: Es) := fun f B σ H ρ ds ρ' Q S e k => by
  obtain ⟨⟨d, ρ1⟩, e1, q⟩ := Option.bind_eq_some_iff.mp e
  obtain ⟨⟨ds', ρ2⟩, e2, q⟩ := Option.bind_eq_some_iff.mp q
  cases q
  exact h f B σ H ρ d ρ1 _ S e1 fun v B1 H1 eb S1 hv => hs f B1 σ H1 ρ1 ds' _ _ S1 e2 fun vs B2 H2 eb2 S2 hvs => k (v :: vs) B2 H2 (eb.trans eb2) S2 (.cons (hv.mono eb2) hvs)
theorem runE_length : ∀ (Es : List EF) (ρ : En) (ds : List D) (ρ' : En), runE Es ρ = some (ds, ρ') → ds.length = Es.length
  | [], ρ, ds, ρ', e => by cases e; rfl
  | E :: Es, ρ, ds, ρ', e => by
    obtain ⟨⟨d, ρ1⟩, e1, q⟩ := Option.bind_eq_some_iff.mp e
    obtain ⟨⟨ds', ρ2⟩, e2, q⟩ := Option.bind_eq_some_iff.mp q
    cases q
    simp [runE_length Es ρ1 ds' _ e2]
theorem ee_tup (h : EEs C ta Es) (hn : Es.length ≤ 1000 := by decide) : EE C (tTup ta) (eTup Es) := fun f B σ H ρ d ρ' Q S e k => by
  obtain ⟨⟨ds, ρ1⟩, e1, q⟩ := Option.bind_eq_some_iff.mp e
  cases q
  refine h f B σ H ρ ds _ _ S e1 fun vs B1 H1 eb S1 hvs => ⟨?_, fun p hp => ?_⟩
  · rw [hvs.length, runE_length Es _ _ _ e1]
    exact Nat.le_of_lt (small1000 hn)
  · have nb := S1.bh.free hp
    exact k _ _ _ (eb.trans (Ex.new nb)) (S1.alloc hp) (.tup (SqT.of upd_same) (hvs.mono (Ex.new nb)))
theorem eo_new {B H : Hp} {f : Fr0} {σ : L2.St} {ρ : En} {p : Addr} {o : HO} {d : D} {Q : VK} (S : Stt C f B σ H ρ) (hp : H p = none)
    (ho : OwnAt C B (upd H p o) p d)
    (k : ∀ p B' H', Ex B B' → Stt C f B' σ H' ρ → f.H0 p = none → f.tmp p = none → B' p = none → (∀ i : Nat, Sl.own ρ[i]? → σ[i]? ≠ some (some (V.ref p))) → OwnAt C B' H' p d → Q (V.ref p) H') : Q (V.ref p) (upd H p o) := by
  refine k p B _ (Ex.refl B) (S.allocO hp) (S.h0_free hp) (S.tm_free hp) (S.bh.free hp) (fun i hi e => ?_) ho
  obtain ⟨u, hu⟩ := S.own_there hi e
  rw [hp] at hu
  cases hu
theorem eo_lst (h : EEs C ta Es) (hn : Es.length ≤ 1000 := by decide) : EO C (tLst ta) (eLst Es) := fun f B σ H ρ d ρ' Q S e k => by
  obtain ⟨⟨ds, ρ1⟩, e1, q⟩ := Option.bind_eq_some_iff.mp e
  cases q
  refine h f B σ H ρ ds _ _ S e1 fun vs B1 H1 eb S1 hvs => ⟨?_, fun p hp => ?_⟩
  · rw [hvs.length, runE_length Es _ _ _ e1]
    exact Nat.le_of_lt (small1000 hn)
  · exact eo_new (d := .list ds) S1 hp (show ∃ us, _ from ⟨vs, upd_same, hvs⟩) fun p B' H' eb' => k p B' H' (eb.trans eb')
end

/-! ### operators by values -/
abbrev G1 := D → Option D
abbrev G2 := D → D → Option D
def RU (C : Cn) (r : V → Hp → VK → Prop) (g : G1) : Prop := ∀ (f : Fr0) (B : Hp) (σ : L2.St) (H : Hp) (ρ : En) (x : V) (a d : D) (Q : VK), Stt C f B σ H ρ → Dv C B H x a → g a = some d →
  (∀ v B' H', Ex B B' → Stt C f B' σ H' ρ → Dn C B' v d → Q v H') → r x H Q
def RB (C : Cn) (r : R2) (g : G2) : Prop := ∀ (f : Fr0) (B : Hp) (σ : L2.St) (H : Hp) (ρ : En) (x y : V) (a b d : D) (Q : VK), Stt C f B σ H ρ → Dv C B H x a → Dv C B H y b → g a b = some d →
  (∀ v B' H', Ex B B' → Stt C f B' σ H' ρ → Dn C B' v d → Q v H') → r x y H Q
def eUn (g : G1) (a : Ar) : EF := fun ρ => (arg1 a ρ).bind fun p => (g p.1).bind fun d => some (d, p.2)
def eOp (g : G2) (a b : Ar) : EF := fun ρ => (arg2 a b ρ).bind fun p => (g p.1 p.2.1).bind fun d => some (d, p.2.2)
section
variable {C : Cn} {ta tb tc te : TE} {a b c : Ar} {r : R2} {g : G2}
theorem ee_un {r : V → Hp → VK → Prop} {g : G1} (hr : RU C r g) (ha : ArE C ta a) : EE C (tUn r ta) (eUn g a) := fun f B σ H ρ d ρ' Q S e k => by
  obtain ⟨⟨x, ρ1⟩, e1, q⟩ := Option.bind_eq_some_iff.mp e
  obtain ⟨d', e2, q⟩ := Option.bind_eq_some_iff.mp q
  cases q
  exact ar1 ha S e1 fun v B1 H1 eb S1 hv => hr f B1 σ H1 _ v x d Q S1 hv e2 fun w B2 H2 eb2 => k w B2 H2 (eb.trans eb2)
theorem ee_op (hr : RB C r g) (ha : ArE C ta a) (hb : ArE C tb b) : EE C (tOp r ta tb) (eOp g a b) := fun f B σ H ρ d ρ' Q S e k => by
  obtain ⟨⟨x, y, ρ1⟩, e1, q⟩ := Option.bind_eq_some_iff.mp e
  obtain ⟨d', e2, q⟩ := Option.bind_eq_some_iff.mp q
  cases q
  exact ar2 ha hb S e1 fun v u B1 H1 eb S1 hv hu => hr f B1 σ H1 _ v u x y d Q S1 hv hu e2 fun w B2 H2 eb2 => k w B2 H2 (eb.trans eb2)
theorem ee_call1 {r : List V → Hp → VK → Prop} {g : G1} (hr : RU C (fun x H Q => r [x] H Q) g) (ha : ArE C ta a) : EE C (tCB r (tCons ta tNil)) (eUn g a) := fun f B σ H ρ d ρ' Q S e k => by
  obtain ⟨⟨x, ρ1⟩, e1, q⟩ := Option.bind_eq_some_iff.mp e
  obtain ⟨d', e2, q⟩ := Option.bind_eq_some_iff.mp q
  cases q
  exact ar1 ha S e1 fun v B1 H1 eb S1 hv => hr f B1 σ H1 _ v x d Q S1 hv e2 fun w B2 H2 eb2 => k w B2 H2 (eb.trans eb2)
theorem ee_call2 {r : List V → Hp → VK → Prop} {g : G2} (hr : RB C (fun x y H Q => r [x, y] H Q) g) (ha : ArE C ta a) (hb : ArE C tb b) : EE C (tCB r (tCons ta (tCons tb tNil))) (eOp g a b) := fun f B σ H ρ d ρ' Q S e k => by
  obtain ⟨⟨x, y, ρ1⟩, e1, q⟩ := Option.bind_eq_some_iff.mp e
  obtain ⟨d', e2, q⟩ := Option.bind_eq_some_iff.mp q
  cases q
  exact ar2 ha hb S e1 fun v u B1 H1 eb S1 hv hu => hr f B1 σ H1 _ v u x y d Q S1 hv hu e2 fun w B2 H2 eb2 => k w B2 H2 (eb.trans eb2)
/-! two ints -/
def gI0 (g : Int → Int → D) : G2
  | .int i, .int j => some (g i j)
  | _, _ => none
def gIC (c : Int → Int → Bool) (g : Int → Int → D) : G2
  | .int i, .int j => if c i j then some (g i j) else none
  | _, _ => none
theorem gI0_inv {g : Int → Int → D} {x y d : D} (h : gI0 g x y = some d) : ∃ i j, x = .int i ∧ y = .int j ∧ d = g i j := by
  unfold gI0 at h
  split at h
  · cases h; exact ⟨_, _, rfl, rfl, rfl⟩
  · cases h
theorem gIC_inv {c : Int → Int → Bool} {g : Int → Int → D} {x y d : D} (h : gIC c g x y = some d) : ∃ i j, x = .int i ∧ y = .int j ∧ c i j = true ∧ d = g i j := by
  unfold gIC at h
  split at h
  · split at h
    · cases h; exact ⟨_, _, rfl, rfl, by assumption, rfl⟩
    · cases h
  · cases h
theorem rb_i0 {g : Int → Int → V} {gd : Int → Int → D} (h : ∀ i j B, Dn C B (g i j) (gd i j)) : RB C (rI0 g) (gI0 gd) := fun f B σ H ρ x y a b d Q S hx hy e k => by
  obtain ⟨i, j, rfl, rfl, rfl⟩ := gI0_inv e
  exact ⟨i, j, hx.int, hy.int, k _ B H (Ex.refl B) S (h i j B)⟩
theorem rb_ic {P : Int → Int → Prop} {c : Int → Int → Bool} {g : Int → Int → V} {gd : Int → Int → D} (hc : ∀ i j, c i j = true → P i j) (h : ∀ i j B, Dn C B (g i j) (gd i j)) : RB C (rI P g) (gIC c gd) := fun f B σ H ρ x y a b d Q S hx hy e k => by
  obtain ⟨i, j, rfl, rfl, q, rfl⟩ := gIC_inv e
  exact ⟨i, j, hx.int, hy.int, hc i j q, k _ B H (Ex.refl B) S (h i j B)⟩
theorem hide_ex {α : Type} (a : α) : ∃ b, b = a := ⟨a, rfl⟩
noncomputable def hide {α : Type} (a : α) : α := Classical.choose (hide_ex a)
theorem hide_eq {α : Type} (a : α) : hide a = a := Classical.choose_spec (hide_ex a)
@[simp] theorem hide_ap (c : Int → Int → Bool) (i j : Int) : hide c i j = c i j := by rw [hide_eq]
abbrev gMinus : G2 := gI0 fun i j => .int (i - j)
noncomputable abbrev gMul : G2 := gIC (hide fun i j => decide ((-(2 ^ 64) < i ∧ i < 2 ^ 64) ∨ (-(2 ^ 64) < j ∧ j < 2 ^ 64))) fun i j => .int (i * j)
noncomputable abbrev gDiv : G2 := gIC (hide fun i j => decide (0 < j ∧ j < 1073741824)) fun i j => .int (i / j)
noncomputable abbrev gMod : G2 := gIC (hide fun i j => decide (0 < j)) fun i j => .int (i % j)
noncomputable abbrev gPow : G2 := gIC (hide fun i j => decide (0 ≤ j ∧ j ≤ 1000000 ∧ i.natAbs < 2 ^ 64)) fun i j => .int (i ^ j.toNat)
abbrev gLt : G2 := gI0 fun i j => .bool (decide (i < j))
abbrev gLe : G2 := gI0 fun i j => .bool (decide (i ≤ j))
abbrev gGt : G2 := gI0 fun i j => .bool (decide (j < i))
abbrev gGe : G2 := gI0 fun i j => .bool (decide (j ≤ i))
theorem rb_sub : RB C (rI0 fun i j => .int (i - j)) gMinus := rb_i0 fun i j B => .int _
theorem rb_mul : RB C (rI CMul fun i j => .int (i * j)) gMul := rb_ic (fun i j h => by have h' := of_decide_eq_true ((hide_ap _ _ _).symm.trans h); exact h') fun i j B => .int _
theorem rb_div : RB C (rI CDiv fun i j => .int (i / j)) gDiv := rb_ic (fun i j h => by have h' := of_decide_eq_true ((hide_ap _ _ _).symm.trans h); exact h') fun i j B => .int _
theorem rb_mod : RB C (rI (fun _ j => 0 < j) fun i j => .int (i % j)) gMod := rb_ic (fun i j h => by have h' := of_decide_eq_true ((hide_ap _ _ _).symm.trans h); exact h') fun i j B => .int _
theorem rb_pow : RB C (rI CPow fun i j => .int (i ^ j.toNat)) gPow := rb_ic (fun i j h => by have h' := of_decide_eq_true ((hide_ap _ _ _).symm.trans h); exact h') fun i j B => .int _
theorem rb_lt : RB C (rI0 fun i j => .bl (decide (i < j))) gLt := rb_i0 fun i j B => .bl _
theorem rb_le : RB C (rI0 fun i j => .bl (decide (i ≤ j))) gLe := rb_i0 fun i j B => .bl _
theorem rb_gt : RB C (rI0 fun i j => .bl (decide (j < i))) gGt := rb_i0 fun i j B => .bl _
theorem rb_ge : RB C (rI0 fun i j => .bl (decide (j ≤ i))) gGe := rb_i0 fun i j B => .bl _
def gNeg : G1
  | .int i => some (.int (-i))
  | _ => none
theorem ru_neg : RU C (rU fun i => .int (-i)) gNeg := fun f B σ H ρ x a d Q S hx e k => by
  unfold gNeg at e
  split at e
  · cases e
    exact ⟨_, hx.int, k _ B H (Ex.refl B) S (.int _)⟩
  · cases e
/-- a op b op' c, ints -/
def gBool : D → Option Bool
  | .bool b => some b
  | _ => none
def gInt : D → Option Int
  | .int b => some b
  | _ => none
def eChain (p q : Int → Int → Bool) (A B C : EF) : EF := fun ρ => (A ρ).bind fun x => (B x.2).bind fun y => (gInt x.1).bind fun i => (gInt y.1).bind fun j =>
  if p i j then (C y.2).bind fun z => (gInt z.1).bind fun l => some (.bool (q j l), z.2) else some (.bool false, y.2)
theorem gInt_inv {x : D} {i : Int} (h : gInt x = some i) : x = .int i := by
  unfold gInt at h
  split at h
  · cases h; rfl
  · cases h
theorem gBool_inv {x : D} {i : Bool} (h : gBool x = some i) : x = .bool i := by
  unfold gBool at h
  split at h
  · cases h; rfl
  · cases h
theorem ee_chain {p q : Int → Int → Bool} {EA EB EC : EF} (ha : EE C ta EA) (hb : EE C tb EB) (hc : EE C tc EC) :
    EE C (tChain (rI0 fun i j => .bl (p i j)) (rI0 fun i j => .bl (q i j)) ta tb tc) (eChain p q EA EB EC) := fun f B σ H ρ d ρ' Q S e k => by
  obtain ⟨⟨x, ρ1⟩, e1, z1⟩ := Option.bind_eq_some_iff.mp e
  obtain ⟨⟨y, ρ2⟩, e2, z2⟩ := Option.bind_eq_some_iff.mp z1
  obtain ⟨i, e3, z3⟩ := Option.bind_eq_some_iff.mp z2
  obtain ⟨j, e4, z4⟩ := Option.bind_eq_some_iff.mp z3
  have h3 := gInt_inv e3
  have h4 := gInt_inv e4
  simp only at h3 h4
  subst h3 h4
  refine ha f B σ H ρ _ ρ1 _ S e1 fun v B1 H1 eb1 S1 hv => hb f B1 σ H1 ρ1 _ ρ2 _ S1 e2 fun u B2 H2 eb2 S2 hu => ?_
  cases hv
  cases hu
  refine ⟨i, j, rfl, rfl, p i j, rfl, ?_⟩
  cases hp : p i j with
  | true =>
    rw [hp] at z4
    rw [if_pos rfl] at z4 ⊢
    obtain ⟨⟨w, ρ3⟩, e5, z5⟩ := Option.bind_eq_some_iff.mp z4
    obtain ⟨l, e6, z6⟩ := Option.bind_eq_some_iff.mp z5
    cases z6
    have h6 := gInt_inv e6
    simp only at h6
    subst h6
    refine hc f B2 σ H2 ρ2 _ _ _ S2 e5 fun t B3 H3 eb3 S3 ht => ?_
    cases ht
    exact ⟨j, l, rfl, rfl, k _ B3 H3 ((eb1.trans eb2).trans eb3) S3 (.bl _)⟩
  | false =>
    rw [hp] at z4
    rw [if_neg Bool.false_ne_true] at z4 ⊢
    cases z4
    exact k _ B2 H2 (eb1.trans eb2) S2 (.bl _)
end

/-! ### tests -/
def tOf (E : EF) : TF := fun ρ => (E ρ).bind fun p => (gBool p.1).bind fun b => some (b, p.2)
def fAnd (T U : TF) : TF := fun ρ => (T ρ).bind fun p => if p.1 then U p.2 else some (false, p.2)
def fOr (T U : TF) : TF := fun ρ => (T ρ).bind fun p => if p.1 then some (true, p.2) else U p.2
def fNot (T : TF) : TF := fun ρ => (T ρ).bind fun p => some (!p.1, p.2)
def eAnd (A B : EF) : EF := fun ρ => (A ρ).bind fun p => (gBool p.1).bind fun b => if b then B p.2 else some (.bool false, p.2)
def eOr (A B : EF) : EF := fun ρ => (A ρ).bind fun p => (gBool p.1).bind fun b => if b then some (.bool true, p.2) else B p.2
def eNot (A : EF) : EF := fun ρ => (A ρ).bind fun p => (gBool p.1).bind fun b => some (.bool (!b), p.2)
def eIf (T : TF) (A B : EF) : EF := fun ρ => (T ρ).bind fun p => if p.1 then A p.2 else B p.2
section
variable {C : Cn} {ta tb te : TE} {A B E : EF} {t u : TT} {T U : TF}
theorem et_test (h : EE C te E) : ET C (tTest te) (tOf E) := fun f B σ H ρ b ρ' Q S e k => by
  obtain ⟨⟨x, ρ1⟩, e1, z⟩ := Option.bind_eq_some_iff.mp e
  obtain ⟨i, e2, z⟩ := Option.bind_eq_some_iff.mp z
  cases z
  have h2 := gBool_inv e2
  simp only at h2
  subst h2
  refine h f B σ H ρ _ _ _ S e1 fun v B1 H1 eb S1 hv => ?_
  cases hv
  exact ⟨b, rfl, k B1 H1 eb S1⟩
theorem et_B (h : EE C te E) : ET C (tB te) (tOf E) := et_test h
theorem et_and (h1 : ET C t T) (h2 : ET C u U) : ET C (tAnd t u) (fAnd T U) := fun f B σ H ρ b ρ' Q S e k => by
  obtain ⟨⟨x, ρ1⟩, e1, z⟩ := Option.bind_eq_some_iff.mp e
  refine h1 f B σ H ρ x ρ1 _ S e1 fun B1 H1 eb S1 => ?_
  cases x with
  | true => exact h2 f B1 σ H1 ρ1 b ρ' Q S1 z fun B2 H2 eb2 => k B2 H2 (eb.trans eb2)
  | false => cases z; exact k B1 H1 eb S1
theorem et_or (h1 : ET C t T) (h2 : ET C u U) : ET C (tOr t u) (fOr T U) := fun f B σ H ρ b ρ' Q S e k => by
  obtain ⟨⟨x, ρ1⟩, e1, z⟩ := Option.bind_eq_some_iff.mp e
  refine h1 f B σ H ρ x ρ1 _ S e1 fun B1 H1 eb S1 => ?_
  cases x with
  | false => exact h2 f B1 σ H1 ρ1 b ρ' Q S1 z fun B2 H2 eb2 => k B2 H2 (eb.trans eb2)
  | true => cases z; exact k B1 H1 eb S1
theorem et_not (h1 : ET C t T) : ET C (tNot t) (fNot T) := fun f B σ H ρ b ρ' Q S e k => by
  obtain ⟨⟨x, ρ1⟩, e1, z⟩ := Option.bind_eq_some_iff.mp e
  cases z
  exact h1 f B σ H ρ x _ _ S e1 fun B1 H1 eb S1 => k B1 H1 eb S1
theorem ee_and (h1 : EE C ta A) (h2 : EE C tb B) : EE C (tAndV ta tb) (eAnd A B) := fun f B0 σ H ρ d ρ' Q S e k => by
  obtain ⟨⟨x, ρ1⟩, e1, z⟩ := Option.bind_eq_some_iff.mp e
  obtain ⟨b, e2, z⟩ := Option.bind_eq_some_iff.mp z
  have h2' := gBool_inv e2
  simp only at h2'
  subst h2'
  refine h1 f B0 σ H ρ _ _ _ S e1 fun v B1 H1 eb S1 hv => ?_
  cases hv
  refine ⟨b, rfl, ?_⟩
  cases b with
  | true => exact h2 f B1 σ H1 ρ1 d ρ' Q S1 z fun w B2 H2 eb2 => k w B2 H2 (eb.trans eb2)
  | false => cases z; exact k _ B1 H1 eb S1 (.bl _)
theorem ee_or (h1 : EE C ta A) (h2 : EE C tb B) : EE C (tOrV ta tb) (eOr A B) := fun f B0 σ H ρ d ρ' Q S e k => by
  obtain ⟨⟨x, ρ1⟩, e1, z⟩ := Option.bind_eq_some_iff.mp e
  obtain ⟨b, e2, z⟩ := Option.bind_eq_some_iff.mp z
  have h2' := gBool_inv e2
  simp only at h2'
  subst h2'
  refine h1 f B0 σ H ρ _ _ _ S e1 fun v B1 H1 eb S1 hv => ?_
  cases hv
  refine ⟨b, rfl, ?_⟩
  cases b with
  | false => exact h2 f B1 σ H1 ρ1 d ρ' Q S1 z fun w B2 H2 eb2 => k w B2 H2 (eb.trans eb2)
  | true => cases z; exact k _ B1 H1 eb S1 (.bl _)
theorem ee_not (h1 : EE C ta A) : EE C (tNotV ta) (eNot A) := fun f B0 σ H ρ d ρ' Q S e k => by
  obtain ⟨⟨x, ρ1⟩, e1, z⟩ := Option.bind_eq_some_iff.mp e
  obtain ⟨b, e2, z⟩ := Option.bind_eq_some_iff.mp z
  have h2' := gBool_inv e2
  simp only at h2'
  subst h2'
  cases z
  refine h1 f B0 σ H ρ _ _ _ S e1 fun v B1 H1 eb S1 hv => ?_
  cases hv
  exact ⟨b, rfl, k _ B1 H1 eb S1 (.bl _)⟩
theorem ee_if (h : ET C t T) (h1 : EE C ta A) (h2 : EE C tb B) : EE C (tIf t ta tb) (eIf T A B) := fun f B0 σ H ρ d ρ' Q S e k => by
  obtain ⟨⟨x, ρ1⟩, e1, z⟩ := Option.bind_eq_some_iff.mp e
  refine h f B0 σ H ρ x ρ1 _ S e1 fun B1 H1 eb S1 => ?_
  cases x with
  | true => exact h1 f B1 σ H1 ρ1 d ρ' Q S1 z fun w B2 H2 eb2 => k w B2 H2 (eb.trans eb2)
  | false => exact h2 f B1 σ H1 ρ1 d ρ' Q S1 z fun w B2 H2 eb2 => k w B2 H2 (eb.trans eb2)
end
end Fc
set_option Elab.async false
set_option linter.all false
set_option maxRecDepth 100000
/-! Fc: operators on data. -/
namespace Fc
open PySem L2 PyProof.Rows

theorem lim_line {n : Nat} (h : n ≤ 1000000) : n ≤ sizeLine := Nat.le_trans h (by decide)
theorem lim_lt {n : Nat} (h : n < 1000000) : n < sizeLine := Nat.lt_of_lt_of_le h (by decide)
section
variable {C : Cn} {f : Fr0} {B B' H H' : Hp} {σ : L2.St} {ρ ρ' : En} {v u : V} {d x y : D} {ds : List D} {i j : Nat} {a b : Ar} {ta tb tc te : TE}

/-! ### data as the layer's own data -/
mutual
theorem Dn.dp (e : Ex B H) : ∀ {v : V} {d : D}, d.canLay0 = true → Dn C B v d → Dp C.K H v d
  | _, _, _, .non => .non
  | _, _, _, .bl b => .bl b
  | _, _, _, .int i => .int i
  | _, _, _, .str x => .str x
  | _, _, h, .lst q qs => .lst (.inl (e.rd q)) (Dns.dp e (by simpa [PyData.canLay0] using h) qs)
  | _, _, h, .tup q qs => .tup (e.t q) (Dns.dp e (by simpa [PyData.canLay0] using h) qs)
  | _, _, h, .scr _ _ => absurd h (by simp [PyData.canLay0])
  | _, _, h, .dic _ _ => absurd h (by simp [PyData.canLay0])
  | _, _, h, .odd _ => absurd h (by simp [PyData.canLay0])
theorem Dns.dp (e : Ex B H) : ∀ {vs : List V} {ds : List D}, PyData.canLayAll0 ds = true → Dns C B vs ds → DpAll C.K H vs ds
  | _, _, _, .nil => .nil
  | _, _, h, .cons q qs => .cons (Dn.dp e (by have := h; rw [PyData.canLayAll0, Bool.and_eq_true] at this; exact this.1) q) (Dns.dp e (by have := h; rw [PyData.canLayAll0, Bool.and_eq_true] at this; exact this.2) qs)
end
theorem Dv.dp (h : Dv C B H v d) (e : Ex B H) (hd : d.canLay0 = true) : Dp C.K H v d := by
  rcases h with h | ⟨p, rfl, ho⟩
  · exact h.dp e hd
  · cases d with
    | list ds =>
      obtain ⟨vs, q, qs⟩ := ho
      exact .lst (SqL.of q) (qs.dp e (by simpa [PyData.canLay0] using hd))
    | dict kvs => exact absurd hd (by simp [PyData.canLay0])
    | _ => exact ho.elim

/-! ### == and != -/
def okD (d : D) : Bool := SeqAt.shaped d
def gEq : G2 := fun a b => if okD a && okD b then some (.bool (PyData.eqv a b)) else none
def gNe : G2 := fun a b => if okD a && okD b then some (.bool (!PyData.eqv a b)) else none
theorem okD_lay {d : D} (h : okD d = true) : d.canLay0 = true := SeqAt.canLay_of_shaped h
theorem rb_eq : RB C (rEqD C.K) gEq := fun f B σ H ρ x y a b d Q S hx hy e k => by
  unfold gEq at e
  split at e
  · rename_i h
    rw [Bool.and_eq_true] at h
    cases e
    exact ⟨a, b, hx.dp S.bh (okD_lay h.1), hy.dp S.bh (okD_lay h.2), h.1, h.2, k _ B H (Ex.refl B) S (.bl _)⟩
  · cases e
theorem rb_ne : RB C (rNeD C.K) gNe := fun f B σ H ρ x y a b d Q S hx hy e k => by
  unfold gNe at e
  split at e
  · rename_i h
    rw [Bool.and_eq_true] at h
    cases e
    exact ⟨a, b, hx.dp S.bh (okD_lay h.1), hy.dp S.bh (okD_lay h.2), h.1, h.2, k _ B H (Ex.refl B) S (.bl _)⟩
  · cases e
/-- is None, is not None -/
def rIsN : R2 := fun x y H Q => y = .non ∧ Q (.bl (decide (x = .non))) H
def rNotN : R2 := fun x y H Q => y = .non ∧ Q (.bl (!decide (x = .non))) H
theorem op_isNF {X : Cx} : OpR X (compareOp .Is) rIsN := op_isN
theorem op_notNF {X : Cx} : OpR X (compareOp .IsNot) rNotN := op_notN
def isNoneD : D → Bool
  | .none => true
  | _ => false
def gIsN : G2 := fun a b => if isNoneD b then some (.bool (isNoneD a)) else none
def gNotN : G2 := fun a b => if isNoneD b then some (.bool (!isNoneD a)) else none
theorem Dv.non_iff (h : Dv C B H v d) : decide (v = V.non) = isNoneD d := by
  rcases h with h | ⟨p, rfl, ho⟩
  · cases h <;> rfl
  · cases d with
    | list ds => rfl
    | dict kvs => rfl
    | _ => exact ho.elim
theorem isNoneD_eq {d : D} (h : isNoneD d = true) : d = .none := by
  cases d <;> first | rfl | cases h
theorem rb_isN : RB C rIsN gIsN := fun f B σ H ρ x y a b d Q S hx hy e k => by
  unfold gIsN at e
  split at e
  · rename_i h
    cases e
    have := isNoneD_eq h
    subst this
    exact ⟨hy.none, by rw [hx.non_iff]; exact k _ B H (Ex.refl B) S (.bl _)⟩
  · cases e
theorem rb_notN : RB C rNotN gNotN := fun f B σ H ρ x y a b d Q S hx hy e k => by
  unfold gNotN at e
  split at e
  · rename_i h
    cases e
    have := isNoneD_eq h
    subst this
    exact ⟨hy.none, by rw [hx.non_iff]; exact k _ B H (Ex.refl B) S (.bl _)⟩
  · cases e

/-! ### + -/
def rCatL (K : PySem.W.Frag) : R2 := fun x y H Q => ∃ l b xs zs, x = .ref l ∧ y = .ref b ∧ SqL K H l xs ∧ SqL K H b zs ∧ xs.length + zs.length ≤ sizeLine ∧ ∀ p, H p = none → Q (.ref p) (upd H p (.lst (xs ++ zs)))
theorem op_catL {X : Cx} : OpR X (binaryOp .Add) (rCatL X.K) := by
  intro pins s σ H x y v u Q I rx ry h
  obtain ⟨l, b, xs, zs, rfl, rfl, hl, hb, hz, q⟩ := h
  cases rx
  cases ry
  obtain ⟨its, r1, p1, _⟩ := I.list hl
  obtain ⟨its2, r2, p2, _⟩ := I.list hb
  obtain ⟨⟨cls, dd, data, sl⟩, ho, hc, n, hd⟩ := p1.isList
  obtain ⟨⟨cls2, dd2, data2, sl2⟩, ho2, hc2, n2, hd2⟩ := p2.isList
  simp only at hc hd hc2 hd2
  subst hc hd hc2 hd2
  have l1 := r1.length
  have l2 := r2.length
  have e : its.toArray ++ its2.toArray = (its ++ its2).toArray := by simp
  refine concat_meets ⟨_, ho, rfl⟩ ⟨_, ho2, rfl⟩ noFill_list_add seq_list_add PySem.F.slot_list_add PySem.F.entry_list_add (PySem.F.args_list_add_2 _ _) (list_addW l b its.toArray its2.toArray n n2 dd dd2 sl sl2 (by simp only [List.size_toArray]; omega)) ⟨ho, ho2, ?_⟩
  rw [e]
  exact ⟨.ref _, _, I.lnew (t' := s.toks) (r1.append r2) (by rw [List.length_append]; omega), rfl, q _ I.fresh⟩
def rAddS : R2 := fun x y H Q => ∃ i j, x = .str i ∧ y = .str j ∧ i.length + j.length ≤ sizeLine ∧ Q (.str (i ++ j)) H
def rAddAny (K : PySem.W.Frag) : R2 := fun x y H Q => rI0 (fun i j => .int (i + j)) x y H Q ∨ rCatA K x y H Q ∨ rCatL K x y H Q ∨ rAddS x y H Q
theorem op_addAny {X : Cx} : OpR X (binaryOp .Add) (rAddAny X.K) := op_add.or (op_catA.or (op_catL.or op_add_str))
def gAdd : G2
  | .int i, .int j => some (.int (i + j))
  | .tuple a, .tuple b => if a.length + b.length ≤ 1000000 then some (.tuple (a ++ b)) else none
  | .list a, .list b => if a.length + b.length ≤ 1000000 then some (.list (a ++ b)) else none
  | .str a, .str b => if a.length + b.length ≤ 1000000 then some (.str (a ++ b)) else none
  | _, _ => none
theorem rb_add : RB C (rAddAny C.K) gAdd := fun f B σ H ρ x y a b d Q S hx hy e k => by
  unfold gAdd at e
  split at e
  · cases e
    exact .inl ⟨_, _, hx.int, hy.int, k _ B H (Ex.refl B) S (.int _)⟩
  · rename_i as bs
    split at e
    · rename_i hl
      cases e
      obtain ⟨p, vs, rfl, hv, hvs⟩ := hx.tup S.bh
      obtain ⟨q, us, rfl, hu, hus⟩ := hy.tup S.bh
      have l1 := hvs.length
      have l2 := hus.length
      refine .inr (.inl ⟨p, q, vs, us, rfl, rfl, hv, hu, lim_line (by omega), fun z => ?_, fun z1 z => ?_, fun _ _ r hr => ?_⟩)
      · subst z
        cases hvs
        rcases hy with hy | ⟨_, _, hy⟩
        · exact k _ B H (Ex.refl B) S hy
        · exact hy.elim
      · subst z
        cases hus
        rcases hx with hx | ⟨_, _, hx⟩
        · rw [List.append_nil] at k
          exact k _ B H (Ex.refl B) S hx
        · exact hx.elim
      · have nb := S.bh.free hr
        exact k _ _ _ (Ex.new nb) (S.alloc hr) (.tup (SqT.of upd_same) ((hvs.append hus).mono (Ex.new nb)))
    · cases e
  · rename_i as bs
    split at e
    · rename_i hl
      cases e
      obtain ⟨p, vs, rfl, hv, hvs⟩ := hx.list S.bh
      obtain ⟨q, us, rfl, hu, hus⟩ := hy.list S.bh
      have l1 := hvs.length
      have l2 := hus.length
      refine .inr (.inr (.inl ⟨p, q, vs, us, rfl, rfl, hv, hu, lim_line (by omega), fun r hr => ?_⟩))
      have nb := S.bh.free hr
      exact k _ _ _ (Ex.new nb) (S.alloc hr) (.lst (Rd.of upd_same) ((hvs.append hus).mono (Ex.new nb)))
    · cases e
  · split at e
    · rename_i hl
      cases e
      exact .inr (.inr (.inr ⟨_, _, hx.str, hy.str, lim_line hl, k _ B H (Ex.refl B) S (.str _)⟩))
    · cases e
  · cases e

/-! ### a[i] -/
def rIxAny (K : PySem.W.Frag) : R2 := rIx K
theorem ix_any {X : Cx} : IxR X (rIxAny X.K) := ix_seq
def gIx : G2
  | .list ds, .int i => atI ds i
  | .tuple ds, .int i => atI ds i
  | .str z, .int i => if z.length ≤ 1000000 then (atI z.cps.toList i).map fun c => .str ⟨#[c]⟩ else none
  | .dict kvs, .int i => (scrT kvs).bind fun ds => atI ds i
  | _, _ => none
theorem atI_dns {vs : List V} {ds : List D} {i : Int} {d : D} (h : Dns C B vs ds) (e : atI ds i = some d) : ∃ v, atI vs i = some v ∧ Dn C B v d := by
  unfold atI at e ⊢
  rw [h.length]
  obtain ⟨j, e1, e2⟩ := Option.bind_eq_some_iff.mp e
  obtain ⟨v, e3, q⟩ := h.get e2
  exact ⟨v, by rw [e1]; exact e3, q⟩
theorem rb_ix : RB C (rIxAny C.K) gIx := fun f B σ H ρ x y a b d Q S hx hy e k => by
  unfold gIx at e
  split at e
  · obtain ⟨p, vs, rfl, hv, hvs⟩ := hx.list S.bh
    obtain ⟨w, ew, hw⟩ := atI_dns hvs e
    exact .inl ⟨p, vs, _, w, rfl, hy.int, hv, ew, k _ B H (Ex.refl B) S hw⟩
  · obtain ⟨p, vs, rfl, hv, hvs⟩ := hx.tup S.bh
    obtain ⟨w, ew, hw⟩ := atI_dns hvs e
    exact .inr (.inl ⟨p, vs, _, w, rfl, hy.int, hv, ew, k _ B H (Ex.refl B) S hw⟩)
  · split at e
    · rename_i hl
      obtain ⟨c, e1, rfl⟩ := Option.map_eq_some_iff.mp e
      exact .inr (.inr ⟨_, _, c, hx.str, hy.int, lim_line hl, e1, k _ B H (Ex.refl B) S (.str _)⟩)
    · cases e
  · obtain ⟨ds, e1, e2⟩ := Option.bind_eq_some_iff.mp e
    obtain ⟨p, vs, rfl, hv, hvs⟩ := hx.scr S.bh e1
    obtain ⟨w, ew, hw⟩ := atI_dns hvs e2
    exact .inl ⟨p, vs, _, w, rfl, hy.int, hv, ew, k _ B H (Ex.refl B) S hw⟩
  · cases e

/-! ### len -/
def rLenS (K : PySem.W.Frag) : List V → Hp → VK → Prop := fun xs H Q => ∃ p ys, xs = [.ref p] ∧ (SqL K H p ys ∨ SqT K H p ys) ∧ Q (.int ys.length) H
def rLenT : List V → Hp → VK → Prop := fun xs H Q => ∃ z : Str, xs = [.str z] ∧ z.length ≤ sizeLine ∧ Q (.int z.length) H
def rLenAny (K : PySem.W.Frag) : List V → Hp → VK → Prop := fun xs H Q => rLenS K xs H Q ∨ rLenT xs H Q
theorem call_lenAny {X : Cx} : CallR X (.builtin "len") (rLenAny X.K) := call_len_seq.or call_len_str
def gLen : G1
  | .list ds => some (.int ds.length)
  | .tuple ds => some (.int ds.length)
  | .str z => if z.length ≤ 1000000 then some (.int z.length) else none
  | .dict kvs => (scrT kvs).bind fun ds => some (.int ds.length)
  | _ => none
theorem ru_len : RU C (fun x H Q => rLenAny C.K [x] H Q) gLen := fun f B σ H ρ x a d Q S hx e k => by
  unfold gLen at e
  split at e
  · cases e
    obtain ⟨p, vs, rfl, hv, hvs⟩ := hx.list S.bh
    exact .inl ⟨p, vs, rfl, .inl hv, by rw [hvs.length]; exact k _ B H (Ex.refl B) S (.int _)⟩
  · cases e
    obtain ⟨p, vs, rfl, hv, hvs⟩ := hx.tup S.bh
    exact .inl ⟨p, vs, rfl, .inr hv, by rw [hvs.length]; exact k _ B H (Ex.refl B) S (.int _)⟩
  · split at e
    · rename_i hl
      cases e
      exact .inr ⟨_, by rw [hx.str], lim_line hl, k _ B H (Ex.refl B) S (.int _)⟩
    · cases e
  · obtain ⟨ds, e1, e2⟩ := Option.bind_eq_some_iff.mp e
    cases e2
    obtain ⟨p, vs, rfl, hv, hvs⟩ := hx.scr S.bh e1
    exact .inl ⟨p, vs, rfl, .inl hv, by rw [hvs.length]; exact k _ B H (Ex.refl B) S (.int _)⟩
  · cases e

/-! ### in -/
def flatD : D → Bool
  | .none => true
  | .bool _ => true
  | .int _ => true
  | .str _ => true
  | _ => false
theorem Dn.flat (h : Dn C B v d) (hd : flatD d = true) : flatV v = true := by
  cases h <;> first | rfl | cases hd
theorem Dn.eqv (h : Dn C B v x) (q : Dn C B u y) (hx : flatD x = true) (hy : flatD y = true) : eqV v u = PyData.eqv x y := by
  cases h <;> first | cases hx | skip
  all_goals (cases q <;> first | cases hy | skip)
  all_goals (simp [eqV, PyData.eqv])
theorem Dns.allFlat : ∀ {vs : List V} {ds : List D}, Dns C B vs ds → ds.all flatD = true → vs.all flatV = true
  | _, _, .nil, _ => rfl
  | _, _, .cons h hs, q => by
    rw [List.all_cons, Bool.and_eq_true] at q ⊢
    exact ⟨h.flat q.1, hs.allFlat q.2⟩
theorem Dns.inV (hx : Dn C B v x) (fx : flatD x = true) : ∀ {vs : List V} {ds : List D}, Dns C B vs ds → ds.all flatD = true → L2.inV v vs = ds.any fun z => PyData.eqv z x
  | _, _, .nil, _ => rfl
  | _, _, .cons h hs, q => by
    rw [List.all_cons, Bool.and_eq_true] at q
    have ih := Dns.inV hx fx hs q.2
    unfold L2.inV at ih ⊢
    rw [List.any_cons, List.any_cons, ih, h.eqv hx q.1 fx]
def rInS (neg : Bool) : R2 := fun x y H Q => ∃ i j : Str, x = .str i ∧ y = .str j ∧ Q (.bl (if neg then !(!(Builtin.Str.occurrences j i 0 j.length 1).isEmpty) else !(Builtin.Str.occurrences j i 0 j.length 1).isEmpty)) H
def rInL (K : PySem.W.Frag) (neg : Bool) : R2 := fun x y H Q => ∃ d ds, Dp K H x d ∧ Dp K H y (.list ds) ∧ SeqAt.shaped d = true ∧ SeqAt.shaped (.list ds) = true ∧ Q (.bl (if neg then !ds.any fun z => PyData.eqv z d else ds.any fun z => PyData.eqv z d)) H
def rInAny (K : PySem.W.Frag) (neg : Bool) : R2 := fun x y H Q => rIn K neg x y H Q ∨ rInL K neg x y H Q ∨ rInS neg x y H Q
theorem op_inAny {X : Cx} (hu : X.A.units + 65 < cLine) : OpR X (compareOp .In) (rInAny X.K false) := op_in_seq.or ((op_inD hu).or op_in_str)
theorem op_notInAny {X : Cx} (hu : X.A.units + 65 < cLine) : OpR X (compareOp .NotIn) (rInAny X.K true) := op_notIn_seq.or ((op_notInD hu).or op_notin_str)
def inD (x : D) : D → Option Bool
  | .list ds => if okD x && okD (.list ds) then some (ds.any fun z => PyData.eqv z x) else none
  | .tuple ds => if flatD x && ds.all flatD then some (ds.any fun z => PyData.eqv z x) else none
  | .str j => match x with
    | .str i => some (!(Builtin.Str.occurrences j i 0 j.length 1).isEmpty)
    | _ => none
  | _ => none
def gIn (neg : Bool) : G2 := fun x y => (inD x y).map fun b => .bool (if neg then !b else b)
theorem rb_in {neg : Bool} : RB C (rInAny C.K neg) (gIn neg) := fun f B σ H ρ x y a b d Q S hx hy e k => by
  obtain ⟨r, e0, rfl⟩ := Option.map_eq_some_iff.mp e
  clear e
  unfold inD at e0
  split at e0
  · split at e0
    · rename_i h
      rw [Bool.and_eq_true] at h
      cases e0
      exact .inr (.inl ⟨_, _, hx.dp S.bh (okD_lay h.1), hy.dp S.bh (okD_lay h.2), h.1, h.2, k _ B H (Ex.refl B) S (.bl _)⟩)
    · cases e0
  · split at e0
    · rename_i h
      rw [Bool.and_eq_true] at h
      cases e0
      obtain ⟨p, vs, rfl, hv, hvs⟩ := hy.tup S.bh
      have hx' : Dn C B x a := by
        rcases hx with q | ⟨p, _, q⟩
        · exact q
        · cases a <;> first | exact q.elim | cases h.1
      exact .inl ⟨p, vs, rfl, .inr hv, hx'.flat h.1, hvs.allFlat h.2, by rw [Dns.inV hx' h.1 hvs h.2]; exact k _ B H (Ex.refl B) S (.bl _)⟩
    · cases e0
  · split at e0
    · cases e0
      exact .inr (.inr ⟨_, _, hx.str, hy.str, k _ B H (Ex.refl B) S (.bl _)⟩)
    · cases e0
  · cases e0

/-! ### slices -/
def rSlAny (K : PySem.W.Frag) : V → Option Int → Option Int → Hp → VK → Prop := fun x lo hi H Q => rSlL K x lo hi H Q ∨ rSlA K x lo hi H Q
theorem sl_any {X : Cx} : SlR X (rSlAny X.K) := sl_list.or sl_tupA
def cutD (xs : List D) (lo hi : Option Int) : List D := (xs.drop (HT.sIx xs.length 0 lo)).take (HT.sIx xs.length xs.length hi - HT.sIx xs.length 0 lo)
theorem Dns.cut {vs : List V} (h : Dns C B vs ds) (lo hi : Option Int) : Dns C B (cutV vs lo hi) (cutD ds lo hi) := by
  unfold cutV cutD
  rw [h.length]
  exact (h.drop _).take _
def gSl (lo hi : Option Int) : G1
  | .list ds => some (.list (cutD ds lo hi))
  | .tuple ds => some (.tuple (cutD ds lo hi))
  | _ => none
abbrev OF := En → Option (Option Int × En)
def EOp (C : Cn) (to : TO) (O : OF) : Prop := ∀ (f : Fr0) (B : Hp) (σ : L2.St) (H : Hp) (ρ : En) (o : Option Int) (ρ' : En) (Q : Option Int → Hp → Prop), Stt C f B σ H ρ → O ρ = some (o, ρ') →
  (∀ B' H', Ex B B' → Stt C f B' σ H' ρ' → Q o H') → to σ H Q
def oNone : OF := fun ρ => some (none, ρ)
def oSome (E : EF) : OF := fun ρ => (E ρ).bind fun p => (gInt p.1).bind fun i => some (some i, p.2)
theorem eop_none : EOp C tNoPart oNone := fun f B σ H ρ o ρ' Q S e k => by
  cases e
  exact k B H (Ex.refl B) S
theorem eop_some {E : EF} (h : EE C te E) : EOp C (tPart te) (oSome E) := fun f B σ H ρ o ρ' Q S e k => by
  obtain ⟨⟨x, ρ1⟩, e1, z⟩ := Option.bind_eq_some_iff.mp e
  obtain ⟨i, e2, z⟩ := Option.bind_eq_some_iff.mp z
  cases z
  have h2 := gInt_inv e2
  simp only at h2
  subst h2
  refine h f B σ H ρ _ _ _ S e1 fun v B1 H1 eb S1 hv => ?_
  cases hv
  exact ⟨i, rfl, k B1 H1 eb S1⟩
/-- the object's slot is read in the end -/
def eSl (a : Ar) (L U : OF) : EF := fun ρ => (a.run ρ).bind fun p => (L p.2).bind fun l => (U l.2).bind fun u => (a.get p.1 u.2).bind fun x => (gSl l.1 u.1 x).bind fun d => some (d, u.2)
theorem sl_read {tl th : TO} {L U : OF} (ha : ArE C ta a) (hl : EOp C tl L) (hu : EOp C th U) (S : Stt C f B σ H ρ) (e : eSl a L U ρ = some (d, ρ')) {R : V → Option Int → Option Int → Hp → Prop}
    (k : ∀ v lo hi B' H' x, Ex B B' → Stt C f B' σ H' ρ' → Dv C B' H' v x → gSl lo hi x = some d → R v lo hi H') : ta σ H fun x H1 => tl σ H1 fun l H2 => th σ H2 fun u H3 => R x l u H3 := by
  obtain ⟨⟨x, ρ1⟩, e1, z1⟩ := Option.bind_eq_some_iff.mp e
  obtain ⟨⟨lo, ρ2⟩, e2, z2⟩ := Option.bind_eq_some_iff.mp z1
  obtain ⟨⟨hi, ρ3⟩, e3, z3⟩ := Option.bind_eq_some_iff.mp z2
  obtain ⟨x', e4, z4⟩ := Option.bind_eq_some_iff.mp z3
  obtain ⟨d', e5, z5⟩ := Option.bind_eq_some_iff.mp z4
  cases z5
  refine ar_run ha S e1 fun v B1 H1 eb1 S1 hv => hl f B1 σ H1 ρ1 lo ρ2 _ S1 e2 fun B2 H2 eb2 S2 => hu f B2 σ H2 ρ2 hi _ _ S2 e3 fun B3 H3 eb3 S3 => ?_
  exact k v lo hi B3 H3 x' ((eb1.trans eb2).trans eb3) S3 (((hv.mono eb2).mono eb3).dv S3 e4) e5
theorem ee_sl {tl th : TO} {L U : OF} (ha : ArE C ta a) (hl : EOp C tl L) (hu : EOp C th U) : EE C (tSl (rSlAny C.K) ta tl th) (eSl a L U) := fun f B σ H ρ d ρ' Q S e k => by
  refine sl_read ha hl hu S e fun v lo hi B1 H1 x eb S1 hv g => ?_
  unfold gSl at g
  split at g
  · cases g
    obtain ⟨p, vs, rfl, hq, hvs⟩ := hv.list S1.bh
    refine .inl ⟨p, vs, rfl, hq, fun q hq' => ?_⟩
    have nb := S1.bh.free hq'
    exact k _ _ _ (eb.trans (Ex.new nb)) (S1.alloc hq') (.lst (Rd.of upd_same) ((hvs.cut lo hi).mono (Ex.new nb)))
  · rename_i ds'
    cases g
    obtain ⟨p, vs, rfl, hq, hvs⟩ := hv.tup S1.bh
    refine .inr ⟨p, vs, rfl, hq, fun z => ?_, fun _ q hq' => ?_⟩
    · have e1 : cutD ds' lo hi = ds' := by
        unfold cutD
        rw [← hvs.length, z.1, z.2]
        simp [hvs.length]
      rw [e1] at k
      rcases hv with hv | ⟨_, _, hv⟩
      · exact k _ B1 H1 eb S1 hv
      · exact hv.elim
    · have nb := S1.bh.free hq'
      exact k _ _ _ (eb.trans (Ex.new nb)) (S1.alloc hq') (.tup (SqT.of upd_same) ((hvs.cut lo hi).mono (Ex.new nb)))
  · cases g
/-- .. of a list, for a slot of its own -/
def eSlL (a : Ar) (L U : OF) : EF := fun ρ => (eSl a L U ρ).bind fun p => match p.1 with
  | .list ds => some (.list ds, p.2)
  | _ => none
theorem eo_sl {tl th : TO} {L U : OF} (ha : ArE C ta a) (hl : EOp C tl L) (hu : EOp C th U) : EO C (tSl (rSlAny C.K) ta tl th) (eSlL a L U) := fun f B σ H ρ d ρ' Q S e k => by
  obtain ⟨⟨x, ρ1⟩, e1, z⟩ := Option.bind_eq_some_iff.mp e
  simp only at z
  split at z
  · cases z
    refine sl_read ha hl hu S e1 fun v lo hi B1 H1 x eb S1 hv g => ?_
    unfold gSl at g
    split at g
    · cases g
      obtain ⟨p, vs, rfl, hq, hvs⟩ := hv.list S1.bh
      refine .inl ⟨p, vs, rfl, hq, fun q hq' => ?_⟩
      exact eo_new (d := .list _) S1 hq' (show ∃ us, _ from ⟨_, upd_same, hvs.cut lo hi⟩) fun p B' H' eb' => k p B' H' (eb.trans eb')
    · cases g
    · cases g
  · cases z

/-! ### calls of built-in functions -/
def rMax2 : List V → Hp → VK → Prop := fun xs H Q => ∃ i j, xs = [.int i, .int j] ∧ Q (.int (if j > i then j else i)) H
def rMin2 : List V → Hp → VK → Prop := fun xs H Q => ∃ i j, xs = [.int i, .int j] ∧ Q (.int (if j < i then j else i)) H
def rAbs : List V → Hp → VK → Prop := fun xs H Q => ∃ i, xs = [.int i] ∧ Q (.int (if i < 0 then -i else i)) H
def rInt1 : List V → Hp → VK → Prop := fun xs H Q => (∃ i, xs = [.int i] ∧ Q (.int i) H) ∨ ∃ k, xs = [.bl k] ∧ Q (.int (if k then 1 else 0)) H
theorem call_max2F {X : Cx} (hc : X.calm = true) : CallR X (.builtin "max") rMax2 := call_max2 hc
theorem call_min2F {X : Cx} (hc : X.calm = true) : CallR X (.builtin "min") rMin2 := call_min2 hc
theorem call_absF {X : Cx} : CallR X (.builtin "abs") rAbs := call_abs
theorem call_int1F {X : Cx} : CallR X (.type "int") rInt1 := call_int1
abbrev gMax : G2 := gI0 fun i j => .int (if j > i then j else i)
abbrev gMin : G2 := gI0 fun i j => .int (if j < i then j else i)
def gAbs : G1
  | .int i => some (.int (if i < 0 then -i else i))
  | _ => none
def gToInt : G1
  | .int i => some (.int i)
  | .bool k => some (.int (if k then 1 else 0))
  | _ => none
theorem rb_max : RB C (fun x y H Q => rMax2 [x, y] H Q) gMax := fun f B σ H ρ x y a b d Q S hx hy e k => by
  obtain ⟨i, j, rfl, rfl, rfl⟩ := gI0_inv e
  exact ⟨i, j, by rw [hx.int, hy.int], k _ B H (Ex.refl B) S (.int _)⟩
theorem rb_min : RB C (fun x y H Q => rMin2 [x, y] H Q) gMin := fun f B σ H ρ x y a b d Q S hx hy e k => by
  obtain ⟨i, j, rfl, rfl, rfl⟩ := gI0_inv e
  exact ⟨i, j, by rw [hx.int, hy.int], k _ B H (Ex.refl B) S (.int _)⟩
theorem ru_abs : RU C (fun x H Q => rAbs [x] H Q) gAbs := fun f B σ H ρ x a d Q S hx e k => by
  unfold gAbs at e
  split at e
  · cases e
    exact ⟨_, by rw [hx.int], k _ B H (Ex.refl B) S (.int _)⟩
  · cases e
theorem ru_int : RU C (fun x H Q => rInt1 [x] H Q) gToInt := fun f B σ H ρ x a d Q S hx e k => by
  unfold gToInt at e
  split at e
  · cases e
    exact .inl ⟨_, by rw [hx.int], k _ B H (Ex.refl B) S (.int _)⟩
  · cases e
    exact .inr ⟨_, by rw [hx.bool], k _ B H (Ex.refl B) S (.int _)⟩
  · cases e
/-- tuple(x) -/
def rTupleOf (K : PySem.W.Frag) : List V → Hp → VK → Prop := fun xs H Q => ∃ p ys, xs = [.ref p] ∧ ((SqL K H p ys ∧ ∀ l, H l = none → Q (.ref l) (upd H l (.tup ys))) ∨ (SqT K H p ys ∧ Q (.ref p) H))
def rListOf (K : PySem.W.Frag) : List V → Hp → VK → Prop := fun xs H Q => ∃ p ys, xs = [.ref p] ∧ (SqL K H p ys ∨ SqT K H p ys) ∧ ∀ l, H l = none → Q (.ref l) (upd H l (.lst ys))
theorem call_tupleF {X : Cx} : CallR X (.type "tuple") (rTupleOf X.K) := call_tuple_of
theorem call_listF {X : Cx} : CallR X (.type "list") (rListOf X.K) := call_list_of
def gTuple : G1
  | .list ds => some (.tuple ds)
  | .tuple ds => some (.tuple ds)
  | _ => none
theorem ru_tuple : RU C (fun x H Q => rTupleOf C.K [x] H Q) gTuple := fun f B σ H ρ x a d Q S hx e k => by
  unfold gTuple at e
  split at e
  · cases e
    obtain ⟨p, vs, rfl, hv, hvs⟩ := hx.list S.bh
    refine ⟨p, vs, rfl, .inl ⟨hv, fun l hl => ?_⟩⟩
    have nb := S.bh.free hl
    exact k _ _ _ (Ex.new nb) (S.alloc hl) (.tup (SqT.of upd_same) (hvs.mono (Ex.new nb)))
  · cases e
    obtain ⟨p, vs, rfl, hv, hvs⟩ := hx.tup S.bh
    refine ⟨p, vs, rfl, .inr ⟨hv, ?_⟩⟩
    rcases hx with hx | ⟨_, _, hx⟩
    · exact k _ B H (Ex.refl B) S hx
    · exact hx.elim
  · cases e
def gList0 : G1
  | .list ds => some (.list ds)
  | .tuple ds => some (.list ds)
  | _ => none
theorem eo_list (ha : ArE C ta a) : EO C (tCB (rListOf C.K) (tCons ta tNil)) (eUn gList0 a) := fun f B σ H ρ d ρ' Q S e k => by
  obtain ⟨⟨x, ρ1⟩, e1, q⟩ := Option.bind_eq_some_iff.mp e
  obtain ⟨d', e2, q⟩ := Option.bind_eq_some_iff.mp q
  cases q
  refine ar1 ha S e1 fun v B1 H1 eb S1 hv => ?_
  have e3 : gList0 x = some d := e2
  unfold gList0 at e3
  split at e3
  · cases e3
    obtain ⟨p, vs, rfl, hq, hvs⟩ := hv.list S1.bh
    refine ⟨p, vs, rfl, .inl hq, fun l hl => ?_⟩
    exact eo_new (d := .list _) S1 hl (show ∃ us, _ from ⟨_, upd_same, hvs⟩) fun p B' H' eb' => k p B' H' (eb.trans eb')
  · cases e3
    obtain ⟨p, vs, rfl, hq, hvs⟩ := hv.tup S1.bh
    refine ⟨p, vs, rfl, .inr hq, fun l hl => ?_⟩
    exact eo_new (d := .list _) S1 hl (show ∃ us, _ from ⟨_, upd_same, hvs⟩) fun p B' H' eb' => k p B' H' (eb.trans eb')
  · cases e3
/-- sum, all, any -/
def intsOf : List D → Option (List Int)
  | [] => some []
  | .int i :: ds => (intsOf ds).map (i :: ·)
  | _ :: _ => none
def boolsOf : List D → Option (List Bool)
  | [] => some []
  | .bool i :: ds => (boolsOf ds).map (i :: ·)
  | _ :: _ => none
theorem intsOf_eq : ∀ {ds : List D} {ns : List Int}, intsOf ds = some ns → ds = ns.map PyData.int
  | [], ns, h => by cases h; rfl
  | d :: ds, ns, h => by
    cases d <;> first | cases h | skip
    obtain ⟨ms, e, rfl⟩ := Option.map_eq_some_iff.mp h
    rw [intsOf_eq e]
    rfl
theorem boolsOf_eq : ∀ {ds : List D} {ns : List Bool}, boolsOf ds = some ns → ds = ns.map PyData.bool
  | [], ns, h => by cases h; rfl
  | d :: ds, ns, h => by
    cases d <;> first | cases h | skip
    obtain ⟨ms, e, rfl⟩ := Option.map_eq_some_iff.mp h
    rw [boolsOf_eq e]
    rfl
@[simp] theorem intsOf_map (ns : List Int) : intsOf (ns.map PyData.int) = some ns := by
  induction ns with
  | nil => rfl
  | cons n ns ih => show (intsOf (ns.map PyData.int)).map (n :: ·) = _; rw [ih]; rfl
@[simp] theorem boolsOf_map (ns : List Bool) : boolsOf (ns.map PyData.bool) = some ns := by
  induction ns with
  | nil => rfl
  | cons n ns ih => show (boolsOf (ns.map PyData.bool)).map (n :: ·) = _; rw [ih]; rfl
def gSum : G1
  | .list ds => (intsOf ds).map fun ns => .int ns.sum
  | _ => none
def gAll : G1
  | .list ds => (boolsOf ds).map fun ns => .bool (ns.all id)
  | _ => none
def gAny : G1
  | .list ds => (boolsOf ds).map fun ns => .bool (ns.any id)
  | _ => none
theorem ru_sum : RU C (fun x H Q => rSum C.K [x] H Q) gSum := fun f B σ H ρ x a d Q S hx e k => by
  unfold gSum at e
  split at e
  · obtain ⟨ns, e1, rfl⟩ := Option.map_eq_some_iff.mp e
    have := intsOf_eq e1
    subst this
    obtain ⟨p, vs, rfl, hv, hvs⟩ := hx.list S.bh
    rw [hvs.ints] at hv
    exact ⟨p, ns, rfl, hv, k _ B H (Ex.refl B) S (.int _)⟩
  · cases e
theorem ru_all : RU C (fun x H Q => rAll C.K [x] H Q) gAll := fun f B σ H ρ x a d Q S hx e k => by
  unfold gAll at e
  split at e
  · obtain ⟨ns, e1, rfl⟩ := Option.map_eq_some_iff.mp e
    have := boolsOf_eq e1
    subst this
    obtain ⟨p, vs, rfl, hv, hvs⟩ := hx.list S.bh
    rw [hvs.bools] at hv
    exact ⟨p, ns, rfl, hv, k _ B H (Ex.refl B) S (.bl _)⟩
  · cases e
theorem ru_any : RU C (fun x H Q => rAny C.K [x] H Q) gAny := fun f B σ H ρ x a d Q S hx e k => by
  unfold gAny at e
  split at e
  · obtain ⟨ns, e1, rfl⟩ := Option.map_eq_some_iff.mp e
    have := boolsOf_eq e1
    subst this
    obtain ⟨p, vs, rfl, hv, hvs⟩ := hx.list S.bh
    rw [hvs.bools] at hv
    exact ⟨p, ns, rfl, hv, k _ B H (Ex.refl B) S (.bl _)⟩
  · cases e
/-- isinstance(x, T), T a built-in class -/
def isOdd : List (D × D) → Bool
  | [(.int _, .none)] => true
  | _ => false
theorem isOdd_eq {kvs : List (D × D)} (h : isOdd kvs = true) : ∃ n, kvs = [(.int n, .none)] := by
  unfold isOdd at h
  split at h
  · exact ⟨_, rfl⟩
  · cases h
def kindD : D → Option String
  | .none => some "NoneType"
  | .bool _ => some "bool"
  | .int _ => some "int"
  | .str _ => some "str"
  | .list _ => some "list"
  | .tuple _ => some "tuple"
  | .dict kvs => if isOdd kvs then some "dict" else none
def isiD (T : String) : D → Option Bool
  | .dict kvs => if isOdd kvs then some false else none
  | .bool _ => some (T == "bool" || T == "int")
  | d => (kindD d).map (· == T)
def gIsi (T : String) : G1 := fun d => (isiD T d).map PyData.bool
theorem Dv.odd_ty {n : Int} (h : Dv C B H v (.dict [(.int n, .none)])) (e : Ex B H) : TyX C.K H v (.type "dict") := by
  rcases h with h | ⟨p, rfl, xs, ep, _, h⟩
  · cases h with
    | odd h => exact .base (.dK (e _ _ h))
    | dic _ h => exact (ents_no_odd h).elim
  · exact (ents_no_odd h).elim
theorem Dv.ty {s : String} (h : Dv C B H v d) (e : Ex B H) (hk : kindD d = some s) : TyX C.K H v (.type s) := by
  cases d with
  | none => cases hk; rw [h.none]; exact .base .non
  | bool b => cases hk; rw [h.bool]; exact .base (.bl b)
  | int i => cases hk; rw [h.int]; exact .base (.int i)
  | str x => cases hk; rw [h.str]; exact .base (.str x)
  | list ds =>
    cases hk
    obtain ⟨p, vs, rfl, hv, _⟩ := h.list e
    rcases hv with (hv | ⟨o, hv⟩) | ⟨o, its, n, h1, h2, _⟩
    · exact .base (.lst hv)
    · exact .base (.frz hv)
    · exact .kList h1 h2
  | tuple ds =>
    cases hk
    obtain ⟨p, vs, rfl, hv, _⟩ := h.tup e
    rcases hv with (hv | ⟨o, hv⟩) | ⟨o, its, n, h1, h2, _⟩
    · exact .base (.tup hv)
    · exact .fTuple hv
    · exact .kTuple h1 h2
  | dict kvs =>
    have hk : (if isOdd kvs then some "dict" else Option.none) = some s := hk
    split at hk
    · rename_i q
      obtain ⟨n, rfl⟩ := isOdd_eq q
      cases hk
      exact Dv.odd_ty h e
    · cases hk
theorem isiD_kit {T : String} {b : Bool} (h : isiD T d = some b) (hT : T ∈ ["int", "bool", "str", "list", "tuple"]) : ∃ s, kindD d = some s ∧ kitB s T = some b := by
  have all : ∀ s ∈ ["NoneType", "bool", "int", "str", "list", "tuple"], ∀ T ∈ ["int", "bool", "str", "list", "tuple"], kitB s T = some (if s = "bool" then (T == "bool" || T == "int") else s == T) := by decide +kernel
  have nb : ∀ s, s ∈ ["NoneType", "int", "str", "list", "tuple"] → kindD d = some s → (kindD d).map (· == T) = some b → ∃ s, kindD d = some s ∧ kitB s T = some b := fun s hs hk q => by
    refine ⟨s, hk, ?_⟩
    rw [hk] at q
    have hs' : s ∈ ["NoneType", "bool", "int", "str", "list", "tuple"] := by
      simp only [List.mem_cons] at hs ⊢
      rcases hs with h1 | h1
      · exact .inl h1
      · exact .inr (.inr h1)
    rw [all s hs' T hT]
    have : s ≠ "bool" := by rintro rfl; simp at hs
    rw [if_neg this]
    exact q
  cases d with
  | none => exact nb "NoneType" (by simp) rfl h
  | bool k =>
    refine ⟨"bool", rfl, ?_⟩
    rw [all "bool" (by simp) T hT, if_pos rfl]
    exact h
  | int k => exact nb "int" (by simp) rfl h
  | str k => exact nb "str" (by simp) rfl h
  | list k => exact nb "list" (by simp) rfl h
  | tuple k => exact nb "tuple" (by simp) rfl h
  | dict k =>
    have h : (if isOdd k then some false else none) = some b := h
    split at h
    · rename_i q
      cases h
      have : ∀ T ∈ ["int", "bool", "str", "list", "tuple"], kitB "dict" T = some false := by decide +kernel
      exact ⟨"dict", by show (if isOdd k then some "dict" else none) = _; rw [if_pos q], this T hT⟩
    · cases h
theorem ee_isi {T : String} (hT : T ∈ ["int", "bool", "str", "list", "tuple"]) (ha : ArE C ta a) : EE C (tCB (rIsi C.K) (tCons ta (tCons (tC (.ty T)) tNil))) (eUn (gIsi T) a) := fun f B σ H ρ d ρ' Q S e k => by
  obtain ⟨⟨x, ρ1⟩, e1, q⟩ := Option.bind_eq_some_iff.mp e
  obtain ⟨d', e2, q⟩ := Option.bind_eq_some_iff.mp q
  cases q
  obtain ⟨b, e3, rfl⟩ := Option.map_eq_some_iff.mp e2
  refine ar1 ha S e1 fun v B1 H1 eb S1 hv => ?_
  obtain ⟨s, hk, hb⟩ := isiD_kit e3 hT
  exact ⟨v, .ty T, .type s, .type T, b, rfl, .ty T, hv.ty S1.bh hk, kit_ty hb, k _ B1 H1 eb S1 (.bl _)⟩
end
end Fc
set_option Elab.async false
set_option linter.all false
set_option maxRecDepth 100000
/-! Fc: statements, loops, comprehensions. -/
namespace Fc
open PySem L2 PyProof.Rows

inductive Rs where
  | sh (d : D)
  | ow (d : D)
  | pr (d e : D)
inductive Out where
  | nx (ρ : En)
  | rt (r : Rs) (ρ : En)
  | bk (ρ : En)
  | ct (ρ : En)
abbrev SF := En → Option Out
def OutK (C : Cn) (f : Fr0) (B : Hp) (D : Ends) : Out → Prop
  | .nx ρ => ∀ B' σ' H', Ex B B' → Stt C f B' σ' H' ρ → D.nx σ' H'
  | .bk ρ => ∀ B' σ' H', Ex B B' → Stt C f B' σ' H' ρ → D.bk σ' H'
  | .ct ρ => ∀ B' σ' H', Ex B B' → Stt C f B' σ' H' ρ → D.ct σ' H'
  | .rt (.sh d) ρ => ∀ v B' σ' H', Ex B B' → Stt C f B' σ' H' ρ → Dn C B' v d → D.rt v H'
  | .rt (.ow d) ρ => ∀ p B' σ' H', Ex B B' → Stt C f B' σ' H' ρ → f.H0 p = none → B' p = none → OwnAt C B' H' p d → D.rt (V.ref p) H'
  | .rt (.pr d e) ρ => ∀ a p u B' σ' H', Ex B B' → Stt C f B' σ' H' ρ → H' a = some (.tup [V.ref p, u]) → f.H0 p = none → B' p = none → OwnAt C B' H' p d → Dn C B' u e → D.rt (V.ref a) H'
def ES (C : Cn) (t : TS) (F : SF) : Prop := ∀ (f : Fr0) (B : Hp) (σ : L2.St) (H : Hp) (ρ : En) (o : Out) (D : Ends), Stt C f B σ H ρ → F ρ = some o → OutK C f B D o → t D σ H
theorem OutK.mono {C : Cn} {f : Fr0} {B B' : Hp} {D : Ends} {o : Out} (e : Ex B B') (h : OutK C f B D o) : OutK C f B' D o := by
  cases o with
  | nx ρ => exact fun B2 σ H e2 => h B2 σ H (e.trans e2)
  | bk ρ => exact fun B2 σ H e2 => h B2 σ H (e.trans e2)
  | ct ρ => exact fun B2 σ H e2 => h B2 σ H (e.trans e2)
  | rt r ρ =>
    cases r with
    | sh d => exact fun v B2 σ H e2 => h v B2 σ H (e.trans e2)
    | ow d => exact fun p B2 σ H e2 => h p B2 σ H (e.trans e2)
    | pr d d' => exact fun a p u B2 σ H e2 => h a p u B2 σ H (e.trans e2)
/-! ### targets -/
abbrev GF := D → En → Option En
def EG (C : Cn) (g : TG) (G : GF) : Prop := ∀ (f : Fr0) (B : Hp) (σ : L2.St) (H : Hp) (ρ : En) (v : V) (d : D) (ρ' : En) (Q : L2.St → Hp → Prop), Stt C f B σ H ρ → Dn C B v d → G d ρ = some ρ' →
  (∀ σ', Stt C f B σ' H ρ' → Q σ' H) → g v σ H Q
def EGs (C : Cn) (g : TGs) (G : List D → En → Option En) : Prop := ∀ (f : Fr0) (B : Hp) (σ : L2.St) (H : Hp) (ρ : En) (vs : List V) (ds : List D) (ρ' : En) (Q : L2.St → Hp → Prop), Stt C f B σ H ρ → Dns C B vs ds → G ds ρ = some ρ' →
  (∀ σ', Stt C f B σ' H ρ' → Q σ' H) → g vs σ H Q
def isIo : Option Sl → Bool
  | some (.io _) => true
  | _ => false
theorem isIo_no {ρ : En} {i : Nat} (h : isIo ρ[i]? = false) (d : D) : ρ[i]? ≠ some (.io d) := fun e => by rw [e] at h; cases h
def gNm (i : Nat) : GF := fun d ρ => if isIo ρ[i]? then none else some (ρ.set i (.sh d))
def gsNil : List D → En → Option En
  | [], ρ => some ρ
  | _ :: _, _ => none
def gsCons (G : GF) (Gs : List D → En → Option En) : List D → En → Option En
  | [], _ => none
  | d :: ds, ρ => (G d ρ).bind (Gs ds)
def gTp (n : Nat) (Gs : List D → En → Option En) : GF := fun d ρ => match d with
  | .tuple ds => if ds.length = n then Gs ds ρ else none
  | _ => none
section
variable {C : Cn} {f : Fr0} {B B' H H' : Hp} {σ : L2.St} {ρ ρ' : En} {i j : Nat} {te : TE} {E : EF} {g : TG} {G : GF} {gs : TGs} {Gs : List D → En → Option En} {t u : TS} {F U : SF}
theorem eg_nm : EG C (gName i) (gNm i) := fun f B σ H ρ v d ρ' Q S hv e k => by
  unfold gNm at e
  split at e
  · cases e
  · rename_i h
    cases e
    exact k _ (S.setSh hv (isIo_no (by simpa using h)))
theorem egs_nil : EGs C gNil gsNil := fun f B σ H ρ vs ds ρ' Q S hv e k => by
  cases hv with
  | nil => cases e; exact ⟨rfl, k σ S⟩
  | cons _ _ => cases e
theorem egs_cons (h : EG C g G) (hs : EGs C gs Gs) : EGs C (gCons g gs) (gsCons G Gs) := fun f B σ H ρ vs ds ρ' Q S hv e k => by
  cases hv with
  | nil => cases e
  | cons hv hvs =>
    obtain ⟨ρ1, e1, e2⟩ := Option.bind_eq_some_iff.mp e
    exact ⟨_, _, rfl, h f B σ H ρ _ _ ρ1 _ S hv e1 fun σ1 S1 => hs f B σ1 H ρ1 _ _ ρ' Q S1 hvs e2 k⟩
theorem eg_tp {n : Nat} (h : EGs C gs Gs) : EG C (gTup C.K n gs) (gTp n Gs) := fun f B σ H ρ v d ρ' Q S hv e k => by
  cases d with
  | tuple ds =>
    have e : (if ds.length = n then Gs ds ρ else none) = some ρ' := e
    split at e
    · rename_i hl
      cases hv with
      | tup hq hvs => exact ⟨_, _, rfl, S.bh.t hq, hvs.length.trans hl, h f B σ H ρ _ ds ρ' Q S hvs e k⟩
    · cases e
  | _ => cases e

/-! ### statements -/
def sNext : SF := fun ρ => some (.nx ρ)
def sBreak : SF := fun ρ => some (.bk ρ)
def sCont : SF := fun ρ => some (.ct ρ)
def sNever : SF := fun _ => none
def sThen (o : Out) (U : SF) : Option Out := match o with
  | .nx ρ => U ρ
  | o => some o
def sSeq (F U : SF) : SF := fun ρ => (F ρ).bind fun o => sThen o U
def sAsg (E : EF) (G : GF) : SF := fun ρ => (E ρ).bind fun p => (G p.1 p.2).bind fun ρ' => some (.nx ρ')
def sAsgO (E : EF) (i : Nat) : SF := fun ρ => (E ρ).bind fun p => if isIo p.2[i]? then none else some (.nx (p.2.set i (.ow p.1)))
def sDrop (E : EF) : SF := fun ρ => (E ρ).bind fun p => some (.nx p.2)
def sRet (E : EF) : SF := fun ρ => (E ρ).bind fun p => some (.rt (.sh p.1) p.2)
def sRetO (E : EF) : SF := fun ρ => (E ρ).bind fun p => some (.rt (.ow p.1) p.2)
def sRetV (i : Nat) : SF := fun ρ => match ρ[i]? with
  | some (.ow d) => some (.rt (.ow d) (ρ.set i .em))
  | _ => none
def ownD' : Option Sl → Option D
  | some (.ow d) => some d
  | _ => none
theorem ownD'_eq {s : Option Sl} {d : D} (h : ownD' s = some d) : s = some (.ow d) := by
  unfold ownD' at h
  split at h
  · cases h
    rfl
  · cases h
def sRetN : SF := fun ρ => some (.rt (.sh .none) ρ)
def sIf (T : TF) (F U : SF) : SF := fun ρ => (T ρ).bind fun p => if p.1 then F p.2 else U p.2
theorem es_next : ES C tNext sNext := fun f B σ H ρ o D S e k => by
  cases e
  exact k B σ H (Ex.refl B) S
theorem es_break : ES C tBreak sBreak := fun f B σ H ρ o D S e k => by
  cases e
  exact k B σ H (Ex.refl B) S
theorem es_cont : ES C tCont sCont := fun f B σ H ρ o D S e k => by
  cases e
  exact k B σ H (Ex.refl B) S
theorem es_never : ES C tNever sNever := fun f B σ H ρ o D S e k => by cases e
theorem es_seq (h1 : ES C t F) (h2 : ES C u U) : ES C (tSeq t u) (sSeq F U) := fun f B σ H ρ o D S e k => by
  obtain ⟨o1, e1, e2⟩ := Option.bind_eq_some_iff.mp e
  refine h1 f B σ H ρ o1 _ S e1 ?_
  cases o1 with
  | nx ρ1 => exact fun B1 σ1 H1 eb S1 => h2 f B1 σ1 H1 ρ1 o D S1 e2 (k.mono eb)
  | bk ρ1 => cases e2; exact k
  | ct ρ1 => cases e2; exact k
  | rt r ρ1 =>
    cases e2
    cases r with
    | sh d => exact k
    | ow d => exact k
    | pr d d2 => exact k
theorem es_asg (h : EE C te E) (hg : EG C g G) : ES C (tAsg te g) (sAsg E G) := fun f B σ H ρ o D S e k => by
  obtain ⟨⟨d, ρ1⟩, e1, z1⟩ := Option.bind_eq_some_iff.mp e
  obtain ⟨ρ2, e2, z2⟩ := Option.bind_eq_some_iff.mp z1
  cases z2
  exact h f B σ H ρ d ρ1 _ S e1 fun v B1 H1 eb S1 hv => hg f B1 σ H1 ρ1 v d ρ2 _ S1 hv e2 fun σ2 S2 => k B1 σ2 H1 eb S2
theorem es_asgO (h : EO C te E) : ES C (tAsg te (gName i)) (sAsgO E i) := fun f B σ H ρ o D S e k => by
  obtain ⟨⟨d, ρ1⟩, e1, z1⟩ := Option.bind_eq_some_iff.mp e
  simp only at z1
  split at z1
  · cases z1
  · rename_i hi
    cases z1
    exact h f B σ H ρ d ρ1 _ S e1 fun p B1 H1 eb S1 h0 ht hb hn ho => k B1 _ H1 eb (S1.setOw h0 ht hb ho hn (isIo_no (by simpa using hi)))
theorem es_drop (h : EE C te E) : ES C (tDrop te) (sDrop E) := fun f B σ H ρ o D S e k => by
  obtain ⟨⟨d, ρ1⟩, e1, z1⟩ := Option.bind_eq_some_iff.mp e
  cases z1
  exact h f B σ H ρ d ρ1 _ S e1 fun v B1 H1 eb S1 hv => k B1 σ H1 eb S1
theorem es_ret (h : EE C te E) : ES C (tRet te) (sRet E) := fun f B σ H ρ o D S e k => by
  obtain ⟨⟨d, ρ1⟩, e1, z1⟩ := Option.bind_eq_some_iff.mp e
  cases z1
  exact h f B σ H ρ d ρ1 _ S e1 fun v B1 H1 eb S1 hv => k v B1 σ H1 eb S1 hv
theorem es_retO (h : EO C te E) : ES C (tRet te) (sRetO E) := fun f B σ H ρ o D S e k => by
  obtain ⟨⟨d, ρ1⟩, e1, z1⟩ := Option.bind_eq_some_iff.mp e
  cases z1
  exact h f B σ H ρ d ρ1 _ S e1 fun p B1 H1 eb S1 h0 ht hb hn ho => k p B1 σ H1 eb S1 h0 hb ho
theorem es_retV : ES C (tRet (tVar i)) (sRetV i) := fun f B σ H ρ o D S e k => by
  unfold sRetV at e
  split at e
  · rename_i d hd
    cases e
    obtain ⟨p, e1, h0, hb, ho⟩ := S.sl i _ hd
    refine ⟨_, e1, k p B σ H (Ex.refl B) (S.forget (by rw [List.length_set]; exact S.len) (fun j s h => ?_) fun q hq => ?_) h0 hb ho⟩
    · by_cases hj : i = j
      · subst hj
        rw [List.getElem?_set_self (List.getElem?_eq_some_iff.mp hd).1] at h
        cases h
        exact .inl rfl
      · rw [List.getElem?_set_ne hj] at h
        exact .inr ⟨h, rfl⟩
    · obtain ⟨d', e2⟩ := S.iof q hq
      by_cases hj : i = q.1
      · subst hj
        rw [hd] at e2
        cases e2
      · exact ⟨d', by rw [List.getElem?_set_ne hj]; exact e2⟩
  · cases e
def sRetP (i : Nat) (E : EF) : SF := fun ρ => (ownD' ρ[i]?).bind fun _ => (E ρ).bind fun q => (ownD' q.2[i]?).bind fun d => some (.rt (.pr d q.1) (q.2.set i .em))
theorem es_retP (h : EE C te E) : ES C (tRet (tTup (tCons (tVar i) (tCons te tNil)))) (sRetP i E) := fun f B σ H ρ o D S e k => by
  obtain ⟨d0, e0, z0⟩ := Option.bind_eq_some_iff.mp e
  obtain ⟨⟨d, ρ1⟩, e1, z1⟩ := Option.bind_eq_some_iff.mp z0
  obtain ⟨d1, e2, z2⟩ := Option.bind_eq_some_iff.mp z1
  cases z2
  have g0 := ownD'_eq e0
  have g1 := ownD'_eq e2
  simp only at g1
  obtain ⟨p0, s0, _⟩ := S.sl i _ g0
  refine ⟨_, s0, h f B σ H ρ d ρ1 _ S e1 fun u B1 H1 eb S1 hu => ⟨by show 2 ≤ sizeLine; decide, fun a ha => ?_⟩⟩
  obtain ⟨p, s1, h0, hb, ho⟩ := S1.sl i _ g1
  rw [s0] at s1
  cases s1
  refine k a p0 u B1 σ _ eb ((S1.forget (by rw [List.length_set]; exact S1.len) (fun j s h => ?_) fun q hq => ?_).allocO ha) upd_same h0 hb (ho.mono (Ex.refl _) fun o q => ?_) hu
  · by_cases hj : i = j
    · subst hj
      rw [List.getElem?_set_self (List.getElem?_eq_some_iff.mp g1).1] at h
      cases h
      exact .inl rfl
    · rw [List.getElem?_set_ne hj] at h
      exact .inr ⟨h, rfl⟩
  · obtain ⟨d', e4⟩ := S1.iof q hq
    by_cases hj : i = q.1
    · subst hj
      exact nomatch (g1.symm.trans e4)
    · exact ⟨d', by rw [List.getElem?_set_ne hj]; exact e4⟩
  · rw [upd_ne (ne_of_none q ha)]
    exact q
theorem es_retN : ES C tRetN sRetN := fun f B σ H ρ o D S e k => by
  cases e
  exact k _ B σ H (Ex.refl B) S .non
theorem es_if {c : TT} {T : TF} (hc : ET C c T) (h1 : ES C t F) (h2 : ES C u U) : ES C (tIfS c t u) (sIf T F U) := fun f B σ H ρ o D S e k => by
  obtain ⟨⟨b, ρ1⟩, e1, z1⟩ := Option.bind_eq_some_iff.mp e
  refine hc f B σ H ρ b ρ1 _ S e1 fun B1 H1 eb S1 => ?_
  cases b with
  | true => exact h1 f B1 σ H1 ρ1 o D S1 z1 (k.mono eb)
  | false => exact h2 f B1 σ H1 ρ1 o D S1 z1 (k.mono eb)
/-- name op= e, ints -/
def sAug (i : Nat) (E : EF) (g : Int → Int → Int) : SF := fun ρ => (shD ρ[i]?).bind fun x => (gInt x).bind fun a => (E ρ).bind fun p => (gInt p.1).bind fun b => if isIo p.2[i]? then none else some (.nx (p.2.set i (.sh (.int (g a b)))))
theorem es_aug {gi : Int → Int → Int} (h : EE C te E) : ES C (tAug i te (ipI gi)) (sAug i E gi) := fun f B σ H ρ o D S e k => by
  obtain ⟨x, e1, z1⟩ := Option.bind_eq_some_iff.mp e
  obtain ⟨a, e2, z2⟩ := Option.bind_eq_some_iff.mp z1
  obtain ⟨⟨d, ρ1⟩, e3, z3⟩ := Option.bind_eq_some_iff.mp z2
  obtain ⟨b, e4, z4⟩ := Option.bind_eq_some_iff.mp z3
  have h2 := gInt_inv e2
  have h4 := gInt_inv e4
  simp only at h4 z4
  subst h2 h4
  split at z4
  · cases z4
  · rename_i hi
    cases z4
    have hs : slD ρ[i]? = some (.int a) := by
      cases q : ρ[i]? with
      | none => rw [q] at e1; cases e1
      | some s =>
        rw [q] at e1
        cases s <;> first | exact e1 | cases e1
    obtain ⟨v, ev, hv⟩ := S.val hs
    refine ⟨v, ev, h f B σ H ρ _ ρ1 _ S e3 fun w B1 H1 eb S1 hw => ?_⟩
    cases hw
    exact ⟨a, b, hv.int, rfl, k B1 _ H1 eb (S1.setSh (.int _) (isIo_no (by simpa using hi)))⟩
/-- two names at once -/
def sPar (i j : Nat) (E1 E2 : EF) : SF := fun ρ => (E1 ρ).bind fun p => (E2 p.2).bind fun q => if isIo q.2[i]? || isIo q.2[j]? || i == j then none else some (.nx ((q.2.set i (.sh p.1)).set j (.sh q.1)))
theorem es_par {t1 t2 : TE} {E1 E2 : EF} (h1 : EE C t1 E1) (h2 : EE C t2 E2) : ES C (tPar i j (tCons t1 (tCons t2 tNil))) (sPar i j E1 E2) := fun f B σ H ρ o D S e k => by
  obtain ⟨⟨d, ρ1⟩, e1, z1⟩ := Option.bind_eq_some_iff.mp e
  obtain ⟨⟨d2, ρ2⟩, e2, z2⟩ := Option.bind_eq_some_iff.mp z1
  simp only at z2
  split at z2
  · cases z2
  · rename_i hi
    cases z2
    simp only [Bool.or_eq_true, not_or, Bool.not_eq_true] at hi
    refine h1 f B σ H ρ d ρ1 _ S e1 fun v B1 H1 eb S1 hv => h2 f B1 σ H1 ρ1 d2 ρ2 _ S1 e2 fun w B2 H2 eb2 S2 hw => ⟨v, w, rfl, ?_⟩
    have hij : i ≠ j := by simpa using hi.2
    refine k B2 _ H2 (eb.trans eb2) ((S2.setSh (hv.mono eb2) (isIo_no hi.1.1)).setSh hw fun d => ?_)
    rw [List.getElem?_set_ne hij]
    exact isIo_no hi.1.2 d
/-- a slot's own object is shared from now on -/
def frz (i : Nat) (ρ : En) : Option En := match ρ[i]? with
  | some (.ow d) => some (ρ.set i (.sh d))
  | some (.io _) => none
  | _ => some ρ
theorem Stt.frz (S : Stt C f B σ H ρ) (h : frz i ρ = some ρ') : ∃ B', Ex B B' ∧ Stt C f B' σ H ρ' := by
  unfold Fc.frz at h
  split at h
  · rename_i d hd
    cases h
    have hl := (List.getElem?_eq_some_iff.mp hd).1
    obtain ⟨p, e1, h0, hb, ho⟩ := S.sl i _ hd
    obtain ⟨o, eo⟩ := ho.got
    have ht : f.tmp p = none := by
      cases q : f.tmp p with
      | none => rfl
      | some u => exact absurd e1 ((S.tm p u q).2.2 i (by rw [hd]; trivial))
    have S1 : Stt C f B σ H (ρ.set i .em) := S.forget (by rw [List.length_set]; exact S.len) (fun j s h => by
      by_cases hj : i = j
      · subst hj
        rw [List.getElem?_set_self hl] at h
        cases h
        exact .inl rfl
      · rw [List.getElem?_set_ne hj] at h
        exact .inr ⟨h, rfl⟩) fun q hq => by
      obtain ⟨d', e2⟩ := S.iof q hq
      by_cases hj : i = q.1
      · subst hj
        rw [hd] at e2
        cases e2
      · exact ⟨d', by rw [List.getElem?_set_ne hj]; exact e2⟩
    have hn : ∀ j : Nat, Sl.own (ρ.set i .em)[j]? → σ[j]? ≠ some (some (V.ref p)) := fun j hj e2 => by
      by_cases hij : i = j
      · subst hij
        rw [List.getElem?_set_self hl] at hj
        exact hj.elim
      · rw [List.getElem?_set_ne hij] at hj
        exact hij (S.dis i j p (by rw [hd]; trivial) hj e1 e2)
    have S2 := S1.share eo h0 ht hb hn
    have dv : Dn C (upd B p o) (V.ref p) d := by
      cases d with
      | list ds =>
        obtain ⟨vs, q, z⟩ := ho
        rw [eo] at q
        cases q
        exact .lst (Rd.of upd_same) (z.mono (Ex.new hb))
      | dict kvs =>
        obtain ⟨xs, ep, q, z⟩ := ho
        rw [eo] at q
        cases q
        exact .dic upd_same (z.mono (Ex.new hb))
      | _ => exact ho.elim
    have S3 := S2.setSh (i := i) dv (fun d => by rw [List.getElem?_set_self hl]; exact fun z => nomatch z)
    rw [List.set_set] at S3
    have es : σ.set i (some (V.ref p)) = σ := by
      apply List.ext_getElem?
      intro j
      by_cases hij : i = j
      · subst hij
        rw [List.getElem?_set_self (by rw [S.len]; exact hl)]
        exact e1.symm
      · rw [List.getElem?_set_ne hij]
    rw [es] at S3
    exact ⟨_, Ex.new hb, S3⟩
  · cases h
  · cases h
    exact ⟨B, Ex.refl B, S⟩
def sFrz (i : Nat) (F : SF) : SF := fun ρ => (frz i ρ).bind F
theorem es_frz (i : Nat) (h : ES C t F) : ES C t (sFrz i F) := fun f B σ H ρ o D S e k => by
  obtain ⟨ρ1, e1, e2⟩ := Option.bind_eq_some_iff.mp e
  obtain ⟨B1, eb, S1⟩ := S.frz e1
  exact h f B1 σ H ρ1 o D S1 e2 (k.mono eb)

/-! ### while -/
def whN (T : TF) (F : SF) : Nat → SF
  | 0, _ => none
  | n + 1, ρ => (T ρ).bind fun p => if p.1 then (F p.2).bind fun o => match o with
      | .nx ρ' => whN T F n ρ'
      | .ct ρ' => whN T F n ρ'
      | .bk ρ' => some (.nx ρ')
      | .rt r ρ' => some (.rt r ρ') else some (.nx p.2)
theorem whN_mono {T : TF} {F : SF} : ∀ {n m : Nat} {ρ : En} {o : Out}, whN T F n ρ = some o → n ≤ m → whN T F m ρ = some o
  | 0, _, _, _, h, _ => by cases h
  | n + 1, 0, _, _, _, h => absurd h (Nat.not_succ_le_zero n)
  | n + 1, m + 1, ρ, o, h, hl => by
    unfold whN at h ⊢
    obtain ⟨⟨b, ρ1⟩, e1, z1⟩ := Option.bind_eq_some_iff.mp h
    rw [e1]
    show (if b = true then _ else _) = _
    simp only at z1
    cases b with
    | false => exact z1
    | true =>
      rw [if_pos rfl] at z1 ⊢
      obtain ⟨o1, e2, z2⟩ := Option.bind_eq_some_iff.mp z1
      rw [e2]
      cases o1 with
      | nx ρ2 => exact whN_mono (n := n) (m := m) z2 (Nat.le_of_succ_le_succ hl)
      | ct ρ2 => exact whN_mono (n := n) (m := m) z2 (Nat.le_of_succ_le_succ hl)
      | bk ρ2 => exact z2
      | rt r ρ2 => exact z2
open Classical in
noncomputable def sWhile (T : TF) (F : SF) : SF := fun ρ => if h : ∃ n o, whN T F n ρ = some o then some (Classical.choose (Classical.choose_spec h)) else none
theorem sWhile_of {T : TF} {F : SF} {n : Nat} {ρ : En} {o : Out} (h : whN T F n ρ = some o) : sWhile T F ρ = some o := by
  have hx : ∃ n o, whN T F n ρ = some o := ⟨n, o, h⟩
  unfold sWhile
  rw [dif_pos hx]
  have q := Classical.choose_spec (Classical.choose_spec hx)
  have a := whN_mono h (Nat.le_max_left n (Classical.choose hx))
  have b := whN_mono q (Nat.le_max_right n (Classical.choose hx))
  rw [a] at b
  exact b.symm
theorem sWhile_inv {T : TF} {F : SF} {ρ : En} {o : Out} (h : sWhile T F ρ = some o) : ∃ n, whN T F n ρ = some o := by
  unfold sWhile at h
  split at h
  · rename_i hx
    cases h
    exact ⟨_, Classical.choose_spec (Classical.choose_spec hx)⟩
  · cases h
theorem es_while {c : TT} {T : TF} (hc : ET C c T) (hb : ES C t F) : ES C (tWhile c t) (sWhile T F) := fun f B σ H ρ o D S e k => by
  obtain ⟨n, e⟩ := sWhile_inv e
  refine ⟨fun m σ1 H1 => ∃ B1 ρ1, Ex B B1 ∧ Stt C f B1 σ1 H1 ρ1 ∧ whN T F m ρ1 = some o, ⟨n, B, ρ, Ex.refl B, S, e⟩, fun m σ1 H1 ⟨B1, ρ1, eb1, S1, e1⟩ => ?_⟩
  cases m with
  | zero => cases e1
  | succ m =>
    unfold whN at e1
    obtain ⟨⟨b, ρ2⟩, e2, z2⟩ := Option.bind_eq_some_iff.mp e1
    refine hc f B1 σ1 H1 ρ1 b ρ2 _ S1 e2 fun B2 H2 eb2 S2 => ?_
    simp only at z2
    cases b with
    | false =>
      cases z2
      exact k B2 σ1 H2 (eb1.trans eb2) S2
    | true =>
      rw [if_pos rfl] at z2 ⊢
      obtain ⟨o1, e3, z3⟩ := Option.bind_eq_some_iff.mp z2
      refine ⟨fun σ3 H3 => ∃ B3 ρ3, Ex B B3 ∧ Stt C f B3 σ3 H3 ρ3 ∧ whN T F m ρ3 = some o, fun σ3 H3 h => ⟨m, Nat.lt_succ_self m, h⟩, ?_⟩
      refine hb f B2 σ1 H2 ρ2 o1 _ S2 e3 ?_
      cases o1 with
      | nx ρ3 => exact fun B3 σ3 H3 eb3 S3 => ⟨B3, ρ3, (eb1.trans eb2).trans eb3, S3, z3⟩
      | ct ρ3 => exact fun B3 σ3 H3 eb3 S3 => ⟨B3, ρ3, (eb1.trans eb2).trans eb3, S3, z3⟩
      | bk ρ3 =>
        cases z3
        exact fun B3 σ3 H3 eb3 S3 => k B3 σ3 H3 ((eb1.trans eb2).trans eb3) S3
      | rt r ρ3 =>
        cases z3
        cases r with
        | sh d => exact fun v B3 σ3 H3 eb3 S3 hv => k v B3 σ3 H3 ((eb1.trans eb2).trans eb3) S3 hv
        | ow d => exact fun v B3 σ3 H3 eb3 S3 h0 hb ho => k v B3 σ3 H3 ((eb1.trans eb2).trans eb3) S3 h0 hb ho
        | pr d d2 => exact fun a p u B3 σ3 H3 eb3 S3 => k a p u B3 σ3 H3 ((eb1.trans eb2).trans eb3) S3
end

/-! ### slots forgotten -/
def kill : List Nat → En → En
  | [], ρ => ρ
  | i :: is, ρ => if isIo (kill is ρ)[i]? then kill is ρ else (kill is ρ).set i .em
section
variable {C : Cn} {f : Fr0} {B B' H H' : Hp} {σ : L2.St} {ρ ρ' : En}
theorem kill_length (ρ : En) : ∀ is : List Nat, (kill is ρ).length = ρ.length
  | [] => rfl
  | i :: is => by
    unfold kill
    split
    · exact kill_length ρ is
    · rw [List.length_set]; exact kill_length ρ is
theorem kill_get (ρ : En) : ∀ (is : List Nat) (j : Nat) (s : Sl), (kill is ρ)[j]? = some s → s = .em ∨ ρ[j]? = some s
  | [], j, s, h => .inr h
  | i :: is, j, s, h => by
    unfold kill at h
    split at h
    · exact kill_get ρ is j s h
    · by_cases hj : i = j
      · subst hj
        by_cases hl : i < (kill is ρ).length
        · rw [List.getElem?_set_self hl] at h
          cases h
          exact .inl rfl
        · rw [List.getElem?_eq_none (by rw [List.length_set]; omega)] at h
          cases h
      · rw [List.getElem?_set_ne hj] at h
        exact kill_get ρ is j s h
theorem kill_io (ρ : En) (d : D) (j : Nat) (h : ρ[j]? = some (.io d)) : ∀ is : List Nat, (kill is ρ)[j]? = some (.io d)
  | [] => h
  | i :: is => by
    have ih := kill_io ρ d j h is
    unfold kill
    split
    · exact ih
    · rename_i hi
      by_cases hj : i = j
      · subst hj
        rw [ih] at hi
        exact absurd rfl hi
      · rw [List.getElem?_set_ne hj]
        exact ih
theorem Stt.kill (S : Stt C f B σ H ρ) (is : List Nat) : Stt C f B σ H (kill is ρ) :=
  S.forget (by rw [kill_length]; exact S.len) (fun j s h => by
    rcases kill_get ρ is j s h with h | h
    · exact .inl h
    · exact .inr ⟨h, rfl⟩) fun q hq => by
    obtain ⟨d, e⟩ := S.iof q hq
    exact ⟨d, kill_io ρ d q.1 e is⟩
end

/-! ### what a loop walks -/
def BoEx (f0 f : Fr0) : Prop := ∀ q ∈ f0.bos, ∀ o, f0.tmp q.2 = some o → f.tmp q.2 = some o
theorem BoEx.refl (f : Fr0) : BoEx f f := fun _ _ _ h => h
theorem BoEx.of {f f' : Fr0} (hb : f'.bos = f.bos) (e : Ex f.tmp f'.tmp) : BoEx f f' := fun q _ o h => e _ o h
theorem BoEx.told {f f2 : Fr0} {p : Addr} {o : HO} (h : BoEx f f2) (hp : f.tmp p = none) (hbs : ∀ q ∈ f.bos, ∃ o, f.tmp q.2 = some o) : BoEx { f with tmp := upd f.tmp p o } f2 := fun q hq u e => by
  obtain ⟨o2, h2⟩ := hbs q hq
  refine h q hq u ?_
  have e' : upd f.tmp p o q.2 = some u := e
  rw [upd_ne fun z => by rw [z, hp] at h2; cases h2] at e'
  exact e'
def ItOk (C : Cn) (f0 : Fr0) (B : Hp) (J : It) (ds : List D) : Prop := ∀ (f : Fr0) (B2 H2 : Hp) (σ : L2.St) (ρ : En) (i : Nat), BoEx f0 f → Ex B B2 → Stt C f B2 σ H2 ρ →
  (∀ d, ds[i]? = some d → J.go i H2 ∧ ∀ x H3, J.yld i H2 x H3 → ∃ B3, Ex B2 B3 ∧ Stt C f B3 σ H3 ρ ∧ Dn C B3 x d) ∧ (i = ds.length → J.stop i H2)
abbrev IF := En → Option (List D × En)
def EI (C : Cn) (wi : TI) (I : IF) : Prop := ∀ (f : Fr0) (B : Hp) (σ : L2.St) (H : Hp) (ρ : En) (ds : List D) (ρ' : En) (R : It → Hp → Prop), Stt C f B σ H ρ → I ρ = some (ds, ρ') →
  (∀ J B' H', Ex B B' → Stt C f B' σ H' ρ' → ItOk C f B' J ds → R J H') → wi σ H R
/-- any list or tuple -/
def iSeq (K : PySem.W.Frag) (tl : TE) : TI := fun σ H R => tl σ H fun x H1 => ∃ a, x = .ref a ∧ ((∃ xs, SqL K H1 a xs) ∧ R (Itl K a) H1 ∨ (∃ xs, SqT K H1 a xs) ∧ R (Itt K a) H1)
theorem pi_seq {X : Cx} {tg l : Expr} {tl : TE} (hl : PE X l tl) : PI X tg l (iSeq X.K tl) := by
  refine ⟨fun pins s σ H R I h => ?_⟩
  refine thn (hl.run pins s σ H _ I h) fun v s1 ⟨x, H1, I1, r1, q1⟩ => ?_
  obtain ⟨a, e, q⟩ := q1
  subst e
  cases r1
  rcases q with ⟨⟨xs, hq⟩, q⟩ | ⟨⟨xs, hq⟩, q⟩
  · obtain ⟨its, rv, p, hz⟩ := I1.list hq
    refine wpAny_pyIter_list p.isList ?_
    refine ⟨s1.heap.objs.size, [s1.heap.objs.size], _, _, H1, rfl, I1.kept (t' := s1.toks) fun b o e => Heap.get?_push_of_some _ e, turn_list a _, ⟨_, Heap.get?_push_size _ rfl, rfl, rfl⟩, fun b hb => ?_, q⟩
    have e : b = s1.heap.objs.size := by simpa using hb
    subst e
    exact I1.fpOk (Nat.le_refl _) (I1.hok.fresh (Nat.le_refl _))
  · obtain ⟨its, rv, p, hz⟩ := I1.tuple hq
    refine wpAny_pyIter_tuple (show s1.heap.IsTuple a its.toArray from p) ?_
    refine ⟨s1.heap.objs.size, [s1.heap.objs.size], _, _, H1, rfl, I1.kept (t' := s1.toks) fun b o e => Heap.get?_push_of_some _ e, turn_tuple a _, ⟨_, Heap.get?_push_size _ rfl, rfl, rfl⟩, fun b hb => ?_, q⟩
    have e : b = s1.heap.objs.size := by simpa using hb
    subst e
    exact I1.fpOk (Nat.le_refl _) (I1.hok.fresh (Nat.le_refl _))
def seqD0 : D → Option (List D)
  | .list ds => some ds
  | .tuple ds => some ds
  | .dict kvs => scrT kvs
  | _ => none
def iOf0 (E : EF) : IF := fun ρ => (E ρ).bind fun p => (seqD0 p.1).bind fun ds => some (ds, p.2)
noncomputable def rngD : Int → En → Option (List D × En) := hide fun n ρ => if n ≤ 1000000 ∧ -1000000 ≤ n then some ((List.range n.toNat).map fun k : Nat => PyData.int (k : Int), ρ) else none
theorem rngD_eq (n : Int) (ρ : En) : rngD n ρ = if n ≤ 1000000 ∧ -1000000 ≤ n then some ((List.range n.toNat).map fun k : Nat => PyData.int (k : Int), ρ) else none := by unfold rngD; rw [hide_eq]
noncomputable def rng2D : Int → Int → En → Option (List D × En) := hide fun m n ρ => if n ≤ 1000000 ∧ -1000000 ≤ n ∧ m ≤ 1000000 ∧ -1000000 ≤ m then some ((List.range (n - m).toNat).map fun k : Nat => PyData.int (m + (k : Int)), ρ) else none
theorem rng2D_eq (m n : Int) (ρ : En) : rng2D m n ρ = if n ≤ 1000000 ∧ -1000000 ≤ n ∧ m ≤ 1000000 ∧ -1000000 ≤ m then some ((List.range (n - m).toNat).map fun k : Nat => PyData.int (m + (k : Int)), ρ) else none := by unfold rng2D; rw [hide_eq]
noncomputable def iRng (E : EF) : IF := fun ρ => (E ρ).bind fun p => (gInt p.1).bind fun n => rngD n p.2
noncomputable def iRng2 (E1 E2 : EF) : IF := fun ρ => (E1 ρ).bind fun p => (E2 p.2).bind fun q => (gInt p.1).bind fun m => (gInt q.1).bind fun n => rng2D m n q.2
def iZp (E1 E2 : EF) : IF := fun ρ => (E1 ρ).bind fun p => (E2 p.2).bind fun q => match p.1, q.1 with
  | .list a, .list b => some ((a.zip b).map fun z => .tuple [z.1, z.2], q.2)
  | .tuple a, .tuple b => some ((a.zip b).map fun z => .tuple [z.1, z.2], q.2)
  | _, _ => none
def enumD : Nat → List D → List D
  | _, [] => []
  | i, d :: ds => .tuple [.int (i : Int), d] :: enumD (i + 1) ds
def iEn (E : EF) : IF := fun ρ => (E ρ).bind fun p => match p.1 with
  | .list a => some (enumD 0 a, p.2)
  | _ => none
theorem enumD_get : ∀ (ds : List D) (k i : Nat), (enumD k ds)[i]? = ds[i]?.map fun d => .tuple [.int ((k + i : Nat) : Int), d]
  | [], k, i => by simp [enumD]
  | d :: ds, k, 0 => by simp [enumD]
  | d :: ds, k, i + 1 => by
    show (enumD (k + 1) ds)[i]? = _
    rw [enumD_get ds (k + 1) i, List.getElem?_cons_succ]
    have : k + 1 + i = k + (i + 1) := by omega
    rw [this]
theorem enumD_length : ∀ (ds : List D) (k : Nat), (enumD k ds).length = ds.length
  | [], _ => rfl
  | d :: ds, k => by
    show (enumD (k + 1) ds).length + 1 = _
    rw [enumD_length ds (k + 1)]
    rfl
section
variable {C : Cn} {f f0 : Fr0} {B B' H H' : Hp} {σ : L2.St} {ρ ρ' : En} {ta tb te : TE} {E E1 E2 : EF} {ds ds2 : List D} {a b : Addr} {vs us : List V}
theorem itok_list (hq : SqL C.K B a vs) (h : Dns C B vs ds) : ItOk C f0 B (Itl C.K a) ds := fun f B2 H2 σ ρ i _ e S => by
  have hq2 : SqL C.K H2 a vs := (e.trans S.bh).l hq
  refine ⟨fun d hd => ?_, fun hi => ⟨vs, hq2, by rw [h.length, hi]; exact Nat.le_refl _⟩⟩
  obtain ⟨v, hv, hvd⟩ := h.get hd
  refine ⟨⟨vs, v, hq2, hv⟩, fun x H3 y => ?_⟩
  obtain ⟨rfl, y⟩ := y
  have := y vs hq2
  rw [hv] at this
  cases this
  exact ⟨B2, Ex.refl B2, S, hvd.mono e⟩
theorem itok_tup (hq : SqT C.K B a vs) (h : Dns C B vs ds) : ItOk C f0 B (Itt C.K a) ds := fun f B2 H2 σ ρ i _ e S => by
  have hq2 : SqT C.K H2 a vs := (e.trans S.bh).t hq
  refine ⟨fun d hd => ?_, fun hi => ⟨vs, hq2, by rw [h.length, hi]; exact Nat.le_refl _⟩⟩
  obtain ⟨v, hv, hvd⟩ := h.get hd
  refine ⟨⟨vs, v, hq2, hv⟩, fun x H3 y => ?_⟩
  obtain ⟨rfl, y⟩ := y
  have := y vs hq2
  rw [hv] at this
  cases this
  exact ⟨B2, Ex.refl B2, S, hvd.mono e⟩
theorem ei_seq (h : EE C te E) : EI C (iSeq C.K te) (iOf0 E) := fun f B σ H ρ ds ρ' R S e k => by
  obtain ⟨⟨x, ρ1⟩, e1, z1⟩ := Option.bind_eq_some_iff.mp e
  obtain ⟨ds', e2, z2⟩ := Option.bind_eq_some_iff.mp z1
  cases z2
  refine h f B σ H ρ x _ _ S e1 fun v B1 H1 eb S1 hv => ?_
  have e3 : seqD0 x = some ds := e2
  unfold seqD0 at e3
  split at e3
  · cases e3
    cases hv with
    | lst hq hvs => exact ⟨_, rfl, .inl ⟨⟨_, .inl (S1.bh.rd hq)⟩, k _ B1 H1 eb S1 (itok_list (.inl hq) hvs)⟩⟩
  · cases e3
    cases hv with
    | tup hq hvs => exact ⟨_, rfl, .inr ⟨⟨_, S1.bh.t hq⟩, k _ B1 H1 eb S1 (itok_tup hq hvs)⟩⟩
  · have := scrT_eq e3
    subst this
    cases hv with
    | scr hq hvs => exact ⟨_, rfl, .inl ⟨⟨_, S1.bh.l hq⟩, k _ B1 H1 eb S1 (itok_list hq hvs)⟩⟩
    | dic _ q => exact (ents_no_scr q).elim
  · cases e3
theorem itok_range (lo : Int) (n : Nat) : ItOk C f0 B (Itr lo n) ((List.range n).map fun k : Nat => PyData.int (lo + (k : Int))) := fun f B2 H2 σ ρ i _ e S => by
  refine ⟨fun d hd => ?_, fun hi => ?_⟩
  · rw [List.getElem?_map] at hd
    obtain ⟨k, hk, rfl⟩ := Option.map_eq_some_iff.mp hd
    obtain ⟨h1, h2⟩ := List.getElem?_eq_some_iff.mp hk
    rw [List.length_range] at h1
    rw [List.getElem_range] at h2
    subst h2
    exact ⟨h1, fun x H3 ⟨e1, e2⟩ => by subst e1 e2; exact ⟨B2, Ex.refl B2, S, .int _⟩⟩
  · rw [List.length_map, List.length_range] at hi
    exact Nat.le_of_eq hi.symm
theorem ei_rng (h : EE C te E) : EI C (iRng1 (tCons te tNil)) (iRng E) := fun f B σ H ρ ds ρ' R S e k => by
  obtain ⟨⟨x, ρ1⟩, e1, z1⟩ := Option.bind_eq_some_iff.mp e
  obtain ⟨n, e2, z2⟩ := Option.bind_eq_some_iff.mp z1
  have h2 := gInt_inv e2
  simp only at h2 z2
  subst h2
  rw [rngD_eq] at z2
  split at z2
  · cases z2
    refine h f B σ H ρ _ _ _ S e1 fun v B1 H1 eb S1 hv => ?_
    cases hv
    refine ⟨n, rfl, by omega, by omega, k _ B1 H1 eb S1 ?_⟩
    have := itok_range (C := C) (f0 := f) (B := B1) 0 n.toNat
    simpa using this
  · cases z2
theorem ei_rng2 (h1 : EE C ta E1) (h2 : EE C tb E2) : EI C (L2.iRng2 (tCons ta (tCons tb tNil))) (iRng2 E1 E2) := fun f B σ H ρ ds ρ' R S e k => by
  obtain ⟨⟨x, ρ1⟩, e1, z1⟩ := Option.bind_eq_some_iff.mp e
  obtain ⟨⟨y, ρ2⟩, e2, z2⟩ := Option.bind_eq_some_iff.mp z1
  obtain ⟨m, e3, z3⟩ := Option.bind_eq_some_iff.mp z2
  obtain ⟨n, e4, z4⟩ := Option.bind_eq_some_iff.mp z3
  have h3 := gInt_inv e3
  have h4 := gInt_inv e4
  simp only at h3 h4 z4
  subst h3 h4
  rw [rng2D_eq] at z4
  split at z4
  · cases z4
    refine h1 f B σ H ρ _ _ _ S e1 fun v B1 H1 eb S1 hv => h2 f B1 σ H1 ρ1 _ _ _ S1 e2 fun w B2 H2 eb2 S2 hw => ?_
    cases hv
    cases hw
    exact ⟨m, n, rfl, by omega, k _ B2 H2 (eb.trans eb2) S2 (itok_range m (n - m).toNat)⟩
  · cases z4
theorem ei_zip (h1 : EE C ta E1) (h2 : EE C tb E2) : EI C (RZ.iZipA C.K (tCons ta (tCons tb tNil))) (iZp E1 E2) := fun f B σ H ρ ds ρ' R S e k => by
  obtain ⟨⟨x, ρ1⟩, e1, z1⟩ := Option.bind_eq_some_iff.mp e
  obtain ⟨⟨y, ρ2⟩, e2, z2⟩ := Option.bind_eq_some_iff.mp z1
  have got : ∀ (f : Fr0) (B2 H2 H3 : Hp) (σ : L2.St) (ρ : En) (T : Addr) (v w : V) (d1 d2 : D), Stt C f B2 σ H2 ρ → H2 T = none → H3 = upd H2 T (.tup [v, w]) → Dn C B2 v d1 → Dn C B2 w d2 → ∃ B3, Ex B2 B3 ∧ Stt C f B3 σ H3 ρ ∧ Dn C B3 (V.ref T) (.tuple [d1, d2]) :=
    fun f B2 H2 H3 σ ρ T v w d1 d2 S hT e h1 h2 => by
      subst e
      have nb := S.bh.free hT
      exact ⟨_, Ex.new nb, S.alloc hT, .tup (SqT.of upd_same) ((Dns.cons h1 (.cons h2 .nil)).mono (Ex.new nb))⟩
  refine h1 f B σ H ρ x ρ1 _ S e1 fun v B1 H1 eb1 S1 hv => h2 f B1 σ H1 ρ1 y ρ2 _ S1 e2 fun w B2 H2 eb2 S2 hw => ?_
  have hv2 := hv.mono eb2
  simp only at z2
  split at z2
  · cases z2
    cases hv2 with
    | lst hq hvs =>
      cases hw with
      | lst hq2 hws =>
        rename_i as bs a vs b us
        have hq : SqL C.K B2 _ _ := .inl hq
        have hq2 : SqL C.K B2 _ _ := .inl hq2
        refine ⟨_, _, _, _, rfl, .inl ⟨S2.bh.l hq, S2.bh.l hq2, k _ B2 H2 (eb1.trans eb2) S2 ?_⟩⟩
        intro f3 B3 H3 σ3 ρ3 i _ e3 S3
        have q1 := (e3.trans S3.bh).l hq
        have q2 := (e3.trans S3.bh).l hq2
        refine ⟨fun d hd => ?_, fun hi => ⟨_, _, q1, q2, ?_⟩⟩
        · rw [List.getElem?_map] at hd
          obtain ⟨⟨d1, d2⟩, hz, rfl⟩ := Option.map_eq_some_iff.mp hd
          obtain ⟨g1, g2⟩ := List.getElem?_zip_eq_some.mp hz
          obtain ⟨v1, m1, n1⟩ := hvs.get g1
          obtain ⟨v2, m2, n2⟩ := hws.get g2
          refine ⟨⟨_, _, v1, v2, q1, q2, m1, m2⟩, fun x H4 yy => ?_⟩
          obtain ⟨T, x1, x2, rfl, hT, e4, f1, f2⟩ := yy
          have a1 := f1 _ q1
          have a2 := f2 _ q2
          rw [m1] at a1
          rw [m2] at a2
          cases a1
          cases a2
          exact got f3 B3 H3 H4 σ3 ρ3 T v1 v2 d1 d2 S3 hT e4 (n1.mono e3) (n2.mono e3)
        · rw [List.length_map, List.length_zip] at hi
          rw [hvs.length, hws.length]
          omega
  · cases z2
    cases hv2 with
    | tup hq hvs =>
      cases hw with
      | tup hq2 hws =>
        refine ⟨_, _, _, _, rfl, .inr ⟨S2.bh.t hq, S2.bh.t hq2, k _ B2 H2 (eb1.trans eb2) S2 ?_⟩⟩
        intro f3 B3 H3 σ3 ρ3 i _ e3 S3
        have q1 := (e3.trans S3.bh).t hq
        have q2 := (e3.trans S3.bh).t hq2
        refine ⟨fun d hd => ?_, fun hi => ⟨_, _, q1, q2, ?_⟩⟩
        · rw [List.getElem?_map] at hd
          obtain ⟨⟨d1, d2⟩, hz, rfl⟩ := Option.map_eq_some_iff.mp hd
          obtain ⟨g1, g2⟩ := List.getElem?_zip_eq_some.mp hz
          obtain ⟨v1, m1, n1⟩ := hvs.get g1
          obtain ⟨v2, m2, n2⟩ := hws.get g2
          refine ⟨⟨_, _, v1, v2, q1, q2, m1, m2⟩, fun x H4 yy => ?_⟩
          obtain ⟨T, x1, x2, rfl, hT, e4, f1, f2⟩ := yy
          have a1 := f1 _ q1
          have a2 := f2 _ q2
          rw [m1] at a1
          rw [m2] at a2
          cases a1
          cases a2
          exact got f3 B3 H3 H4 σ3 ρ3 T v1 v2 d1 d2 S3 hT e4 (n1.mono e3) (n2.mono e3)
        · rw [List.length_map, List.length_zip] at hi
          rw [hvs.length, hws.length]
          omega
  · cases z2
theorem ei_enum (h : EE C te E) : EI C (iEnum C.K (tCons te tNil)) (iEn E) := fun f B σ H ρ ds ρ' R S e k => by
  obtain ⟨⟨x, ρ1⟩, e1, z1⟩ := Option.bind_eq_some_iff.mp e
  refine h f B σ H ρ x ρ1 _ S e1 fun v B1 H1 eb S1 hv => ?_
  simp only at z1
  split at z1
  · cases z1
    cases hv with
    | lst hq0 hvs =>
      have hq : SqL C.K B1 _ _ := .inl hq0
      refine ⟨_, _, rfl, S1.bh.l hq, k _ B1 H1 eb S1 ?_⟩
      intro f3 B3 H3 σ3 ρ3 i _ e3 S3
      have q1 := (e3.trans S3.bh).l hq
      refine ⟨fun d hd => ?_, fun hi => ⟨_, q1, ?_⟩⟩
      · rw [enumD_get] at hd
        obtain ⟨d1, g1, rfl⟩ := Option.map_eq_some_iff.mp hd
        obtain ⟨v1, m1, n1⟩ := hvs.get g1
        refine ⟨⟨_, v1, q1, m1⟩, fun x H4 yy => ?_⟩
        obtain ⟨T, x1, rfl, hT, e4, f1⟩ := yy
        have a1 := f1 _ q1
        rw [m1] at a1
        cases a1
        subst e4
        have nb := S3.bh.free hT
        refine ⟨_, Ex.new nb, S3.alloc hT, .tup (SqT.of upd_same) ((Dns.cons ?_ (.cons (n1.mono e3) .nil)).mono (Ex.new nb))⟩
        rw [Nat.zero_add]
        exact .int _
      · rw [enumD_length] at hi
        rw [hvs.length]
        omega
  · cases z1
end

/-! ### for -/
def forL (G : GF) (F : SF) (dead : List Nat) : List D → SF
  | [], ρ => some (.nx ρ)
  | d :: ds, ρ => (G d ρ).bind fun ρ1 => (F ρ1).bind fun o => match o with
    | .nx ρ2 => forL G F dead ds (kill dead ρ2)
    | .ct ρ2 => forL G F dead ds (kill dead ρ2)
    | .bk ρ2 => some (.nx (kill dead ρ2))
    | .rt r ρ2 => some (.rt r ρ2)
def sFor (I : IF) (G : GF) (F : SF) (dead : List Nat) : SF := fun ρ => (I ρ).bind fun p => forL G F dead p.1 (kill dead p.2)
section
variable {C : Cn} {wi : TI} {I : IF} {g : TG} {G : GF} {t : TS} {F : SF}
theorem es_for (dead : List Nat) (hi : EI C wi I) (hg : EG C g G) (hb : ES C t F) : ES C (tFor wi g t) (sFor I G F dead) := fun f B σ H ρ o D S e k => by
  obtain ⟨⟨ds, ρ1⟩, e1, z1⟩ := Option.bind_eq_some_iff.mp e
  refine hi f B σ H ρ ds ρ1 _ S e1 fun J B1 H1 eb S1 it => ?_
  refine ⟨fun i m σ2 H2 => m = ds.length - i ∧ i ≤ ds.length ∧ ∃ B2 ρ2, Ex B1 B2 ∧ Stt C f B2 σ2 H2 ρ2 ∧ forL G F dead (ds.drop i) ρ2 = some o,
    ⟨ds.length, rfl, Nat.zero_le _, B1, kill dead ρ1, Ex.refl B1, S1.kill dead, z1⟩, ?_⟩
  rintro i m σ2 H2 ⟨rfl, hil, B2, ρ2, eb2, S2, e2⟩
  obtain ⟨it1, it2⟩ := it f B2 H2 σ2 ρ2 i (BoEx.refl _) eb2 S2
  by_cases hlt : i < ds.length
  · rw [List.drop_eq_getElem_cons hlt] at e2
    obtain ⟨ρ3, e3, z3⟩ := Option.bind_eq_some_iff.mp e2
    obtain ⟨o1, e4, z4⟩ := Option.bind_eq_some_iff.mp z3
    obtain ⟨go, step⟩ := it1 ds[i] (List.getElem?_eq_getElem hlt)
    refine .inr ⟨go, fun σ4 H4 => i + 1 ≤ ds.length ∧ ∃ B4 ρ4, Ex B1 B4 ∧ Stt C f B4 σ4 H4 ρ4 ∧ forL G F dead (ds.drop (i + 1)) ρ4 = some o, fun σ4 H4 h => ⟨ds.length - (i + 1), by omega, rfl, h⟩, fun x H3 y => ?_⟩
    obtain ⟨B3, eb3, S3, hx⟩ := step x H3 y
    refine hg f B3 σ2 H3 ρ2 x ds[i] ρ3 _ S3 hx e3 fun σ3 S3' => hb f B3 σ3 H3 ρ3 o1 _ S3' e4 ?_
    cases o1 with
    | nx ρ4 => exact fun B4 σ4 H4 eb4 S4 => ⟨hlt, B4, _, (eb2.trans eb3).trans eb4, S4.kill dead, z4⟩
    | ct ρ4 => exact fun B4 σ4 H4 eb4 S4 => ⟨hlt, B4, _, (eb2.trans eb3).trans eb4, S4.kill dead, z4⟩
    | bk ρ4 =>
      cases z4
      exact fun B4 σ4 H4 eb4 S4 => k B4 σ4 H4 (((eb.trans eb2).trans eb3).trans eb4) (S4.kill dead)
    | rt r ρ4 =>
      cases z4
      cases r with
      | sh d => exact fun v B4 σ4 H4 eb4 S4 hv => k v B4 σ4 H4 (((eb.trans eb2).trans eb3).trans eb4) S4 hv
      | ow d => exact fun v B4 σ4 H4 eb4 S4 h0 hb ho => k v B4 σ4 H4 (((eb.trans eb2).trans eb3).trans eb4) S4 h0 hb ho
      | pr d d2 => exact fun a p u B4 σ4 H4 eb4 S4 => k a p u B4 σ4 H4 (((eb.trans eb2).trans eb3).trans eb4) S4
  · have e3 : i = ds.length := by omega
    refine .inl ⟨it2 e3, ?_⟩
    subst e3
    rw [List.drop_length] at e2
    cases e2
    exact k B2 σ2 H2 (eb.trans eb2) S2
end

/-! ### comprehensions -/
def PTs' (C : Cn) := ET C
def tfYes : TF := fun ρ => some (true, ρ)
theorem et_yes {C : Cn} : ET C tYes tfYes := fun f B σ H ρ b ρ' Q S e k => by
  cases e
  exact k B H (Ex.refl B) S
/-- a target that sets the block's own slots alone -/
def EGv (C : Cn) (vs : List Nat) (g : TG) (G : GF) : Prop := ∀ (f : Fr0) (B : Hp) (σ : L2.St) (H : Hp) (ρ : En) (v : V) (d : D) (ρ' : En) (Q : L2.St → Hp → Prop), Stt C f B σ H ρ → Dn C B v d → G d ρ = some ρ' →
  (∀ σ', wipe σ' vs = wipe σ vs → Stt C f B σ' H ρ' → Q σ' H) → g v σ H Q
def EGvs (C : Cn) (vs : List Nat) (g : TGs) (G : List D → En → Option En) : Prop := ∀ (f : Fr0) (B : Hp) (σ : L2.St) (H : Hp) (ρ : En) (us : List V) (ds : List D) (ρ' : En) (Q : L2.St → Hp → Prop), Stt C f B σ H ρ → Dns C B us ds → G ds ρ = some ρ' →
  (∀ σ', wipe σ' vs = wipe σ vs → Stt C f B σ' H ρ' → Q σ' H) → g us σ H Q
theorem wipe_get (σ : L2.St) (j : Nat) : ∀ vs : List Nat, (wipe σ vs)[j]? = if j ∈ vs then (σ[j]?).map fun _ => none else σ[j]?
  | [] => by simp [wipe]
  | v :: vs => by
    unfold wipe
    by_cases hj : v = j
    · subst hj
      rw [if_pos List.mem_cons_self]
      by_cases hl : v < σ.length
      · rw [List.getElem?_set_self (by rw [wipe_length]; exact hl), List.getElem?_eq_getElem hl]
        rfl
      · rw [List.getElem?_eq_none (by rw [List.length_set, wipe_length]; omega), List.getElem?_eq_none (by omega)]
        rfl
    · rw [List.getElem?_set_ne hj, wipe_get σ j vs]
      have : (j ∈ v :: vs) ↔ j ∈ vs := by
        rw [List.mem_cons]
        exact ⟨fun z => z.elim (fun q => absurd q.symm hj) id, .inr⟩
      by_cases hm : j ∈ vs
      · rw [if_pos hm, if_pos (this.mpr hm)]
      · rw [if_neg hm, if_neg (fun z => hm (this.mp z))]
theorem wipe_set {σ : L2.St} {i : Nat} {x : Option V} {vs : List Nat} (hi : i ∈ vs) : wipe (σ.set i x) vs = wipe σ vs := by
  apply List.ext_getElem?
  intro j
  rw [wipe_get, wipe_get]
  by_cases hm : j ∈ vs
  · rw [if_pos hm, if_pos hm]
    by_cases hj : i = j
    · subst hj
      by_cases hl : i < σ.length
      · rw [List.getElem?_set_self hl, List.getElem?_eq_getElem hl]
        rfl
      · rw [List.getElem?_eq_none (by rw [List.length_set]; omega), List.getElem?_eq_none (by omega)]
    · rw [List.getElem?_set_ne hj]
  · rw [if_neg hm, if_neg hm]
    have : i ≠ j := fun z => hm (z ▸ hi)
    rw [List.getElem?_set_ne this]
theorem wipe_wipe (σ : L2.St) (vs : List Nat) : wipe (wipe σ vs) vs = wipe σ vs := by
  apply List.ext_getElem?
  intro j
  rw [wipe_get, wipe_get]
  by_cases hm : j ∈ vs
  · rw [if_pos hm, if_pos hm, Option.map_map]
    rfl
  · rw [if_neg hm, if_neg hm]
def noIo (vs : List Nat) (ρ : En) : Bool := vs.all fun i => !isIo ρ[i]?
section
variable {C : Cn} {f : Fr0} {B B' H H' : Hp} {σ : L2.St} {ρ ρ' : En} {i : Nat} {vs : List Nat} {g : TG} {G : GF} {gs : TGs} {Gs : List D → En → Option En}
theorem egv_nm (hi : i ∈ vs := by decide) : EGv C vs (gName i) (gNm i) := fun f B σ H ρ v d ρ' Q S hv e k => by
  unfold gNm at e
  split at e
  · cases e
  · rename_i h
    cases e
    exact k _ (wipe_set hi) (S.setSh hv (isIo_no (by simpa using h)))
theorem egvs_nil : EGvs C vs gNil gsNil := fun f B σ H ρ us ds ρ' Q S hv e k => by
  cases hv with
  | nil => cases e; exact ⟨rfl, k σ rfl S⟩
  | cons _ _ => cases e
theorem egvs_cons (h : EGv C vs g G) (hs : EGvs C vs gs Gs) : EGvs C vs (gCons g gs) (gsCons G Gs) := fun f B σ H ρ us ds ρ' Q S hv e k => by
  cases hv with
  | nil => cases e
  | cons hv hvs =>
    obtain ⟨ρ1, e1, e2⟩ := Option.bind_eq_some_iff.mp e
    exact ⟨_, _, rfl, h f B σ H ρ _ _ ρ1 _ S hv e1 fun σ1 w1 S1 => hs f B σ1 H ρ1 _ _ ρ' Q S1 hvs e2 fun σ2 w2 S2 => k σ2 (w2.trans w1) S2⟩
theorem egv_tp {n : Nat} (h : EGvs C vs gs Gs) : EGv C vs (gTup C.K n gs) (gTp n Gs) := fun f B σ H ρ v d ρ' Q S hv e k => by
  cases d with
  | tuple ds =>
    have e : (if ds.length = n then Gs ds ρ else none) = some ρ' := e
    split at e
    · rename_i hl
      cases hv with
      | tup hq hvs => exact ⟨_, _, rfl, S.bh.t hq, hvs.length.trans hl, h f B σ H ρ _ ds ρ' Q S hvs e k⟩
    · cases e
  | _ => cases e
theorem kill_em : ∀ (vs : List Nat) (ρ : En) (j : Nat) (s : Sl), noIo vs ρ = true → j ∈ vs → (kill vs ρ)[j]? = some s → s = .em
  | [], _, _, _, _, hj, _ => nomatch hj
  | v :: vs, ρ, j, s, hn, hj, h => by
    unfold noIo at hn
    rw [List.all_cons, Bool.and_eq_true] at hn
    have hio : isIo (kill vs ρ)[v]? = false := by
      cases q : (kill vs ρ)[v]? with
      | none => rfl
      | some t =>
        rcases kill_get ρ vs v t q with rfl | q'
        · rfl
        · have := hn.1
          rw [q'] at this
          simpa using this
    unfold kill at h
    rw [if_neg (by rw [hio]; exact Bool.false_ne_true)] at h
    by_cases hv : v = j
    · subst hv
      by_cases hl : v < (kill vs ρ).length
      · rw [List.getElem?_set_self hl] at h
        cases h
        rfl
      · rw [List.getElem?_eq_none (by rw [List.length_set]; omega)] at h
        cases h
    · rw [List.getElem?_set_ne hv] at h
      rcases List.mem_cons.mp hj with z | z
      · exact absurd z.symm hv
      · exact kill_em vs ρ j s hn.2 z h
/-- the block's own slots forgotten, on both sides -/
theorem Stt.wiped (S : Stt C f B σ H ρ) (hn : noIo vs ρ = true) : Stt C f B (wipe σ vs) H (Fc.kill vs ρ) :=
  S.forget (by rw [wipe_length, kill_length]; exact S.len) (fun j s h => by
    by_cases hj : j ∈ vs
    · exact .inl (kill_em vs ρ j s hn hj h)
    · rcases kill_get ρ vs j s h with h | h
      · exact .inl h
      · exact .inr ⟨h, by rw [wipe_get, if_neg hj]⟩) fun q hq => by
    obtain ⟨d, e⟩ := S.iof q hq
    exact ⟨d, kill_io ρ d q.1 e vs⟩
theorem Stt.unwiped (S : Stt C f B (wipe σ vs) H (Fc.kill vs ρ)) (hn : noIo vs ρ = true) : Stt C f B σ H (Fc.kill vs ρ) :=
  S.forget (by rw [← S.len, wipe_length]) (fun j s h => by
    by_cases hj : j ∈ vs
    · exact .inl (kill_em vs ρ j s hn hj h)
    · exact .inr ⟨h, by rw [wipe_get, if_neg hj]⟩) fun q hq => S.iof q hq
end
/-- the items' fold -/
def lcL (vs : List Nat) (G : GF) (T : TF) (E : EF) : List D → List D → En → Option (List D × En)
  | [], acc, ρ => some (acc, ρ)
  | d :: ds, acc, ρ => (G d ρ).bind fun ρ1 => (T ρ1).bind fun p => if p.1 then (E p.2).bind fun q => if acc.length < 1000000 ∧ noIo vs q.2 then lcL vs G T E ds (acc ++ [q.1]) (kill vs q.2) else none
    else if noIo vs p.2 then lcL vs G T E ds acc (kill vs p.2) else none
def eLc (vs : List Nat) (I : IF) (G : GF) (T : TF) (E : EF) : EF := fun ρ => (I ρ).bind fun p => if noIo vs p.2 then (lcL vs G T E p.1 [] (kill vs p.2)).bind fun q => some (.list q.1, q.2) else none
section
variable {C : Cn} {wi : TI} {I : IF} {g : TG} {G : GF} {tt : TT} {T : TF} {te : TE} {E : EF} {vs : List Nat}
theorem lcL_kill : ∀ (ds acc : List D) (ρ : En) (r : List D) (ρ' : En), noIo vs ρ = true → lcL vs G T E ds acc (kill vs ρ) = some (r, ρ') → ∃ ρ0, noIo vs ρ0 = true ∧ ρ' = kill vs ρ0
  | [], acc, ρ, r, ρ', hn, e => by cases e; exact ⟨ρ, hn, rfl⟩
  | d :: ds, acc, ρ, r, ρ', hn, e => by
    obtain ⟨ρ1, e1, z1⟩ := Option.bind_eq_some_iff.mp e
    obtain ⟨⟨b, ρ2⟩, e2, z2⟩ := Option.bind_eq_some_iff.mp z1
    simp only at z2
    cases b with
    | true =>
      rw [if_pos rfl] at z2
      obtain ⟨⟨y, ρ3⟩, e3, z3⟩ := Option.bind_eq_some_iff.mp z2
      simp only at z3
      split at z3
      · rename_i hc
        exact lcL_kill ds _ ρ3 r ρ' hc.2 z3
      · cases z3
    | false =>
      rw [if_neg Bool.false_ne_true] at z2
      split at z2
      · rename_i hc
        exact lcL_kill ds _ ρ2 r ρ' hc z2
      · cases z2
theorem eo_lc (hi : EI C wi I) (hg : EGv C vs g G) (ht : ET C tt T) (he : EE C te E) : EO C (tLc wi g tt te vs) (eLc vs I G T E) := fun f B σ H ρ d ρ' Q S e k => by
  obtain ⟨⟨ds, ρ1⟩, e1, z1⟩ := Option.bind_eq_some_iff.mp e
  simp only at z1
  split at z1
  · rename_i hn
    obtain ⟨⟨out, ρ2⟩, e2, z2⟩ := Option.bind_eq_some_iff.mp z1
    cases z2
    refine hi f B σ H ρ ds ρ1 _ S e1 fun J B1 H1 eb S1 it Dl hD => ?_
    have h0 := S1.h0_free hD
    have htm := S1.tm_free hD
    have hb1 := S1.bh.free hD
    -- what is true between two turns
    refine ⟨fun i m H2 => m = ds.length - i ∧ i ≤ ds.length ∧ ∃ B2 ρ3 acc us, Ex B1 B2 ∧ noIo vs ρ3 = true ∧ Stt C f B2 (wipe σ vs) H2 (kill vs ρ3) ∧ H2 Dl = some (.lst us) ∧ Dns C B2 us acc ∧ B2 Dl = none ∧
      (∀ j : Nat, Sl.own (kill vs ρ3)[j]? → (wipe σ vs)[j]? ≠ some (some (V.ref Dl))) ∧ lcL vs G T E (ds.drop i) acc (kill vs ρ3) = some (out, ρ2),
      ⟨ds.length, rfl, Nat.zero_le _, B1, ρ1, [], [], Ex.refl B1, hn, (S1.wiped hn).allocO hD, upd_same, .nil, hb1, fun j hj z => ?_, e2⟩, ?_⟩
    · obtain ⟨u, hu⟩ := (S1.wiped hn).own_there hj z
      rw [hD] at hu
      cases hu
    rintro i m H2 ⟨rfl, hil, B2, ρ3, acc, us, eb2, hn3, S2, hDl, hus, hbD, hown, e3⟩
    obtain ⟨it1, it2⟩ := it f B2 H2 _ _ i (BoEx.refl _) eb2 S2
    by_cases hlt : i < ds.length
    · rw [List.drop_eq_getElem_cons hlt] at e3
      obtain ⟨ρ4, e4, z4⟩ := Option.bind_eq_some_iff.mp e3
      obtain ⟨⟨b, ρ5⟩, e5, z5⟩ := Option.bind_eq_some_iff.mp z4
      obtain ⟨go, _⟩ := it1 ds[i] (List.getElem?_eq_getElem hlt)
      refine .inr ⟨go, fun H4 => i + 1 ≤ ds.length ∧ ∃ B4 ρ3 acc us, Ex B1 B4 ∧ noIo vs ρ3 = true ∧ Stt C f B4 (wipe σ vs) H4 (kill vs ρ3) ∧ H4 Dl = some (.lst us) ∧ Dns C B4 us acc ∧ B4 Dl = none ∧
        (∀ j : Nat, Sl.own (kill vs ρ3)[j]? → (wipe σ vs)[j]? ≠ some (some (V.ref Dl))) ∧ lcL vs G T E (ds.drop (i + 1)) acc (kill vs ρ3) = some (out, ρ2), fun H4 h => ⟨ds.length - (i + 1), by omega, rfl, h⟩, fun x H3 y => ?_⟩
      -- the new list is told
      have S2t := S2.tell hDl hbD hown
      obtain ⟨it1', _⟩ := it { f with tmp := upd f.tmp Dl (.lst us) } B2 H2 _ _ i (BoEx.of rfl (Ex.new htm)) eb2 S2t
      obtain ⟨_, step⟩ := it1' ds[i] (List.getElem?_eq_getElem hlt)
      obtain ⟨B3, eb3, S3, hx⟩ := step x H3 y
      refine hg _ B3 _ H3 _ x ds[i] ρ4 _ S3 hx e4 fun σ4 w4 S4 => ⟨by rw [w4, wipe_wipe], ?_⟩
      have w4' : wipe σ4 vs = wipe σ vs := by rw [w4, wipe_wipe]
      refine ht _ B3 σ4 H3 ρ4 b ρ5 _ S4 e5 fun B5 H5 eb5 S5 => ?_
      simp only at z5
      have out_of : ∀ {B6 H6 : Hp} {ρ6 : En}, noIo vs ρ6 = true → Stt C { f with tmp := upd f.tmp Dl (.lst us) } B6 σ4 H6 ρ6 → Stt C f B6 (wipe σ vs) H6 (kill vs ρ6) ∧ H6 Dl = some (.lst us) ∧ B6 Dl = none ∧ ∀ j : Nat, Sl.own (kill vs ρ6)[j]? → (wipe σ vs)[j]? ≠ some (some (V.ref Dl)) := fun {B6 H6 ρ6} hn6 S6 => by
        have S7 := S6.wiped hn6
        rw [w4'] at S7
        obtain ⟨q1, q2, q3⟩ := S7.tm Dl (.lst us) upd_same
        exact ⟨S7.untell (Ex.new htm) S2.bs, q1, q2, q3⟩
      cases b with
      | true =>
        rw [if_pos rfl] at z5 ⊢
        obtain ⟨⟨yv, ρ6⟩, e6, z6⟩ := Option.bind_eq_some_iff.mp z5
        simp only at z6
        split at z6
        · rename_i hc
          refine he _ B5 σ4 H5 ρ5 yv ρ6 _ S5 e6 fun v B6 H6 eb6 S6 hv => ?_
          obtain ⟨S7, q1, q2, q3⟩ := out_of hc.2 S6
          have eb26 := (eb3.trans eb5).trans eb6
          refine ⟨us, q1, lim_lt (by rw [hus.length]; exact hc.1), hlt, B6, ρ6, acc ++ [yv], us ++ [v], eb2.trans eb26, hc.2, S7.touch h0 htm q2 q3, upd_same, (hus.mono eb26).append (.cons hv .nil), q2, q3, z6⟩
        · cases z6
      | false =>
        rw [if_neg Bool.false_ne_true] at z5 ⊢
        split at z5
        · rename_i hc
          obtain ⟨S7, q1, q2, q3⟩ := out_of hc S5
          have eb25 := eb3.trans eb5
          exact ⟨hlt, B5, ρ5, acc, us, eb2.trans eb25, hc, S7, q1, hus.mono eb25, q2, q3, z5⟩
        · cases z5
    · have e4 : i = ds.length := by omega
      refine .inl ⟨it2 e4, ?_⟩
      subst e4
      rw [List.drop_length] at e3
      cases e3
      have S3 := S2.unwiped hn3
      refine k Dl B2 H2 (eb.trans eb2) S3 h0 htm hbD (fun j hj z => ?_) ⟨us, hDl, hus⟩
      by_cases hm : j ∈ vs
      · cases q : (kill vs ρ3)[j]? with
        | none => rw [q] at hj; exact hj.elim
        | some s =>
          have := kill_em vs ρ3 j s hn3 hm q
          subst this
          rw [q] at hj
          exact hj.elim
      · exact hown j hj (by rw [wipe_get, if_neg hm]; exact z)
  · cases z1
end
end Fc
set_option Elab.async false
set_option linter.all false
set_option maxRecDepth 100000
/-! Fc: methods of lists, stores, calls of defs. -/
namespace Fc
open PySem L2 PyProof.Rows

/-! ### what a slot owns -/
def ownD : Option Sl → Option D
  | some (.ow d) => some d
  | some (.io d) => some d
  | _ => none
def ownL (s : Option Sl) : Option (List D) := (ownD s).bind fun d => match d with
  | .list ds => some ds
  | _ => none
def put1 (i : Nat) (d : D) (ρ : En) : En := match ρ[i]? with
  | some s => ρ.set i (s.put d)
  | none => ρ
section
variable {C : Cn} {f : Fr0} {B B' H H' : Hp} {σ : L2.St} {ρ ρ' : En} {i j : Nat} {d e : D} {ds : List D} {te ti : TE} {E I : EF} {p : Addr} {o : HO}
theorem ownD_own {s : Option Sl} (h : ownD s = some d) : Sl.own s := by
  cases s with
  | none => cases h
  | some s => cases s <;> first | (cases h; done) | exact True.intro
theorem Stt.owned (S : Stt C f B σ H ρ) (h : ownD ρ[i]? = some d) : ∃ p s, ρ[i]? = some s ∧ Sl.own (some s) ∧ σ[i]? = some (some (V.ref p)) ∧ B p = none ∧ OwnAt C B H p d := by
  cases q : ρ[i]? with
  | none => rw [q] at h; cases h
  | some s =>
    have z := S.sl i s q
    rw [q] at h
    cases s with
    | em => cases h
    | sh _ => cases h
    | ow d' => cases h; obtain ⟨p, e, _, hb, r⟩ := z; exact ⟨p, _, rfl, trivial, e, hb, r⟩
    | io d' => cases h; obtain ⟨p, _, e, _, hb, r⟩ := z; exact ⟨p, _, rfl, trivial, e, hb, r⟩
    | bo _ => cases h
theorem ownL_D {s : Option Sl} (h : ownL s = some ds) : ownD s = some (.list ds) := by
  obtain ⟨d, e, q⟩ := Option.bind_eq_some_iff.mp h
  split at q
  · cases q; exact e
  · cases q
theorem Stt.put (S : Stt C f B σ H ρ) {s : Sl} (hs : ρ[i]? = some s) (hw : Sl.own (some s)) (e : σ[i]? = some (some (V.ref p))) (ho : OwnAt C B (upd H p o) p d) : Stt C f B σ (upd H p o) (put1 i d ρ) := by
  unfold put1
  rw [hs]
  exact S.mut hs hw e ho
/-- xs.append(e) -/
def eApp (i : Nat) (E : EF) : EF := fun ρ => (ownL ρ[i]?).bind fun _ => (E ρ).bind fun p => (ownL p.2[i]?).bind fun ds => if ds.length < 1000000 then some (.none, put1 i (.list (ds ++ [p.1])) p.2) else none
theorem ee_app (h : EE C te E) : EE C (tBM C.K "list" rAppend (tVar i) (tCons te tNil)) (eApp i E) := fun f B σ H ρ d ρ' Q S e k => by
  obtain ⟨ds0, e0, z0⟩ := Option.bind_eq_some_iff.mp e
  obtain ⟨⟨x, ρ1⟩, e1, z1⟩ := Option.bind_eq_some_iff.mp z0
  obtain ⟨ds, e2, z2⟩ := Option.bind_eq_some_iff.mp z1
  simp only at z2 e2
  split at z2
  · rename_i hl
    cases z2
    obtain ⟨p0, s0, _, _, ev, _, vs0, hv0, _⟩ := S.owned (ownL_D e0)
    refine ⟨_, ev, .inl ⟨rfl, vs0, SqL.of hv0⟩, h f B σ H ρ x ρ1 _ S e1 fun v B1 H1 eb S1 hv => ?_⟩
    obtain ⟨p, s, hs, hw, ev1, hb, vs, hvs, hds⟩ := S1.owned (ownL_D e2)
    rw [ev] at ev1
    cases ev1
    refine ⟨p0, vs, v, rfl, rfl, hvs, lim_lt (by rw [hds.length]; exact hl), ?_⟩
    exact k .non B1 _ eb (S1.put (d := .list (ds ++ [x])) hs hw ev (show ∃ us, _ from ⟨_, upd_same, hds.append (.cons hv .nil)⟩)) .non
  · cases z2
/-- xs.extend(e), e a list -/
def rExtR : V → List V → Hp → VK → Prop := fun x vs H Q => ∃ l b xs zs, x = .ref l ∧ vs = [.ref b] ∧ H l = some (.lst xs) ∧ Rd H b (.lst zs) ∧ xs.length + zs.length ≤ sizeLine ∧ Q .non (upd H l (.lst (xs ++ zs)))
theorem lstR {X : Cx} {pins : List (Addr × Obj)} {s : Shared} {l : Addr} {xs : List V} (I : Inv X pins σ H s) (hH : Rd H l (.lst xs)) : xs.length ≤ sizeLine ∧ ∃ (its : List Value) (n : Nat), Vals xs its ∧ xs.length = its.length ∧ s.heap.get? l = some { cls := .type "list", data := .seq its.toArray n } := by
  obtain ⟨z, its, n, r, e⟩ := hH.ok I.hok
  exact ⟨z, its, n, r, r.length, e⟩
theorem mt_extR {X : Cx} : MtM X "list.extend" rExtR := by
  intro pins s σ H x vs v us Q I rx rv h
  obtain ⟨l, b, xs, zs, rfl, rfl, hH, hB, hz, q⟩ := h
  cases rx
  obtain ⟨u, rfl, ru⟩ := rv.one
  cases ru
  obtain ⟨z, its, n, r, hl, e⟩ := I.lstM hH
  obtain ⟨z2, its2, n2, r2, hl2, e2⟩ := lstR I hB
  have hsz : its.toArray.size + its2.toArray.size ≤ sizeLine := by rw [List.size_toArray, List.size_toArray]; omega
  have hlong : ¬ (!its.toArray.isEmpty && Builtin.List.listTooLong (its.toArray.size + its2.toArray.size)) = true := by
    rw [notLongL hsz, Bool.and_false]
    exact Bool.false_ne_true
  refine call_meets F.slot_list_extend ⟨_, e, rfl⟩ F.entry_list_extend (F.args_list_extend_2 _ _)
    (AutoSeq1.list_extend_list_list_0 l its.toArray n b its2.toArray n2 hlong (by rw [List.size_toArray]; omega) (by omega)) ⟨e, e2, ?_⟩
  refine ⟨.non, _, I.lset (its' := its ++ its2) hH e (by simp) (r.append r2) ?_, rfl, q⟩
  rw [List.length_append]
  omega
def eExt0 (i : Nat) (E : EF) : EF := fun ρ => (ownL ρ[i]?).bind fun _ => (E ρ).bind fun p => (ownL p.2[i]?).bind fun ds => match p.1 with
  | .list es => if ds.length + es.length ≤ 1000000 then some (.none, put1 i (.list (ds ++ es)) p.2) else none
  | _ => none
theorem ee_ext0 (h : EE C te E) : EE C (tBM C.K "list" rExtR (tVar i) (tCons te tNil)) (eExt0 i E) := fun f B σ H ρ d ρ' Q S e k => by
  obtain ⟨ds0, e0, z0⟩ := Option.bind_eq_some_iff.mp e
  obtain ⟨⟨x, ρ1⟩, e1, z1⟩ := Option.bind_eq_some_iff.mp z0
  obtain ⟨ds, e2, z2⟩ := Option.bind_eq_some_iff.mp z1
  simp only at z2 e2
  split at z2
  · rename_i es
    split at z2
    · rename_i hl
      cases z2
      obtain ⟨p0, s0, _, _, ev, _, vs0, hv0, _⟩ := S.owned (ownL_D e0)
      refine ⟨_, ev, .inl ⟨rfl, vs0, SqL.of hv0⟩, h f B σ H ρ _ ρ1 _ S e1 fun v B1 H1 eb S1 hv => ?_⟩
      obtain ⟨p, s, hs, hw, ev1, hb, vs, hvs, hds⟩ := S1.owned (ownL_D e2)
      rw [ev] at ev1
      cases ev1
      cases hv with
      | lst hq hes =>
        refine ⟨p0, _, vs, _, rfl, rfl, hvs, S1.bh.rd hq, lim_line (by rw [hds.length, hes.length]; exact hl), ?_⟩
        exact k .non B1 _ eb (S1.put (d := .list (ds ++ es)) hs hw ev (show ∃ us, _ from ⟨_, upd_same, hds.append hes⟩)) .non
    · cases z2
  · cases z2
/-- xs.pop() -/
def ePop (i : Nat) : EF := fun ρ => (ownL ρ[i]?).bind fun ds => (ds[ds.length - 1]?).bind fun d => some (d, put1 i (.list ds.dropLast) ρ)
theorem ee_pop : EE C (tBM0 C.K "list" rPop (tVar i)) (ePop i) := fun f B σ H ρ d ρ' Q S e k => by
  obtain ⟨ds, e0, z0⟩ := Option.bind_eq_some_iff.mp e
  obtain ⟨d', e1, z1⟩ := Option.bind_eq_some_iff.mp z0
  cases z1
  obtain ⟨p, s, hs, hw, ev, _, vs, hvs, hds⟩ := S.owned (ownL_D e0)
  obtain ⟨v, hv, hd⟩ := hds.get e1
  refine ⟨_, ev, .inl ⟨rfl, vs, SqL.of hvs⟩, p, vs, v, rfl, rfl, hvs, by rw [hds.length]; exact hv, ?_⟩
  exact k v B _ (Ex.refl B) (S.put (d := .list ds.dropLast) hs hw ev (show ∃ us, _ from ⟨_, upd_same, hds.dropLast⟩)) hd
/-- xs.clear() -/
def eClear (i : Nat) : EF := fun ρ => (ownL ρ[i]?).bind fun ds => some (.none, put1 i (.list []) ρ)
theorem ee_clear : EE C (tBM0 C.K "list" rClear (tVar i)) (eClear i) := fun f B σ H ρ d ρ' Q S e k => by
  obtain ⟨ds, e0, z0⟩ := Option.bind_eq_some_iff.mp e
  cases z0
  obtain ⟨p, s, hs, hw, ev, _, vs, hvs, hds⟩ := S.owned (ownL_D e0)
  refine ⟨_, ev, .inl ⟨rfl, vs, SqL.of hvs⟩, p, vs, rfl, rfl, hvs, ?_⟩
  exact k .non B _ (Ex.refl B) (S.put (d := .list []) hs hw ev (show ∃ us, _ from ⟨_, upd_same, .nil⟩)) .non
/-- xs[k] = e -/
def sSetL (i : Nat) (E I : EF) : SF := fun ρ => (E ρ).bind fun p => (I p.2).bind fun q => (gInt q.1).bind fun k => (ownL q.2[i]?).bind fun ds => (ixN ds.length k).bind fun j => some (.nx (put1 i (.list (ds.set j p.1)) q.2))
theorem es_setL (h : EE C te E) (hi : EE C ti I) : ES C (tAsg te (gSub (tVar i) ti rSetL)) (sSetL i E fun ρ => (ownL ρ[i]?).bind fun _ => I ρ) := fun f B σ H ρ o D S e k => by
  obtain ⟨⟨x, ρ1⟩, e1, z1⟩ := Option.bind_eq_some_iff.mp e
  obtain ⟨⟨y, ρ2⟩, e2, z2⟩ := Option.bind_eq_some_iff.mp z1
  obtain ⟨n, e3, z3⟩ := Option.bind_eq_some_iff.mp z2
  obtain ⟨ds, e4, z4⟩ := Option.bind_eq_some_iff.mp z3
  obtain ⟨j, e5, z5⟩ := Option.bind_eq_some_iff.mp z4
  cases z5
  obtain ⟨ds0, e6, e7⟩ := Option.bind_eq_some_iff.mp e2
  have h3 := gInt_inv e3
  simp only at h3
  subst h3
  refine h f B σ H ρ x ρ1 _ S e1 fun v B1 H1 eb S1 hv => ?_
  obtain ⟨p0, _, _, _, ev, _, _⟩ := S1.owned (ownL_D e6)
  refine ⟨_, ev, hi f B1 σ H1 ρ1 _ ρ2 _ S1 e7 fun w B2 H2 eb2 S2 hw => ?_⟩
  cases hw
  obtain ⟨p, s, hs, hw, ev1, hb, vs, hvs, hds⟩ := S2.owned (ownL_D e4)
  rw [ev] at ev1
  cases ev1
  refine ⟨p0, vs, n, j, rfl, rfl, hvs, by rw [hds.length]; exact e5, ?_⟩
  exact k B2 σ _ (eb.trans eb2) (S2.put (d := .list (ds.set j x)) hs hw ev (show ∃ us, _ from ⟨_, upd_same, Dns.set (hv.mono eb2) j hds⟩))
end

/-! ### calls -/
inductive CA where
  | e (E : EF)
  | io (i : Nat)
def CA.k : CA → Bool
  | .e _ => false
  | .io _ => true
def runC : List CA → En → Option (List D × En)
  | [], ρ => some ([], ρ)
  | .e E :: cs, ρ => (E ρ).bind fun p => (runC cs p.2).bind fun q => some (p.1 :: q.1, q.2)
  | .io i :: cs, ρ => (ownD ρ[i]?).bind fun _ => (runC cs ρ).bind fun q => some (.none :: q.1, q.2)
def getC : List CA → List D → En → Option (List D)
  | [], _, _ => some []
  | .e _ :: cs, d :: ds, ρ => (getC cs ds ρ).map (d :: ·)
  | .io i :: cs, _ :: ds, ρ => (ownD ρ[i]?).bind fun d => (getC cs ds ρ).map (d :: ·)
  | _ :: _, [], _ => none
def ioI : List CA → List Nat
  | [] => []
  | .e _ :: cs => ioI cs
  | .io i :: cs => i :: ioI cs
def putL : List Nat → List D → En → En
  | i :: is, e :: es, ρ => putL is es (put1 i e ρ)
  | _, _, ρ => ρ
inductive HoldC (C : Cn) (B : Hp) (σ : L2.St) : List CA → List V → List D → Prop
  | nil : HoldC C B σ [] [] []
  | e {E : EF} {cs : List CA} {v : V} {vs : List V} {d : D} {ds : List D} : Dn C B v d → HoldC C B σ cs vs ds → HoldC C B σ (.e E :: cs) (v :: vs) (d :: ds)
  | io {i : Nat} {cs : List CA} {v : V} {vs : List V} {d : D} {ds : List D} : σ[i]? = some (some v) → HoldC C B σ cs vs ds → HoldC C B σ (.io i :: cs) (v :: vs) (d :: ds)
def EAC (C : Cn) (ta : TA) (cs : List CA) : Prop := ∀ (f : Fr0) (B : Hp) (σ : L2.St) (H : Hp) (ρ : En) (ds : List D) (ρ' : En) (Q : List V → Hp → Prop), Stt C f B σ H ρ → runC cs ρ = some (ds, ρ') →
  (∀ vs B' H', Ex B B' → Stt C f B' σ H' ρ' → HoldC C B' σ cs vs ds → Q vs H') → ta σ H Q
/-- the arguments as the def is promised them: shared, or handed in to be changed -/
inductive ArgRel (C : Cn) (B H : Hp) : List Bool → List V → List D → Prop
  | nil : ArgRel C B H [] [] []
  | sh {ks : List Bool} {v : V} {vs : List V} {d : D} {ds : List D} : Dn C B v d → ArgRel C B H ks vs ds → ArgRel C B H (false :: ks) (v :: vs) (d :: ds)
  | io {ks : List Bool} {p : Addr} {vs : List V} {d : D} {ds : List D} : B p = none → OwnAt C B H p d → ArgRel C B H ks vs ds → ArgRel C B H (true :: ks) (V.ref p :: vs) (d :: ds)
def ioA : List Bool → List V → List Addr
  | true :: ks, V.ref p :: vs => p :: ioA ks vs
  | _ :: ks, _ :: vs => ioA ks vs
  | _, _ => []
def RsOk (C : Cn) (B' H H' : Hp) (v : V) : Rs → Prop
  | .sh d => Dn C B' v d
  | .ow d => ∃ p, v = V.ref p ∧ H p = none ∧ B' p = none ∧ OwnAt C B' H' p d
  | .pr d e => ∃ a p u, v = V.ref a ∧ H' a = some (.tup [V.ref p, u]) ∧ H p = none ∧ B' p = none ∧ OwnAt C B' H' p d ∧ Dn C B' u e
def spD (C : Cn) (ks : List Bool) (fn : List D → Option (Rs × List D)) : Sp := fun vs H Q _ => ∃ B ds r es, Ex B H ∧ ArgRel C B H ks vs ds ∧ (ioA ks vs).Nodup ∧ fn ds = some (r, es) ∧
  ∀ v B' H', Ex B B' → Ex B' H' → (∀ a o, H a = some o → a ∉ ioA ks vs → H' a = some o) → (∀ a, H a ≠ none → H' a ≠ none) → (∀ a, H a ≠ none → B a = none → B' a = none) →
    Paired (fun p d => OwnAt C B' H' p d) (ioA ks vs) es → RsOk C B' H H' v r → Q v H'
theorem ArgRel.length {C : Cn} {B H : Hp} : ∀ {ks : List Bool} {vs : List V} {ds : List D}, ArgRel C B H ks vs ds → vs.length = ks.length ∧ ds.length = ks.length
  | _, _, _, .nil => ⟨rfl, rfl⟩
  | _, _, _, .sh _ h => by simp [h.length.1, h.length.2]
  | _, _, _, .io _ _ h => by simp [h.length.1, h.length.2]
section
variable {C : Cn} {f : Fr0} {B B' H H' : Hp} {σ : L2.St} {ρ ρ' : En} {i j : Nat} {d e : D} {ds es : List D} {te ti : TE} {E I : EF} {p : Addr} {o : HO} {cs : List CA} {ta : TA} {vs : List V}
theorem HoldC.mono (e : Ex B B') : ∀ {cs : List CA} {vs : List V} {ds : List D}, HoldC C B σ cs vs ds → HoldC C B' σ cs vs ds
  | _, _, _, .nil => .nil
  | _, _, _, .e h hs => .e (h.mono e) (HoldC.mono e hs)
  | _, _, _, .io h hs => .io h (HoldC.mono e hs)
theorem eac_nil : EAC C tNil [] := fun f B σ H ρ ds ρ' Q S e k => by
  cases e
  exact k [] B H (Ex.refl B) S .nil
theorem eac_e (h : EE C te E) (hs : EAC C ta cs) : EAC C (tCons te ta) (.e E :: cs) := fun f B σ H ρ ds ρ' Q S e k => by
  obtain ⟨⟨d, ρ1⟩, e1, q⟩ := Option.bind_eq_some_iff.mp e
  obtain ⟨⟨ds', ρ2⟩, e2, q⟩ := Option.bind_eq_some_iff.mp q
  cases q
  exact h f B σ H ρ d ρ1 _ S e1 fun v B1 H1 eb S1 hv => hs f B1 σ H1 ρ1 ds' _ _ S1 e2 fun vs B2 H2 eb2 S2 hvs => k (v :: vs) B2 H2 (eb.trans eb2) S2 (.e (hv.mono eb2) hvs)
theorem eac_io (hs : EAC C ta cs) : EAC C (tCons (tVar i) ta) (.io i :: cs) := fun f B σ H ρ ds ρ' Q S e k => by
  obtain ⟨d, e1, q⟩ := Option.bind_eq_some_iff.mp e
  obtain ⟨⟨ds', ρ2⟩, e2, q⟩ := Option.bind_eq_some_iff.mp q
  cases q
  obtain ⟨p, s, _, _, ev, _⟩ := S.owned e1
  exact ⟨_, ev, hs f B σ H ρ ds' _ _ S e2 fun vs B2 H2 eb2 S2 hvs => k (_ :: vs) B2 H2 eb2 S2 (.io ev hvs)⟩
theorem hold_args (S : Stt C f B σ H ρ) : ∀ {cs : List CA} {vs : List V} {ds0 ds : List D}, HoldC C B σ cs vs ds0 → getC cs ds0 ρ = some ds →
    ArgRel C B H (cs.map CA.k) vs ds ∧ Paired (fun i p => Sl.own ρ[i]? ∧ σ[i]? = some (some (V.ref p))) (ioI cs) (ioA (cs.map CA.k) vs)
  | _, _, _, _, .nil, h => by cases h; exact ⟨.nil, .nil⟩
  | _, _, _, _, .e hv hs, h => by
    obtain ⟨ds', e, rfl⟩ := Option.map_eq_some_iff.mp h
    obtain ⟨h1, h2⟩ := hold_args S hs e
    refine ⟨.sh hv h1, ?_⟩
    show Paired _ _ (ioA (false :: _) _)
    unfold ioA
    exact h2
  | _, _, _, _, .io hv hs, h => by
    obtain ⟨d, e1, z⟩ := Option.bind_eq_some_iff.mp h
    obtain ⟨ds', e, rfl⟩ := Option.map_eq_some_iff.mp z
    obtain ⟨h1, h2⟩ := hold_args S hs e
    obtain ⟨p, s, hs', hw, ev, hb, ho⟩ := S.owned e1
    rw [hv] at ev
    cases ev
    exact ⟨.io hb ho h1, .cons ⟨by rw [hs']; exact hw, hv⟩ h2⟩
theorem ioA_const : ∀ (ks : List Bool) (vs ws : List V), vs.length = ks.length → ioA (ks ++ List.replicate ws.length false) (vs ++ ws) = ioA ks vs
  | [], [], ws, _ => by
    show ioA (List.replicate ws.length false) ws = ioA [] []
    induction ws with
    | nil => rfl
    | cons w ws ih => exact ih
  | [], _ :: _, _, h => by simp at h
  | _ :: _, [], _, h => by simp at h
  | k :: ks, v :: vs, ws, h => by
    have ih := ioA_const ks vs ws (by simpa using h)
    cases k with
    | false => exact ih
    | true =>
      cases v with
      | ref p => show p :: ioA (ks ++ _) (vs ++ ws) = p :: ioA ks vs; rw [ih]
      | _ => exact ih
theorem ArgRel.const : ∀ {ks : List Bool} {vs ws : List V} {ds us : List D}, ArgRel C B H ks vs ds → Dns C B ws us → ArgRel C B H (ks ++ List.replicate ws.length false) (vs ++ ws) (ds ++ us)
  | _, _, _, _, _, .nil, .nil => .nil
  | _, _, _, _, _, .nil, .cons h hs => .sh h (ArgRel.const (ks := []) .nil hs)
  | _, _, _, _, _, .sh h hs, q => .sh h (ArgRel.const hs q)
  | _, _, _, _, _, .io h1 h2 hs, q => .io h1 h2 (ArgRel.const hs q)
theorem put1_get {s : Sl} : (put1 i e ρ)[j]? = some s → (j ≠ i ∧ ρ[j]? = some s) ∨ (j = i ∧ ∃ t, ρ[i]? = some t ∧ s = t.put e) := fun h => by
  unfold put1 at h
  cases q : ρ[i]? with
  | none =>
    rw [q] at h
    refine .inl ⟨fun z => ?_, h⟩
    subst z
    rw [q] at h
    cases h
  | some t =>
    rw [q] at h
    have h : (ρ.set i (t.put e))[j]? = some s := h
    by_cases hj : i = j
    · subst hj
      rw [List.getElem?_set_self (List.getElem?_eq_some_iff.mp q).1] at h
      cases h
      exact .inr ⟨rfl, t, rfl, rfl⟩
    · rw [List.getElem?_set_ne hj] at h
      exact .inl ⟨fun z => hj z.symm, h⟩
theorem put1_length : (put1 i e ρ).length = ρ.length := by
  unfold put1
  split
  · rw [List.length_set]
  · rfl
theorem put1_own : Sl.own (put1 i e ρ)[j]? ↔ Sl.own ρ[j]? := by
  unfold put1
  cases q : ρ[i]? with
  | none => exact Iff.rfl
  | some t =>
    show Sl.own (ρ.set i (t.put e))[j]? ↔ _
    by_cases hj : i = j
    · subst hj
      rw [List.getElem?_set_self (List.getElem?_eq_some_iff.mp q).1, q]
      exact Sl.put_own
    · rw [List.getElem?_set_ne hj]
theorem put1_io {d : D} (h : ρ[j]? = some (.io d)) : ∃ d', (put1 i e ρ)[j]? = some (.io d') := by
  unfold put1
  cases q : ρ[i]? with
  | none => exact ⟨d, h⟩
  | some t =>
    by_cases hj : i = j
    · subst hj
      rw [h] at q
      cases q
      exact ⟨e, List.getElem?_set_self (List.getElem?_eq_some_iff.mp h).1⟩
    · exact ⟨d, by show (ρ.set i (t.put e))[j]? = _; rw [List.getElem?_set_ne hj]; exact h⟩
theorem putL_length : ∀ (is : List Nat) (es : List D) (ρ : En), (putL is es ρ).length = ρ.length
  | [], _, _ => rfl
  | _ :: _, [], _ => rfl
  | i :: is, e :: es, ρ => (putL_length is es _).trans put1_length
theorem putL_own : ∀ (is : List Nat) (es : List D) (ρ : En), Sl.own (putL is es ρ)[j]? ↔ Sl.own ρ[j]?
  | [], _, _ => Iff.rfl
  | _ :: _, [], _ => Iff.rfl
  | i :: is, e :: es, ρ => (putL_own is es _).trans put1_own
theorem putL_io : ∀ (is : List Nat) (es : List D) (ρ : En) (d : D), ρ[j]? = some (.io d) → ∃ d', (putL is es ρ)[j]? = some (.io d')
  | [], _, _, d, h => ⟨d, h⟩
  | _ :: _, [], _, d, h => ⟨d, h⟩
  | i :: is, e :: es, ρ, d, h => by
    obtain ⟨d', h'⟩ := put1_io (i := i) (e := e) h
    exact putL_io is es _ d' h'
theorem putL_get : ∀ (is : List Nat) (ps : List Addr) (es : List D) (ρ : En) (s : Sl), is.Nodup → Paired (fun i p => Sl.own ρ[i]? ∧ σ[i]? = some (some (V.ref p))) is ps → Paired (fun p d => OwnAt C B' H' p d) ps es → (putL is es ρ)[j]? = some s →
    (j ∉ is ∧ ρ[j]? = some s) ∨ ∃ t e p, ρ[j]? = some t ∧ s = t.put e ∧ σ[j]? = some (some (V.ref p)) ∧ OwnAt C B' H' p e ∧ Sl.own (some t) ∧ p ∈ ps
  | [], _, _, _, _, _, .nil, .nil, h => .inl ⟨(fun z => nomatch z), h⟩
  | i :: is, p :: ps, e :: es, ρ, s, hn, .cons hi hp, .cons he hes, h => by
    rw [List.nodup_cons] at hn
    have hp' : Paired (fun k q => Sl.own (put1 i e ρ)[k]? ∧ σ[k]? = some (some (V.ref q))) _ _ := Paired.mapP hp fun k q z => ⟨put1_own.mpr z.1, z.2⟩
    rcases putL_get _ _ _ (put1 i e ρ) s hn.2 hp' hes h with ⟨h1, h2⟩ | ⟨t, e', p', h1, h2, h3, h4, h5, h6⟩
    · rcases put1_get h2 with ⟨z1, z2⟩ | ⟨rfl, t, z1, z2⟩
      · exact .inl ⟨fun z => (List.mem_cons.mp z).elim z1 h1, z2⟩
      · exact .inr ⟨t, e, p, z1, z2, hi.2, he, by rw [← z1]; exact hi.1, List.mem_cons_self⟩
    · rcases put1_get h1 with ⟨z1, z2⟩ | ⟨rfl, t', z1, z2⟩
      · exact .inr ⟨t, e', p', z2, h2, h3, h4, h5, List.mem_cons_of_mem _ h6⟩
      · refine .inr ⟨t', e', p', z1, ?_, h3, h4, ?_, List.mem_cons_of_mem _ h6⟩
        · rw [h2, z2]
          cases t' <;> rfl
        · rw [z2] at h5
          exact Sl.put_own.mp h5
theorem paired_mem {α β : Type} {R : α → β → Prop} : ∀ {l : List α} {m : List β} {b : β}, Paired R l m → b ∈ m → ∃ a, a ∈ l ∧ R a b
  | _, _, _, .nil, h => nomatch h
  | _, _, _, .cons r t, h => by
    rcases List.mem_cons.mp h with rfl | h
    · exact ⟨_, List.mem_cons_self, r⟩
    · obtain ⟨a, h1, h2⟩ := paired_mem t h
      exact ⟨a, List.mem_cons_of_mem _ h1, h2⟩
theorem Stt.called (S : Stt C f B σ H ρ) {is : List Nat} {ps : List Addr} (hp : Paired (fun i p => Sl.own ρ[i]? ∧ σ[i]? = some (some (V.ref p))) is ps) (hnd : is.Nodup) (he : Paired (fun p d => OwnAt C B' H' p d) ps es) (eb : Ex B B') (bh : Ex B' H')
    (keep : ∀ a o, H a = some o → a ∉ ps → H' a = some o) (there : ∀ a, H a ≠ none → H' a ≠ none) (nb : ∀ a, H a ≠ none → B a = none → B' a = none) : Stt C f B' σ H' (putL is es ρ) where
  b0 := S.b0.trans eb
  bh := bh
  old := fun a h => there a (S.old a h)
  nw := fun a h1 h2 => nb a (S.old a h1) (S.nw a h1 h2)
  keep := fun a o h1 h2 => keep a o (S.keep a o h1 h2) fun hm => by
    obtain ⟨i, hi, h3, h4⟩ := paired_mem hp hm
    cases q : ρ[i]? with
    | none => rw [q] at h3; exact h3.elim
    | some s =>
      have z := S.sl i s q
      rw [q] at h3
      cases s with
      | em => exact h3.elim
      | sh _ => exact h3.elim
      | bo _ => exact h3.elim
      | ow _ =>
        obtain ⟨p', e', h0, _⟩ := z
        rw [h4] at e'
        cases e'
        rw [h0] at h1
        cases h1
      | io _ =>
        obtain ⟨p', hio, e', _⟩ := z
        rw [h4] at e'
        cases e'
        exact h2 (List.mem_map.mpr ⟨_, hio, rfl⟩)
  len := by rw [putL_length]; exact S.len
  sl := fun j s h => by
    rcases putL_get is ps es ρ s hnd hp he h with ⟨h1, h2⟩ | ⟨t, e, p, h1, rfl, h3, h4, h5, h6⟩
    · have z := S.sl j s h2
      have ne : ∀ q, Sl.own ρ[j]? → σ[j]? = some (some (V.ref q)) → q ∉ ps := fun q hq e1 hm => by
        obtain ⟨i, hi, h3, h4⟩ := paired_mem hp hm
        have := S.dis i j q h3 hq h4 e1
        subst this
        exact h1 hi
      cases s with
      | em => trivial
      | sh d => obtain ⟨v, e, q⟩ := z; exact ⟨v, e, q.mono eb⟩
      | bo d =>
        obtain ⟨q, hi, e1, ho⟩ := z
        obtain ⟨o2, ht2⟩ := S.bs _ hi
        exact ⟨q, hi, e1, ho.mono eb fun u z => keep q u z fun hm => by
          obtain ⟨i, hi, h4, h5⟩ := paired_mem hp hm
          exact (S.tm _ _ ht2).2.2 i h4 h5⟩
      | ow d =>
        obtain ⟨q, e1, h0, hb, ho⟩ := z
        obtain ⟨o, eo⟩ := ho.got
        exact ⟨q, e1, h0, nb q (by rw [eo]; exact fun z => nomatch z) hb, ho.mono eb fun u z => keep q u z (ne q (by rw [h2]; trivial) e1)⟩
      | io d =>
        obtain ⟨q, hi, e1, h0, hb, ho⟩ := z
        obtain ⟨o, eo⟩ := ho.got
        exact ⟨q, hi, e1, h0, nb q (by rw [eo]; exact fun z => nomatch z) hb, ho.mono eb fun u z => keep q u z (ne q (by rw [h2]; trivial) e1)⟩
    · have z := S.sl j t h1
      cases t with
      | em => exact h5.elim
      | sh _ => exact h5.elim
      | bo _ => exact h5.elim
      | ow _ =>
        obtain ⟨q, e1, h0, hb, ho⟩ := z
        rw [h3] at e1
        cases e1
        obtain ⟨o, eo⟩ := ho.got
        exact ⟨p, h3, h0, nb p (by rw [eo]; exact fun z => nomatch z) hb, h4⟩
      | io _ =>
        obtain ⟨q, hi, e1, h0, hb, ho⟩ := z
        rw [h3] at e1
        cases e1
        obtain ⟨o, eo⟩ := ho.got
        exact ⟨p, hi, h3, h0, nb p (by rw [eo]; exact fun z => nomatch z) hb, h4⟩
  dis := fun i j p h1 h2 => S.dis i j p ((putL_own is es ρ).mp h1) ((putL_own is es ρ).mp h2)
  iof := fun q hq => by
    obtain ⟨d, e⟩ := S.iof q hq
    exact putL_io is es ρ d e
  ifn := S.ifn
  bs := S.bs
  tm := fun a o h => by
    obtain ⟨h1, h2, h3⟩ := S.tm a o h
    refine ⟨keep a o h1 fun hm => ?_, nb a (by rw [h1]; exact fun z => nomatch z) h2, fun i hi => h3 i ((putL_own is es ρ).mp hi)⟩
    obtain ⟨i, hi, h4, h5⟩ := paired_mem hp hm
    exact h3 i h4 h5
theorem ioA_nodup (S : Stt C f B σ H ρ) : ∀ {is : List Nat} {ps : List Addr}, Paired (fun i p => Sl.own ρ[i]? ∧ σ[i]? = some (some (V.ref p))) is ps → is.Nodup → ps.Nodup
  | _, _, .nil, _ => List.nodup_nil
  | _, _, .cons r t, h => by
    rw [List.nodup_cons] at h ⊢
    refine ⟨fun hm => ?_, ioA_nodup S t h.2⟩
    obtain ⟨k, hk, h3, h4⟩ := paired_mem t hm
    have := S.dis k _ _ h3 r.1 h4 r.2
    subst this
    exact h.1 hk
/-- f(..), its answer shared -/
def eCall (cs : List CA) (us : List D) (fn : List D → Option (Rs × List D)) : EF := fun ρ => (runC cs ρ).bind fun p => (getC cs p.1 p.2).bind fun ds => (fn (ds ++ us)).bind fun q => match q.1 with
  | .sh d => some (d, putL (ioI cs) q.2 p.2)
  | _ => none
def eCallO (cs : List CA) (us : List D) (fn : List D → Option (Rs × List D)) : EF := fun ρ => (runC cs ρ).bind fun p => (getC cs p.1 p.2).bind fun ds => (fn (ds ++ us)).bind fun q => match q.1 with
  | .ow d => some (d, putL (ioI cs) q.2 p.2)
  | _ => none
def eCallP0 (cs : List CA) (us : List D) (fn : List D → Option (Rs × List D)) : EF := fun ρ => (runC cs ρ).bind fun p => (getC cs p.1 p.2).bind fun ds => (fn (ds ++ us)).bind fun q => match q.1 with
  | .pr d _ => some (d, putL (ioI cs) q.2 p.2)
  | _ => none
def eCallP1 (cs : List CA) (us : List D) (fn : List D → Option (Rs × List D)) : EF := fun ρ => (runC cs ρ).bind fun p => (getC cs p.1 p.2).bind fun ds => (fn (ds ++ us)).bind fun q => match q.1 with
  | .pr _ d => some (d, putL (ioI cs) q.2 p.2)
  | _ => none
theorem call_run {fn : List D → Option (Rs × List D)} {us : List D} {ws : List V} {XE : XK} {r : Rs} {ks : List Bool} (hks : ks = cs.map CA.k ++ List.replicate ws.length false) (hus : ∀ B, Dns C B ws us) (hnd : (ioI cs).Nodup) (ha : EAC C ta cs) (S : Stt C f B σ H ρ) {ds0 ds : List D} {ρ1 : En}
    (e1 : runC cs ρ = some (ds0, ρ1)) (e2 : getC cs ds0 ρ1 = some ds) (e3 : fn (ds ++ us) = some (r, es)) {Q : VK}
    (k : ∀ v B' H1 H', Ex B B' → Stt C f B' σ H' (putL (ioI cs) es ρ1) → (∀ a, H1 a = none → f.H0 a = none ∧ f.tmp a = none ∧ ∀ i : Nat, Sl.own ρ1[i]? → σ[i]? ≠ some (some (V.ref a))) → RsOk C B' H1 H' v r → Q v H') : tCall (spD C ks fn) ws XE ta σ H Q := by
  subst hks
  refine ha f B σ H ρ ds0 ρ1 _ S e1 fun vs B1 H1 eb S1 hv => ?_
  obtain ⟨h1, h2⟩ := hold_args S1 hv e2
  have hl : vs.length = (cs.map CA.k).length := h1.length.1
  refine ⟨B1, ds ++ us, r, es, S1.bh, h1.const (hus B1), ?_, e3, ?_⟩
  · rw [ioA_const _ _ _ hl]
    exact ioA_nodup S1 h2 hnd
  · rw [ioA_const _ _ _ hl]
    intro v B' H' eb' bh keep there nb he hr
    refine k v B' H1 H' (eb.trans eb') (S1.called h2 hnd he eb' bh keep there nb) (fun a ha => ⟨S1.h0_free ha, S1.tm_free ha, fun i hi e => ?_⟩) hr
    obtain ⟨o, eo⟩ := S1.own_there hi e
    rw [ha] at eo
    cases eo
theorem ee_call {fn : List D → Option (Rs × List D)} {us : List D} {ws : List V} {XE : XK} {ks : List Bool} (ha : EAC C ta cs) (hks : ks = cs.map CA.k ++ List.replicate ws.length false := by rfl) (hus : ∀ B, Dns C B ws us := by exact fun _ => Dns.nil) (hnd : (ioI cs).Nodup := by decide) :
    EE C (tCall (spD C ks fn) ws XE ta) (eCall cs us fn) := fun f B σ H ρ d ρ' Q S e k => by
  obtain ⟨⟨ds0, ρ1⟩, e1, z1⟩ := Option.bind_eq_some_iff.mp e
  obtain ⟨ds, e2, z2⟩ := Option.bind_eq_some_iff.mp z1
  obtain ⟨⟨r, es⟩, e3, z3⟩ := Option.bind_eq_some_iff.mp z2
  cases r with
  | sh d' =>
    cases z3
    exact call_run hks hus hnd ha S e1 e2 e3 fun v B' H1 H' eb S' _ hr => k v B' H' eb S' hr
  | ow d' => cases z3
  | pr _ _ => cases z3
theorem eo_call {fn : List D → Option (Rs × List D)} {us : List D} {ws : List V} {XE : XK} {ks : List Bool} (ha : EAC C ta cs) (hks : ks = cs.map CA.k ++ List.replicate ws.length false := by rfl) (hus : ∀ B, Dns C B ws us := by exact fun _ => Dns.nil) (hnd : (ioI cs).Nodup := by decide) :
    EO C (tCall (spD C ks fn) ws XE ta) (eCallO cs us fn) := fun f B σ H ρ d ρ' Q S e k => by
  obtain ⟨⟨ds0, ρ1⟩, e1, z1⟩ := Option.bind_eq_some_iff.mp e
  obtain ⟨ds, e2, z2⟩ := Option.bind_eq_some_iff.mp z1
  obtain ⟨⟨r, es⟩, e3, z3⟩ := Option.bind_eq_some_iff.mp z2
  cases r with
  | ow d' =>
    cases z3
    refine call_run hks hus hnd ha S e1 e2 e3 fun v B' H1 H' eb S' hf hr => ?_
    obtain ⟨p, rfl, hp, hb, ho⟩ := hr
    obtain ⟨h0, ht, hn⟩ := hf p hp
    exact k p B' H' eb S' h0 ht hb (fun i hi => hn i ((putL_own _ _ _).mp hi)) ho
  | sh d' => cases z3
  | pr _ _ => cases z3
theorem eo_callP {fn : List D → Option (Rs × List D)} {us : List D} {ws : List V} {XE : XK} {ks : List Bool} (ha : EAC C ta cs) (hks : ks = cs.map CA.k ++ List.replicate ws.length false := by rfl) (hus : ∀ B, Dns C B ws us := by exact fun _ => Dns.nil) (hnd : (ioI cs).Nodup := by decide) :
    EO C (tOp (rIxAny C.K) (tCall (spD C ks fn) ws XE ta) (tC (.int 0))) (eCallP0 cs us fn) := fun f B σ H ρ d ρ' Q S e k => by
  obtain ⟨⟨ds0, ρ1⟩, e1, z1⟩ := Option.bind_eq_some_iff.mp e
  obtain ⟨ds, e2, z2⟩ := Option.bind_eq_some_iff.mp z1
  obtain ⟨⟨r, es⟩, e3, z3⟩ := Option.bind_eq_some_iff.mp z2
  cases r with
  | pr d' d2 =>
    cases z3
    refine call_run hks hus hnd ha S e1 e2 e3 fun v B' H1 H' eb S' hf hr => ?_
    obtain ⟨a, p, u, rfl, h1, hp, hb, ho, _⟩ := hr
    obtain ⟨h0, ht, hn⟩ := hf p hp
    exact .inr (.inl ⟨a, _, 0, V.ref p, rfl, rfl, SqT.of h1, rfl, k p B' H' eb S' h0 ht hb (fun i hi => hn i ((putL_own _ _ _).mp hi)) ho⟩)
  | sh d' => cases z3
  | ow _ => cases z3
theorem ee_callP {fn : List D → Option (Rs × List D)} {us : List D} {ws : List V} {XE : XK} {ks : List Bool} (ha : EAC C ta cs) (hks : ks = cs.map CA.k ++ List.replicate ws.length false := by rfl) (hus : ∀ B, Dns C B ws us := by exact fun _ => Dns.nil) (hnd : (ioI cs).Nodup := by decide) :
    EE C (tOp (rIxAny C.K) (tCall (spD C ks fn) ws XE ta) (tC (.int 1))) (eCallP1 cs us fn) := fun f B σ H ρ d ρ' Q S e k => by
  obtain ⟨⟨ds0, ρ1⟩, e1, z1⟩ := Option.bind_eq_some_iff.mp e
  obtain ⟨ds, e2, z2⟩ := Option.bind_eq_some_iff.mp z1
  obtain ⟨⟨r, es⟩, e3, z3⟩ := Option.bind_eq_some_iff.mp z2
  cases r with
  | pr d' d2 =>
    cases z3
    refine call_run hks hus hnd ha S e1 e2 e3 fun v B' H1 H' eb S' hf hr => ?_
    obtain ⟨a, p, u, rfl, h1, hp, hb, ho, hu⟩ := hr
    exact .inr (.inl ⟨a, _, 1, u, rfl, rfl, SqT.of h1, rfl, k u B' H' eb S' hu⟩)
  | sh d' => cases z3
  | ow _ => cases z3
end

/-! ### a def by its body -/
def mkEnv : List Bool → List D → Nat → En
  | false :: ks, d :: ds, m => .sh d :: mkEnv ks ds m
  | true :: ks, d :: ds, m => .io d :: mkEnv ks ds m
  | _, _, m => List.replicate m .em
def iosD : Nat → List Bool → En → List D
  | _, [], _ => []
  | i, true :: ks, ρ => ((ownD ρ[i]?).getD .none) :: iosD (i + 1) ks ρ
  | i, false :: ks, ρ => iosD (i + 1) ks ρ
def fnR (ks : List Bool) (m : Nat) (F : SF) : List D → Option (Rs × List D) := fun ds => (F (mkEnv ks ds m)).bind fun o => match o with
  | .rt r ρ => some (r, iosD 0 ks ρ)
  | .nx ρ => some (.sh .none, iosD 0 ks ρ)
  | _ => none
def ioP : Nat → List Bool → List V → List (Nat × Addr)
  | k, true :: ks, V.ref p :: vs => (k, p) :: ioP (k + 1) ks vs
  | k, _ :: ks, _ :: vs => ioP (k + 1) ks vs
  | _, _, _ => []
section
variable {C : Cn} {f : Fr0} {B B' H H' : Hp} {ks : List Bool} {vs : List V} {ds : List D} {m : Nat}
theorem ioP_snd : ∀ (k : Nat) (ks : List Bool) (vs : List V), (ioP k ks vs).map (·.2) = ioA ks vs
  | k, [], vs => by unfold ioP ioA; rfl
  | k, b :: ks, [] => by unfold ioP ioA; cases b <;> rfl
  | k, true :: ks, v :: vs => by
    have ih := ioP_snd (k + 1) ks vs
    cases v with
    | ref p => show p :: (ioP (k + 1) ks vs).map (·.2) = p :: ioA ks vs; rw [ih]
    | _ => exact ih
  | k, false :: ks, v :: vs => ioP_snd (k + 1) ks vs
theorem mk_length : ∀ {ks : List Bool} {ds : List D} {m : Nat}, ds.length = ks.length → (mkEnv ks ds m).length = ks.length + m
  | [], [], m, _ => by unfold mkEnv; simp
  | [], _ :: _, _, h => by simp at h
  | _ :: _, [], _, h => by simp at h
  | false :: ks, d :: ds, m, h => by
    show (mkEnv ks ds m).length + 1 = ks.length + 1 + m
    rw [mk_length (by simpa using h)]
    omega
  | true :: ks, d :: ds, m, h => by
    show (mkEnv ks ds m).length + 1 = ks.length + 1 + m
    rw [mk_length (by simpa using h)]
    omega
theorem mk_em {i : Nat} {s : Sl} (h : (List.replicate m Sl.em)[i]? = some s) : s = .em := by
  rw [List.getElem?_replicate] at h
  split at h
  · cases h; rfl
  · cases h
theorem mk_sl (hf : f.H0 = H) : ∀ (k : Nat) {ks : List Bool} {vs : List V} {ds : List D}, ArgRel C B H ks vs ds → (∀ q ∈ ioP k ks vs, q ∈ f.ios) → ∀ (i : Nat) (s : Sl), (mkEnv ks ds m)[i]? = some s →
    SlOk C f B H (vs.map some ++ List.replicate m (none : Option V))[i]? (k + i) s
  | k, _, _, _, .nil, _, i, s, h => by
    have := mk_em h
    subst this
    trivial
  | k, _, _, _, .sh (ks := ks) (v := v) (vs := vs) (d := d) (ds := ds) hv hs, hq, i, s, h => by
    cases i with
    | zero =>
      cases h
      exact ⟨v, rfl, hv⟩
    | succ i =>
      have := mk_sl hf (k + 1) hs (fun q hm => hq q hm) i s h
      have e : k + 1 + i = k + (i + 1) := by omega
      rw [e] at this
      exact this
  | k, _, _, _, .io (ks := ks) (p := p) (vs := vs) (d := d) (ds := ds) hb ho hs, hq, i, s, h => by
    cases i with
    | zero =>
      cases h
      obtain ⟨o, eo⟩ := ho.got
      exact ⟨p, hq _ (by show (k + 0, p) ∈ (k, p) :: _; exact List.mem_cons_self), rfl, (by rw [hf, eo]; exact (fun z => nomatch z)), hb, ho⟩
    | succ i =>
      have := mk_sl hf (k + 1) hs (fun q hm => hq q (by show q ∈ (k, p) :: ioP (k + 1) ks vs; exact List.mem_cons_of_mem _ hm)) i s h
      have e : k + 1 + i = k + (i + 1) := by omega
      rw [e] at this
      exact this
theorem mk_own : ∀ (k : Nat) {ks : List Bool} {vs : List V} {ds : List D}, ArgRel C B H ks vs ds → ∀ (i : Nat) (p : Addr), Sl.own (mkEnv ks ds m)[i]? → (vs.map some ++ List.replicate m (none : Option V))[i]? = some (some (V.ref p)) → (k + i, p) ∈ ioP k ks vs
  | k, _, _, _, .nil, i, p, h, _ => by
    cases q : (List.replicate m Sl.em)[i]? with
    | none => have h : Sl.own (List.replicate m Sl.em)[i]? := h; rw [q] at h; exact h.elim
    | some s =>
      have := mk_em q
      subst this
      have h : Sl.own (List.replicate m Sl.em)[i]? := h
      rw [q] at h
      exact h.elim
  | k, _, _, _, .sh (ks := ks) (v := v) (vs := vs) (d := d) (ds := ds) hv hs, i, p, h, e => by
    cases i with
    | zero => exact h.elim
    | succ i =>
      have := mk_own (k + 1) hs i p h e
      have e : k + 1 + i = k + (i + 1) := by omega
      rw [e] at this
      exact this
  | k, _, _, _, .io (ks := ks) (p := p') (vs := vs) (d := d) (ds := ds) hb ho hs, i, p, h, e => by
    cases i with
    | zero =>
      cases e
      exact List.mem_cons_self
    | succ i =>
      have := mk_own (k + 1) hs i p h e
      have e : k + 1 + i = k + (i + 1) := by omega
      rw [e] at this
      exact List.mem_cons_of_mem _ this
theorem mk_iof : ∀ (k : Nat) {ks : List Bool} {vs : List V} {ds : List D}, ArgRel C B H ks vs ds → ∀ q ∈ ioP k ks vs, k ≤ q.1 ∧ ∃ d, (mkEnv ks ds m)[q.1 - k]? = some (.io d)
  | k, _, _, _, .nil, q, h => nomatch h
  | k, _, _, _, .sh (ks := ks) (v := v) (vs := vs) (d := d) (ds := ds) hv hs, q, h => by
    obtain ⟨h1, d', h2⟩ := mk_iof (k + 1) hs q h
    refine ⟨by omega, d', ?_⟩
    have e : q.1 - k = (q.1 - (k + 1)) + 1 := by omega
    rw [e]
    exact h2
  | k, _, _, _, .io (ks := ks) (p := p) (vs := vs) (d := d) (ds := ds) hb ho hs, q, h => by
    rcases List.mem_cons.mp h with rfl | h
    · exact ⟨Nat.le_refl _, d, by show (Sl.io d :: _)[k - k]? = _; rw [Nat.sub_self]; rfl⟩
    · obtain ⟨h1, d', h2⟩ := mk_iof (k + 1) hs q h
      refine ⟨by omega, d', ?_⟩
      have e : q.1 - k = (q.1 - (k + 1)) + 1 := by omega
      rw [e]
      exact h2
theorem ioP_inj {l : List (Nat × Addr)} (hn : (l.map (·.2)).Nodup) {i j : Nat} {p : Addr} (h1 : (i, p) ∈ l) (h2 : (j, p) ∈ l) : i = j := by
  induction l with
  | nil => cases h1
  | cons q l ih =>
    rw [List.map_cons, List.nodup_cons] at hn
    rcases List.mem_cons.mp h1 with e1 | e1
    · rcases List.mem_cons.mp h2 with e2 | e2
      · exact congrArg (·.1) (e1.trans e2.symm)
      · exact absurd (List.mem_map.mpr ⟨_, e2, by rw [← e1]⟩) hn.1
    · rcases List.mem_cons.mp h2 with e2 | e2
      · exact absurd (List.mem_map.mpr ⟨_, e1, by rw [← e2]⟩) hn.1
      · exact ih hn.2 e1 e2
theorem ios_post {σ : L2.St} {ρ : En} (S : Stt C f B' σ H' ρ) : ∀ (k : Nat) {ks : List Bool} {vs : List V} {ds : List D}, ArgRel C B H ks vs ds → (∀ q ∈ ioP k ks vs, q ∈ f.ios) → (f.ios.map (·.1)).Nodup → Paired (fun p d => OwnAt C B' H' p d) (ioA ks vs) (iosD k ks ρ)
  | k, _, _, _, .nil, _, _ => .nil
  | k, _, _, _, .sh hv hs, hq, hn => ios_post S (k + 1) hs (fun q hm => hq q hm) hn
  | k, _, _, _, .io (ks := ks) (p := p) (vs := vs) hb ho hs, hq, hn => by
    refine .cons ?_ (ios_post S (k + 1) hs (fun q hm => hq q (by show q ∈ (k, p) :: ioP (k + 1) ks vs; exact List.mem_cons_of_mem _ hm)) hn)
    have hin : (k, p) ∈ f.ios := hq (k, p) List.mem_cons_self
    obtain ⟨d, e⟩ := S.iof (k, p) hin
    have e' : ρ[k]? = some (.io d) := e
    rw [e']
    obtain ⟨p', hi, _, _, _, ho'⟩ := S.sl k _ e'
    have : p' = p := by
      have inj : ∀ {l : List (Nat × Addr)}, (l.map (·.1)).Nodup → (k, p') ∈ l → (k, p) ∈ l → p' = p := fun {l} hn h1 h2 => by
        induction l with
        | nil => cases h1
        | cons q l ih =>
          rw [List.map_cons, List.nodup_cons] at hn
          rcases List.mem_cons.mp h1 with e1 | e1
          · rcases List.mem_cons.mp h2 with e2 | e2
            · exact congrArg (·.2) (e1.trans e2.symm)
            · exact absurd (List.mem_map.mpr ⟨_, e2, by rw [← e1]⟩) hn.1
          · rcases List.mem_cons.mp h2 with e2 | e2
            · exact absurd (List.mem_map.mpr ⟨_, e1, by rw [← e2]⟩) hn.1
            · exact ih hn.2 e1 e2
      exact inj hn hi hin
    subst this
    exact ho'
theorem ioP_fst : ∀ (k : Nat) (ks : List Bool) (vs : List V), ((ioP k ks vs).map (·.1)).Nodup ∧ ∀ i ∈ (ioP k ks vs).map (·.1), k ≤ i
  | k, [], vs => by unfold ioP; exact ⟨List.nodup_nil, fun _ h => nomatch h⟩
  | k, b :: ks, [] => by unfold ioP; cases b <;> exact ⟨List.nodup_nil, fun _ h => nomatch h⟩
  | k, true :: ks, v :: vs => by
    obtain ⟨h1, h2⟩ := ioP_fst (k + 1) ks vs
    have h3 : ∀ i ∈ (ioP (k + 1) ks vs).map (·.1), k ≤ i := fun i hi => Nat.le_of_succ_le (h2 i hi)
    cases v with
    | ref p =>
      show (k :: (ioP (k + 1) ks vs).map (·.1)).Nodup ∧ ∀ i ∈ k :: (ioP (k + 1) ks vs).map (·.1), k ≤ i
      refine ⟨List.nodup_cons.mpr ⟨fun hm => absurd (h2 k hm) (Nat.not_succ_le_self k), h1⟩, fun i hi => ?_⟩
      rcases List.mem_cons.mp hi with rfl | hi
      · exact Nat.le_refl _
      · exact h3 i hi
    | _ => exact ⟨h1, h3⟩
  | k, false :: ks, v :: vs => by
    obtain ⟨h1, h2⟩ := ioP_fst (k + 1) ks vs
    exact ⟨h1, fun i hi => Nat.le_of_succ_le (h2 i hi)⟩
theorem fst_inj {l : List (Nat × Addr)} (hn : (l.map (·.1)).Nodup) {q q' : Nat × Addr} (h1 : q ∈ l) (h2 : q' ∈ l) (e : q.1 = q'.1) : q.2 = q'.2 := by
  induction l with
  | nil => cases h1
  | cons z l ih =>
    rw [List.map_cons, List.nodup_cons] at hn
    rcases List.mem_cons.mp h1 with e1 | e1
    · rcases List.mem_cons.mp h2 with e2 | e2
      · rw [e1, e2]
      · exact absurd (List.mem_map.mpr ⟨_, e2, by rw [← e, e1]⟩) hn.1
    · rcases List.mem_cons.mp h2 with e2 | e2
      · exact absurd (List.mem_map.mpr ⟨_, e1, by rw [e, e2]⟩) hn.1
      · exact ih hn.2 e1 e2
theorem stt_start (bh : Ex B H) (ha : ArgRel C B H ks vs ds) (hn : (ioA ks vs).Nodup) : Stt C { H0 := H, B0 := B, ios := ioP 0 ks vs, tmp := fun _ => none, bos := [] } B (vs.map some ++ List.replicate m (none : Option V)) H (mkEnv ks ds m) where
  b0 := Ex.refl B
  bh := bh
  old := fun _ h => h
  nw := fun _ _ h => h
  keep := fun _ _ h _ => h
  len := by rw [mk_length ha.length.2, List.length_append, List.length_map, List.length_replicate, ha.length.1]
  sl := fun i s h => by
    have := mk_sl (f := { H0 := H, B0 := B, ios := ioP 0 ks vs, tmp := fun _ => none, bos := [] }) rfl 0 ha (fun q hq => hq) i s h
    rw [Nat.zero_add] at this
    exact this
  dis := fun i j p h1 h2 e1 e2 => by
    have a := mk_own 0 ha i p h1 e1
    have b := mk_own 0 ha j p h2 e2
    rw [Nat.zero_add] at a b
    exact ioP_inj (by rw [ioP_snd]; exact hn) a b
  iof := fun q hq => by
    obtain ⟨_, d, e⟩ := mk_iof (m := m) 0 ha q hq
    exact ⟨d, e⟩
  tm := fun _ _ h => nomatch h
  ifn := fun q hq q' hq' e => fst_inj (ioP_fst 0 ks vs).1 hq hq' e
  bs := fun q hq => nomatch hq
/-- the def's promise, by its body's reading -/
theorem fn_ok {t : TS} {F : SF} {N : List Str} {H : Hp} {Q : VK} {XE : XK} (hb : ES C t F) (hN : N.length = ks.length + m) (h : spD C ks (fnR ks m F) vs H Q XE) : t { nx := fun _ H' => Q .non H', rt := Q } (L2.start N vs) H := by
  obtain ⟨B, ds, r, es, bh, ha, hn, e, k⟩ := h
  obtain ⟨o, e1, z1⟩ := Option.bind_eq_some_iff.mp e
  have S := stt_start (m := m) bh ha hn
  have es' : L2.start N vs = vs.map some ++ List.replicate m (none : Option V) := by
    unfold L2.start
    rw [hN, ha.length.1, Nat.add_sub_cancel_left]
  rw [es']
  refine hb _ B _ H _ o _ S e1 ?_
  have fin : ∀ (v : V) (B' : Hp) (σ' : L2.St) (H' : Hp) (ρ : En), Ex B B' → Stt C { H0 := H, B0 := B, ios := ioP 0 ks vs, tmp := fun _ => none, bos := [] } B' σ' H' ρ → es = iosD 0 ks ρ → RsOk C B' H H' v r → Q v H' := fun v B' σ' H' ρ eb S' ee hr => by
    subst ee
    refine k v B' H' eb S'.bh (fun a o h1 h2 => S'.keep a o h1 ?_) S'.old S'.nw (ios_post S' 0 ha (fun q hq => hq) (ioP_fst 0 ks vs).1) hr
    show a ∉ (ioP 0 ks vs).map (·.2)
    rw [ioP_snd]
    exact h2
  cases o with
  | nx ρ =>
    cases z1
    exact fun B' σ' H' eb S' => fin .non B' σ' H' ρ eb S' rfl .non
  | bk ρ => cases z1
  | ct ρ => cases z1
  | rt r' ρ =>
    cases z1
    cases r with
    | sh d => exact fun v B' σ' H' eb S' hv => fin v B' σ' H' ρ eb S' rfl hv
    | ow d => exact fun p B' σ' H' eb S' h0 hb ho => fin (V.ref p) B' σ' H' ρ eb S' rfl ⟨p, rfl, h0, hb, ho⟩
    | pr d e => exact fun a p u B' σ' H' eb S' h1 h0 hb ho hu => fin (V.ref a) B' σ' H' ρ eb S' rfl ⟨a, p, u, rfl, h1, h0, hb, ho, hu⟩
theorem sp_len {fn : List D → Option (Rs × List D)} {H : Hp} {Q : VK} {XE : XK} (h : spD C ks fn vs H Q XE) : vs.length = ks.length := by
  obtain ⟨B, ds, r, es, bh, ha, _⟩ := h
  exact ha.length.1
end
end Fc
set_option Elab.async false
set_option linter.all false
set_option maxRecDepth 100000
/-! Fc: comprehensions of two fors; defs by name; the law's end. -/
namespace Fc
open PySem L2 PyProof.Rows
section
variable {C : Cn} {wi wi1 : TI} {I I1 : IF} {g g1 : TG} {G G1 : GF} {tt tt1 : TT} {T T1 : TF} {te : TE} {E : EF} {vs vs1 : List Nat}
structure LcInv (C : Cn) (f : Fr0) (B1 : Hp) (vs : List Nat) (σ : L2.St) (Dl : Addr) (H : Hp) (ρ : En) (acc : List D) (B : Hp) (us : List V) : Prop where
  eb : Ex B1 B
  nio : noIo vs ρ = true
  S : Stt C f B (wipe σ vs) H (kill vs ρ)
  at_ : H Dl = some (.lst us)
  ds : Dns C B us acc
  nb : B Dl = none
  no : ∀ j : Nat, Sl.own (kill vs ρ)[j]? → (wipe σ vs)[j]? ≠ some (some (V.ref Dl))
theorem lc_turns {f : Fr0} {B1 : Hp} {σ : L2.St} {Dl : Addr} {J : It} {ds acc out : List D} {ρ ρ2 : En} {H : Hp} {B : Hp} {us : List V} {Fin : Hp → Prop} (h0 : f.H0 Dl = none) (htm : f.tmp Dl = none) (it : ItOk C f B1 J ds)
    (hg : EGv C vs g G) (ht : ET C tt T) (he : EE C te E) (st : LcInv C f B1 vs σ Dl H ρ acc B us) (e : lcL vs G T E ds acc (kill vs ρ) = some (out, ρ2))
    (fin : ∀ H' ρ' B' us', LcInv C f B1 vs σ Dl H' ρ' out B' us' → ρ2 = kill vs ρ' → Fin H') :
    ∃ W : Nat → Nat → Hp → Prop, (∃ m, W 0 m H) ∧ ∀ i m H, W i m H → (J.stop i H ∧ Fin H) ∨ (J.go i H ∧ ∃ Nx : Hp → Prop, (∀ H', Nx H' → ∃ m', m' < m ∧ W (i + 1) m' H') ∧
      ∀ x H', J.yld i H x H' → g x (wipe σ vs) H' fun σ2 H2 => wipe σ2 vs = wipe σ vs ∧ tt σ2 H2 fun b H3 =>
        if b = true then te σ2 H3 fun y H4 => ∃ acc, H4 Dl = some (.lst acc) ∧ acc.length < sizeLine ∧ Nx (upd H4 Dl (.lst (acc ++ [y]))) else Nx H3) := by
  refine ⟨fun i m H2 => m = ds.length - i ∧ i ≤ ds.length ∧ ∃ ρ3 acc B2 us, LcInv C f B1 vs σ Dl H2 ρ3 acc B2 us ∧ lcL vs G T E (ds.drop i) acc (kill vs ρ3) = some (out, ρ2),
    ⟨ds.length, rfl, Nat.zero_le _, ρ, acc, B, us, st, e⟩, ?_⟩
  rintro i m H2 ⟨rfl, hil, ρ3, acc, B2, us, L, e3⟩
  obtain ⟨it1, it2⟩ := it f B2 H2 _ _ i (BoEx.refl _) L.eb L.S
  by_cases hlt : i < ds.length
  · rw [List.drop_eq_getElem_cons hlt] at e3
    obtain ⟨ρ4, e4, z4⟩ := Option.bind_eq_some_iff.mp e3
    obtain ⟨⟨b, ρ5⟩, e5, z5⟩ := Option.bind_eq_some_iff.mp z4
    obtain ⟨go, _⟩ := it1 ds[i] (List.getElem?_eq_getElem hlt)
    refine .inr ⟨go, fun H4 => i + 1 ≤ ds.length ∧ ∃ ρ3 acc B2 us, LcInv C f B1 vs σ Dl H4 ρ3 acc B2 us ∧ lcL vs G T E (ds.drop (i + 1)) acc (kill vs ρ3) = some (out, ρ2), fun H4 h => ⟨ds.length - (i + 1), by omega, rfl, h⟩, fun x H3 y => ?_⟩
    have S2t := L.S.tell L.at_ L.nb L.no
    obtain ⟨it1', _⟩ := it { f with tmp := upd f.tmp Dl (.lst us) } B2 H2 _ _ i (BoEx.of rfl (Ex.new htm)) L.eb S2t
    obtain ⟨_, step⟩ := it1' ds[i] (List.getElem?_eq_getElem hlt)
    obtain ⟨B3, eb3, S3, hx⟩ := step x H3 y
    refine hg _ B3 _ H3 _ x ds[i] ρ4 _ S3 hx e4 fun σ4 w4 S4 => ⟨by rw [w4, wipe_wipe], ?_⟩
    have w4' : wipe σ4 vs = wipe σ vs := by rw [w4, wipe_wipe]
    refine ht _ B3 σ4 H3 ρ4 b ρ5 _ S4 e5 fun B5 H5 eb5 S5 => ?_
    simp only at z5
    have out_of : ∀ {B6 H6 : Hp} {ρ6 : En}, noIo vs ρ6 = true → Stt C { f with tmp := upd f.tmp Dl (.lst us) } B6 σ4 H6 ρ6 → Stt C f B6 (wipe σ vs) H6 (kill vs ρ6) ∧ H6 Dl = some (.lst us) ∧ B6 Dl = none ∧ ∀ j : Nat, Sl.own (kill vs ρ6)[j]? → (wipe σ vs)[j]? ≠ some (some (V.ref Dl)) := fun {B6 H6 ρ6} hn6 S6 => by
      have S7 := S6.wiped hn6
      rw [w4'] at S7
      obtain ⟨q1, q2, q3⟩ := S7.tm Dl (.lst us) upd_same
      exact ⟨S7.untell (Ex.new htm) L.S.bs, q1, q2, q3⟩
    cases b with
    | true =>
      rw [if_pos rfl] at z5 ⊢
      obtain ⟨⟨yv, ρ6⟩, e6, z6⟩ := Option.bind_eq_some_iff.mp z5
      simp only at z6
      split at z6
      · rename_i hc
        refine he _ B5 σ4 H5 ρ5 yv ρ6 _ S5 e6 fun v B6 H6 eb6 S6 hv => ?_
        obtain ⟨S7, q1, q2, q3⟩ := out_of hc.2 S6
        have eb26 := (eb3.trans eb5).trans eb6
        exact ⟨us, q1, lim_lt (by rw [L.ds.length]; exact hc.1), hlt, ρ6, acc ++ [yv], B6, us ++ [v], ⟨L.eb.trans eb26, hc.2, S7.touch h0 htm q2 q3, upd_same, (L.ds.mono eb26).append (.cons hv .nil), q2, q3⟩, z6⟩
      · cases z6
    | false =>
      rw [if_neg Bool.false_ne_true] at z5 ⊢
      split at z5
      · rename_i hc
        obtain ⟨S7, q1, q2, q3⟩ := out_of hc S5
        have eb25 := eb3.trans eb5
        exact ⟨hlt, ρ5, acc, B5, us, ⟨L.eb.trans eb25, hc, S7, q1, L.ds.mono eb25, q2, q3⟩, z5⟩
      · cases z5
  · have e4 : i = ds.length := by omega
    refine .inl ⟨it2 e4, ?_⟩
    subst e4
    rw [List.drop_length] at e3
    cases e3
    exact fin H2 ρ3 B2 us L rfl
/-- the items' fold, two fors -/
def lc2L (vs vs1 : List Nat) (G : GF) (T : TF) (I1 : IF) (G1 : GF) (T1 : TF) (E : EF) : List D → List D → En → Option (List D × En)
  | [], acc, ρ => some (acc, ρ)
  | d :: ds, acc, ρ => (G d ρ).bind fun ρ1 => (T ρ1).bind fun p => if p.1 then (I1 p.2).bind fun q => if noIo vs1 q.2 then (lcL vs1 G1 T1 E q.1 acc (kill vs1 q.2)).bind fun r => if noIo vs r.2 then lc2L vs vs1 G T I1 G1 T1 E ds r.1 (kill vs r.2) else none else none
    else if noIo vs p.2 then lc2L vs vs1 G T I1 G1 T1 E ds acc (kill vs p.2) else none
def eLc2 (vs vs1 : List Nat) (I : IF) (G : GF) (T : TF) (I1 : IF) (G1 : GF) (T1 : TF) (E : EF) : EF := fun ρ => (I ρ).bind fun p => if noIo vs p.2 then (lc2L vs vs1 G T I1 G1 T1 E p.1 [] (kill vs p.2)).bind fun q => some (.list q.1, q.2) else none
theorem eo_lc2 (hi : EI C wi I) (hg : EGv C vs g G) (ht : ET C tt T) (hi1 : EI C wi1 I1) (hg1 : EGv C vs1 g1 G1) (ht1 : ET C tt1 T1) (he : EE C te E) : EO C (tLc2 wi g tt wi1 g1 tt1 te vs vs1) (eLc2 vs vs1 I G T I1 G1 T1 E) := fun f B σ H ρ d ρ' Q S e k => by
  obtain ⟨⟨ds, ρ1⟩, e1, z1⟩ := Option.bind_eq_some_iff.mp e
  simp only at z1
  split at z1
  · rename_i hn
    obtain ⟨⟨out, ρ2⟩, e2, z2⟩ := Option.bind_eq_some_iff.mp z1
    cases z2
    refine hi f B σ H ρ ds ρ1 _ S e1 fun J B1 H1 eb S1 it Dl hD => ?_
    have h0 := S1.h0_free hD
    have htm := S1.tm_free hD
    have hb1 := S1.bh.free hD
    refine ⟨fun i m H2 => m = ds.length - i ∧ i ≤ ds.length ∧ ∃ ρ3 acc B2 us, LcInv C f B1 vs σ Dl H2 ρ3 acc B2 us ∧ lc2L vs vs1 G T I1 G1 T1 E (ds.drop i) acc (kill vs ρ3) = some (out, ρ2),
      ⟨ds.length, rfl, Nat.zero_le _, ρ1, [], B1, [], ⟨Ex.refl B1, hn, (S1.wiped hn).allocO hD, upd_same, .nil, hb1, fun j hj z => ?_⟩, e2⟩, ?_⟩
    · obtain ⟨u, hu⟩ := (S1.wiped hn).own_there hj z
      rw [hD] at hu
      cases hu
    rintro i m H2 ⟨rfl, hil, ρ3, acc, B2, us, L, e3⟩
    obtain ⟨it1, it2⟩ := it f B2 H2 _ _ i (BoEx.refl _) L.eb L.S
    by_cases hlt : i < ds.length
    · rw [List.drop_eq_getElem_cons hlt] at e3
      obtain ⟨ρ4, e4, z4⟩ := Option.bind_eq_some_iff.mp e3
      obtain ⟨⟨b, ρ5⟩, e5, z5⟩ := Option.bind_eq_some_iff.mp z4
      obtain ⟨go, _⟩ := it1 ds[i] (List.getElem?_eq_getElem hlt)
      refine .inr ⟨go, fun H4 => i + 1 ≤ ds.length ∧ ∃ ρ3 acc B2 us, LcInv C f B1 vs σ Dl H4 ρ3 acc B2 us ∧ lc2L vs vs1 G T I1 G1 T1 E (ds.drop (i + 1)) acc (kill vs ρ3) = some (out, ρ2), fun H4 h => ⟨ds.length - (i + 1), by omega, rfl, h⟩, fun x H3 y => ?_⟩
      have S2t := L.S.tell L.at_ L.nb L.no
      obtain ⟨it1', _⟩ := it { f with tmp := upd f.tmp Dl (.lst us) } B2 H2 _ _ i (BoEx.of rfl (Ex.new htm)) L.eb S2t
      obtain ⟨_, step⟩ := it1' ds[i] (List.getElem?_eq_getElem hlt)
      obtain ⟨B3, eb3, S3, hx⟩ := step x H3 y
      refine hg _ B3 _ H3 _ x ds[i] ρ4 _ S3 hx e4 fun σ4 w4 S4 => ⟨by rw [w4, wipe_wipe], ?_⟩
      have w4' : wipe σ4 vs = wipe σ vs := by rw [w4, wipe_wipe]
      refine ht _ B3 σ4 H3 ρ4 b ρ5 _ S4 e5 fun B5 H5 eb5 S5 => ?_
      simp only at z5
      have out_of : ∀ {B6 H6 : Hp} {ρ6 : En}, noIo vs ρ6 = true → Stt C { f with tmp := upd f.tmp Dl (.lst us) } B6 σ4 H6 ρ6 → Stt C f B6 (wipe σ vs) H6 (kill vs ρ6) ∧ H6 Dl = some (.lst us) ∧ B6 Dl = none ∧ ∀ j : Nat, Sl.own (kill vs ρ6)[j]? → (wipe σ vs)[j]? ≠ some (some (V.ref Dl)) := fun {B6 H6 ρ6} hn6 S6 => by
        have S7 := S6.wiped hn6
        rw [w4'] at S7
        obtain ⟨q1, q2, q3⟩ := S7.tm Dl (.lst us) upd_same
        exact ⟨S7.untell (Ex.new htm) L.S.bs, q1, q2, q3⟩
      cases b with
      | true =>
        rw [if_pos rfl] at z5 ⊢
        obtain ⟨⟨ds1, ρ6⟩, e6, z6⟩ := Option.bind_eq_some_iff.mp z5
        simp only at z6
        split at z6
        · rename_i hn6
          obtain ⟨⟨acc2, ρ7⟩, e7, z7⟩ := Option.bind_eq_some_iff.mp z6
          simp only at z7
          split at z7
          · rename_i hn7
            refine hi1 _ B5 σ4 H5 ρ5 ds1 ρ6 _ S5 e6 fun J1 B6 H6 eb6 S6 itJ => ?_
            -- the inner loop, from the state as it stands
            obtain ⟨q1, q2, q3⟩ := S6.tm Dl (.lst us) upd_same
            have S6' : Stt C f B6 σ4 H6 ρ6 := S6.untell (Ex.new htm) L.S.bs
            have eb26 := (eb3.trans eb5).trans eb6
            refine lc_turns (ρ := ρ6) h0 htm (fun f2 B9 H9 σ9 ρ9 i9 hx => itJ f2 B9 H9 σ9 ρ9 i9 (BoEx.told hx htm L.S.bs)) hg1 ht1 he (B := B6) (us := us) ⟨Ex.refl B6, hn6, S6'.wiped hn6, q1, L.ds.mono eb26, q2, fun j hj z => ?_⟩ e7 fun H8 ρ8 B8 us8 L8 er => ⟨hlt, ?_⟩
            · by_cases hm : j ∈ vs1
              · cases q : (kill vs1 ρ6)[j]? with
                | none => rw [q] at hj; exact hj.elim
                | some s =>
                  have := kill_em vs1 ρ6 j s hn6 hm q
                  subst this
                  rw [q] at hj
                  exact hj.elim
              · rw [wipe_get, if_neg hm] at z
                cases q : (kill vs1 ρ6)[j]? with
                | none => rw [q] at hj; exact hj.elim
                | some s =>
                  rcases kill_get ρ6 vs1 j s q with rfl | q'
                  · rw [q] at hj; exact hj.elim
                  · exact q3 j (by rw [q']; rw [q] at hj; exact hj) z
            · subst er
              have S8 := (L8.S.unwiped L8.nio).wiped hn7
              rw [w4'] at S8
              refine ⟨kill vs1 ρ8, acc2, B8, us8, ⟨(L.eb.trans eb26).trans L8.eb, hn7, S8, L8.at_, L8.ds, L8.nb, fun j hj z => ?_⟩, z7⟩
              by_cases hm : j ∈ vs
              · cases q : (kill vs (kill vs1 ρ8))[j]? with
                | none => rw [q] at hj; exact hj.elim
                | some s =>
                  have := kill_em vs _ j s hn7 hm q
                  subst this
                  rw [q] at hj
                  exact hj.elim
              · cases q : (kill vs (kill vs1 ρ8))[j]? with
                | none => rw [q] at hj; exact hj.elim
                | some s =>
                  rcases kill_get _ vs j s q with rfl | q'
                  · rw [q] at hj; exact hj.elim
                  · have hs : Sl.own (kill vs1 ρ8)[j]? := by rw [q']; rw [q] at hj; exact hj
                    by_cases hm1 : j ∈ vs1
                    · have := kill_em vs1 ρ8 j s L8.nio hm1 q'
                      subst this
                      rw [q'] at hs
                      exact hs.elim
                    · refine L8.no j hs ?_
                      rw [wipe_get, if_neg hm1]
                      have w5 : (wipe σ4 vs)[j]? = (wipe σ vs)[j]? := by rw [w4']
                      rw [wipe_get, if_neg hm] at w5
                      rw [w5]
                      exact z
          · cases z7
        · cases z6
      | false =>
        rw [if_neg Bool.false_ne_true] at z5 ⊢
        split at z5
        · rename_i hc
          obtain ⟨S7, q1, q2, q3⟩ := out_of hc S5
          have eb25 := eb3.trans eb5
          exact ⟨hlt, ρ5, acc, B5, us, ⟨L.eb.trans eb25, hc, S7, q1, L.ds.mono eb25, q2, q3⟩, z5⟩
        · cases z5
    · have e4 : i = ds.length := by omega
      refine .inl ⟨it2 e4, ?_⟩
      subst e4
      rw [List.drop_length] at e3
      cases e3
      have S3 := L.S.unwiped L.nio
      refine k Dl B2 H2 (eb.trans L.eb) S3 h0 htm L.nb (fun j hj z => ?_) ⟨us, L.at_, L.ds⟩
      by_cases hm : j ∈ vs
      · cases q : (kill vs ρ3)[j]? with
        | none => rw [q] at hj; exact hj.elim
        | some s =>
          have := kill_em vs ρ3 j s L.nio hm q
          subst this
          rw [q] at hj
          exact hj.elim
      · exact L.no j hj (by rw [wipe_get, if_neg hm]; exact z)
  · cases z1
end

/-! ### defs by name -/
/-- a def of the text as the top left it -/
def FunAt (K : PySem.W.Frag) (mg : Str → Option Value) (x : Str) (st : Stmt) (ps : List Str) : Prop := ∃ f fd, Fun K x x st f fd ∧ mg x = some (.ref f) ∧ Binds K fd ps []
/-- a def that keeps its promise -/
def FnT (P : Program) (w : World) (K : PySem.W.Frag) (mg : Str → Option Value) (base : Heap) (k : Nat) (x : Str) (ps : List Str) (dvs : List V) (sp : Sp) : Prop :=
  ∃ f fd ds, Vals dvs ds ∧ mg x = some (.ref f) ∧ PySem.W.keepIn K (.ref f) = true ∧ Binds K fd ps ds ∧ FnOk P w K mg base CX0 k f fd ps sp
section
variable {P : Program} {w : World} {K : PySem.W.Frag} {mg : Str → Option Value} {base : Heap}
theorem FunAt.ok {x : Str} {st : Stmt} {ps N : List Str} {k : Nat} {sp : Sp} (F : FunAt K mg x st ps) (S : FnScope N ps (defScope st)) (len : ∀ vs H Q E, sp vs H Q E → vs.length = ps.length)
    (hbody : ∀ (f : Addr) (cdv : Value) (A : Around) (outer : List Env) (s : Shared) (H : Hp) (vs : List V) (Q : VK) (E : XK), Room k (A.deeper (envOfC x (defScope st) s.heap.objs.size f cdv)) → sp vs H Q E →
      ∃ t, PSs (cxOf CX0 P w K mg base N x (defScope st) f cdv A outer s H E).nox (defBody st) t ∧ t { nx := fun _ H' => Q .non H', rt := Q } (L2.start N vs) H) : FnT P w K mg base (k + 1) x ps [] sp := by
  obtain ⟨f, fd, F, hm, hb⟩ := F
  exact ⟨f, fd, [], .nil, hm, F.kp, hb, F.ok S len fun cdv A outer s H vs Q E hr h => hbody f cdv A outer s H vs Q E hr h⟩
/-- a def with defaults -/
def FunAtD (K : PySem.W.Frag) (mg : Str → Option Value) (x : Str) (st : Stmt) (ps : List Str) (dvs dall : List V) : Prop := ∃ f fd ds, FunD K x x (defArgs st) (defBody st) (defScope st) dall [] f fd ∧ mg x = some (.ref f) ∧ Vals dvs ds ∧ Binds K fd ps ds
theorem FunAtD.ok {x : Str} {st : Stmt} {ps N : List Str} {k : Nat} {sp : Sp} {dvs dall : List V} (F : FunAtD K mg x st ps dvs dall) (S : FnScope N ps (defScope st)) (len : ∀ vs H Q E, sp vs H Q E → vs.length = ps.length)
    (hbody : ∀ (f : Addr) (cdv : Value) (A : Around) (outer : List Env) (s : Shared) (H : Hp) (vs : List V) (Q : VK) (E : XK), Room k (A.deeper (envOfC x (defScope st) s.heap.objs.size f cdv)) → sp vs H Q E →
      ∃ t, PSs (cxOf CX0 P w K mg base N x (defScope st) f cdv A outer s H E).nox (defBody st) t ∧ t { nx := fun _ H' => Q .non H', rt := Q } (L2.start N vs) H) : FnT P w K mg base (k + 1) x ps dvs sp := by
  obtain ⟨f, fd, ds, F, hm, hd, hb⟩ := F
  exact ⟨f, fd, ds, hd, hm, F.kp, hb, F.ok S len fun cdv A outer s H vs Q E hr h => by
    obtain ⟨t, h1, h2⟩ := hbody f cdv A outer s H vs Q E hr h
    exact ⟨t, h1.nox, h2⟩⟩
theorem pe_callF {X : Cx} {k : Nat} {x : Str} {ps : List Str} {dvs : List V} {sp : Sp} {p pos : Pos} {e : Expr} {es : List Expr} {t : TA} (G : FnT X.prog X.w X.K X.mg X.base k x ps dvs sp) (hr : Room k X.A) (hg : Gl X x)
    (ha : PA X (e :: es) t) (hdb : (x == ("__debug__" : Str)) = false := by decide) (he : starEach (e :: es) X.env = (false, eval e X.env) :: starEach es X.env := by rfl) (hpl : (backTo pos (starEach es X.env)).any (·.1) = false := by rfl) :
    PE X (.Call (.Name x p) (e :: es) [] pos) (tCall sp dvs E0 t) := by
  obtain ⟨f, fd, ds, hd, hm, hk, hb, F⟩ := G
  exact pe_call F hr hg hm hk hb hd pass0 ha hdb he hpl
theorem pe_callF0 {X : Cx} {k : Nat} {x : Str} {ps : List Str} {dvs : List V} {sp : Sp} {p pos : Pos} (G : FnT X.prog X.w X.K X.mg X.base k x ps dvs sp) (hr : Room k X.A) (hg : Gl X x)
    (hdb : (x == ("__debug__" : Str)) = false := by decide) : PE X (.Call (.Name x p) [] [] pos) (tCall sp dvs E0 tNil) := by
  obtain ⟨f, fd, ds, hd, hm, hk, hb, F⟩ := G
  exact pe_call0 F hr hg hm hk hb hd pass0 hdb
theorem funAt_mk {h : Heap} {x : Str} {st : Stmt} {ps : List Str} {f : Addr} {oc : Value} {od an : Option Addr} {osl : Array (Option Value)} {kV doc pm cdv ct : Value} (X : K.In h) (G : h.Ns mainGlobals mg) (a : PySem.W.nsIn K mainGlobals x = some (some (.ref f)))
    (l : K.lookup f = some ⟨oc, od, .func (PySem.W.fnOf x x (defArgs st) (defBody st) (defScope st) .none kV doc pm an cdv ct), osl⟩) (c : PySem.W.codeIn K cdv x = true) (k : PySem.W.keepIn K (.ref f) = true)
    (hb : ∀ (kV doc pm : Value) (an : Option Addr) (cdv ct : Value) (us : List Value), us.length = ps.length → bindArgs (PySem.W.fnOf x x (defArgs st) (defBody st) (defScope st) .none kV doc pm an cdv ct) ⟨us, []⟩ = pure (ps.zip us)) : FunAt K mg x st ps :=
  ⟨f, _, fun_mk l c k, PySem.W.mg_of X G a, (fun_mk l c k).binds hb⟩
theorem funAtD_mk {h : Heap} {x : Str} {st : Stmt} {ps : List Str} {f T : Addr} {oc : Value} {od an : Option Addr} {osl : Array (Option Value)} {kV doc pm cdv ct : Value} {dvs dall : List V} (n j : Nat) (hd : dall ≠ []) (hn : n + (dall.length - j) = ps.length) (hdv : dvs = dall.drop j)
    {o : Obj} {its : List Value} {m : Nat} (X : K.In h) (G : h.Ns mainGlobals mg) (a : PySem.W.nsIn K mainGlobals x = some (some (.ref f)))
    (l : K.lookup f = some ⟨oc, od, .func (PySem.W.fnOf x x (defArgs st) (defBody st) (defScope st) (.ref T) kV doc pm an cdv ct), osl⟩) (lT : K.lookup T = some o) (oT : o.data = .seq its.toArray m) (rT : Vals dall its) (c : PySem.W.codeIn K cdv x = true) (k : PySem.W.keepIn K (.ref f) = true)
    (hb : ∀ (T : Addr) (kV doc pm : Value) (an : Option Addr) (cdv ct : Value) (us its : List Value), us.length = n → its.length = dall.length →
      ∃ k, bindArgs (PySem.W.fnOf x x (defArgs st) (defBody st) (defScope st) (.ref T) kV doc pm an cdv ct) ⟨us, []⟩ = seqItems? (.ref T) >>= k ∧ k (some its.toArray) = pure (ps.zip (us ++ its.drop j))) : FunAtD K mg x st ps dvs dall := by
  subst hdv
  have F : FunD K x x (defArgs st) (defBody st) (defScope st) dall [] f _ := ⟨⟨oc, od, _, kV, doc, pm, an, cdv, ct, osl, rfl, l, c, .inr ⟨hd, T, o, its, m, rfl, lT, oT, rT⟩, .inl rfl⟩, k⟩
  obtain ⟨ds, h1, h2⟩ := F.binds1 n j hd hn hb
  exact ⟨f, _, ds, F, PySem.W.mg_of X G a, h1, h2⟩
end
/-! ### the law's end -/
def scrD (ns : List Int) : D := .dict [(.none, .list (ns.map PyData.int))]
theorem law_end {C : Cn} {fn : List D → Option (Rs × List D)} (hf : ∀ ns : List Int, ns.length ≤ 63 → fn [scrD ns] = some (.sh (.bool true), [])) {H : Hp} {a : Addr} {ns : List Int} {Q : VK} {XE : XK} (hS : SqL C.K H a (ns.map V.int)) (hl : ns.length ≤ 63) (q : ∀ H', Q (.bl true) H') :
    spD C [false] fn [.ref a] H Q XE := by
  refine ⟨H, [scrD ns], _, _, Ex.refl H, .sh (.scr hS (Dns.of_ints ns)) .nil, List.nodup_nil, hf ns hl, fun v B' H' _ _ _ _ _ _ hr => ?_⟩
  have hr : Dn C B' v (.bool true) := hr
  cases hr
  exact q H'
end Fc
set_option Elab.async false
set_option linter.all false
set_option maxRecDepth 100000
/-! Fc: dicts whose keys are tuples, by the hand layer's judgements. -/
namespace Fc
open PySem L2 PyProof.Rows
section
variable {X : Cx} {pins : List (Addr × Obj)} {σ : L2.St} {H : Hp} {s : Shared}
mutual
theorem nest_of (I : Inv X pins σ H s) : ∀ (d : D) (v : V) (n : NestedKey) (u : Value), Dp X.K H v d → keyOf d = some n → RelV v u → NestedIs s.heap n u
  | .none, _, _, _, h, q, r => by
    cases h
    cases q
    cases r
    exact .none
  | .bool b, _, _, _, h, q, r => by
    cases h
    cases q
    cases r
    exact .bool rfl
  | .int i, _, _, _, h, q, r => by
    cases h
    cases q
    obtain ⟨t, rfl⟩ := r
    exact .int i t
  | .str x, _, _, _, h, q, r => by
    cases h
    cases q
    obtain ⟨t, rfl⟩ := r
    exact .text x t
  | .list ds, _, _, _, h, q, r => by cases q
  | .tuple ds, _, _, _, h, q, r => by
    cases h with
    | tup hs ha =>
      cases r
      obtain ⟨ks, q1, rfl⟩ := Option.map_eq_some_iff.mp q
      obtain ⟨its, rv, ⟨o, ho, hc, n, hd⟩, _⟩ := I.tuple hs
      exact .tup ho hc hd (nests_of I ds _ _ its ha q1 rv)
  | .dict _, _, _, _, h, _, _ => by cases h
theorem nests_of (I : Inv X pins σ H s) : ∀ (ds : List D) (vs : List V) (ks : List NestedKey) (us : List Value), DpAll X.K H vs ds → keysOf ds = some ks → Vals vs us → NestedAll s.heap ks us
  | [], _, _, _, h, q, r => by
    cases h
    cases q
    cases r
    exact .nil
  | d :: ds, _, _, _, h, q, r => by
    cases h with
    | cons h1 h2 =>
      cases r with
      | cons r1 r2 =>
        rw [keysOf] at q
        cases q1 : keyOf d with
        | none => rw [q1] at q; cases q
        | some k =>
          cases q2 : keysOf ds with
          | none => rw [q1, q2] at q; cases q
          | some ks =>
            rw [q1, q2] at q
            cases q
            exact .cons (nest_of I d _ _ _ h1 q1 r1) (nests_of I ds _ _ _ h2 q2 r2)
end
/-- at a stands a key -/
def KeyV (K : PySem.W.Frag) (H : Hp) (n : NestedKey) (a : Addr) : Prop := ∃ d, Dp K H (V.ref a) d ∧ keyOf d = some n ∧ n.depth ≤ 8
theorem KeyV.is (I : Inv X pins σ H s) {n : NestedKey} {a : Addr} (h : KeyV X.K H n a) : (nestedKind X.prog X.w).is s.heap n a := by
  obtain ⟨d, h1, h2, h3⟩ := h
  exact ⟨nest_of I d _ _ _ h1 h2 rfl, h3⟩
def getE (xs : List DE) (n : NestedKey) : Option V := (xs.find? fun e => decide (e.1 = n)).map (·.2.2)
def putE (xs : List DE) (n : NestedKey) (a : Addr) (v : V) : List DE := if (getE xs n).isSome then xs.map (fun e => if e.1 = n then (e.1, e.2.1, v) else e) else xs ++ [(n, a, v)]
abbrev EU : List DE → List (NestedKey × Addr × Value) → Prop := Paired (fun (a : DE) (b : NestedKey × Addr × Value) => a.1 = b.1 ∧ a.2.1 = b.2.1 ∧ RelV a.2.2 b.2.2)
theorem EU.get : ∀ {xs : List DE} {us : List (NestedKey × Addr × Value)} (n : NestedKey), EU xs us → RelO (getE xs n) ((atKey us n).map (·.2))
  | _, _, n, .nil => trivial
  | e :: xs, u :: us, n, .cons r t => by
    have ih := EU.get n t
    obtain ⟨e1, e2, e3⟩ := e
    obtain ⟨u1, u2, u3⟩ := u
    obtain ⟨r1, r2, r3⟩ := r
    simp only at r1 r2 r3
    subst r1 r2
    unfold getE atKey at ih ⊢
    rw [List.find?_cons, List.find?_cons]
    by_cases hn : e1 = n
    · simp only [hn, decide_true]
      exact r3
    · simp only [hn, decide_false]
      exact ih
theorem EU.some {xs : List DE} {us : List (NestedKey × Addr × Value)} (n : NestedKey) (t : EU xs us) : (atKey us n).isSome = (getE xs n).isSome := by
  have := (EU.get n t).isSome_eq
  rw [Option.isSome_map] at this
  exact this.symm
theorem EU.map {xs : List DE} {us : List (NestedKey × Addr × Value)} (n : NestedKey) {v : V} {u : Value} (r : RelV v u) : EU xs us → EU (xs.map fun e => if e.1 = n then (e.1, e.2.1, v) else e) (us.map (putAt n u))
  | .nil => .nil
  | .cons (a := e) (b := b) q t => by
    refine .cons ?_ (EU.map n r t)
    obtain ⟨e1, e2, e3⟩ := e
    obtain ⟨b1, b2, b3⟩ := b
    obtain ⟨q1, q2, q3⟩ := q
    simp only at q1 q2 q3
    subst q1 q2
    unfold putAt
    by_cases hn : e1 = n
    · simp only [hn, if_true]
      exact ⟨by first | rfl | trivial, by first | rfl | trivial, r⟩
    · simp only [hn, if_false]
      exact ⟨by first | rfl | trivial, by first | rfl | trivial, q3⟩
theorem EU.app {xs ys : List DE} {us ws : List (NestedKey × Addr × Value)} : EU xs us → EU ys ws → EU (xs ++ ys) (us ++ ws)
  | .nil, h => h
  | .cons q t, h => .cons q (EU.app t h)
theorem EU.put {xs : List DE} {us : List (NestedKey × Addr × Value)} (n : NestedKey) {a : Addr} {v : V} {u : Value} (r : RelV v u) (t : EU xs us) : EU (putE xs n a v) (storedH us n a u) := by
  unfold putE storedH
  rw [EU.some n t]
  by_cases h : (getE xs n).isSome = true
  · rw [if_pos h, if_pos h]
    exact t.map n r
  · rw [if_neg h, if_neg h]
    exact t.app (.cons ⟨rfl, rfl, r⟩ .nil)
theorem EU.keys : ∀ {xs : List DE} {us : List (NestedKey × Addr × Value)}, EU xs us → xs.map (·.1) = us.map (·.1)
  | _, _, .nil => rfl
  | _, _, .cons q t => by rw [List.map_cons, List.map_cons, q.1, EU.keys t]
theorem putE_length (xs : List DE) (n : NestedKey) (a : Addr) (v : V) : (putE xs n a v).length ≤ xs.length + 1 := by
  unfold putE
  split
  · rw [List.length_map]; omega
  · rw [List.length_append]; simp
theorem EU.mem : ∀ {xs : List DE} {us : List (NestedKey × Addr × Value)} {u : NestedKey × Addr × Value}, EU xs us → u ∈ us → ∃ e, e ∈ xs ∧ e.1 = u.1 ∧ e.2.1 = u.2.1
  | _, _, u, .nil, h => nomatch h
  | _, _, u, .cons q t, h => by
    rcases List.mem_cons.mp h with rfl | h
    · exact ⟨_, List.mem_cons_self, q.1, q.2.1⟩
    · obtain ⟨e, h1, h2⟩ := EU.mem t h
      exact ⟨e, List.mem_cons_of_mem _ h1, h2⟩
/-- the keys stand -/
def KeysV (K : PySem.W.Frag) (H : Hp) (xs : List DE) : Prop := ∀ e ∈ xs, KeyV K H e.1 e.2.1
theorem dic_of (I : Inv X pins σ H s) {p : Addr} {xs : List DE} {ep : Nat} (e : H p = some (dicO (cn X) p xs ep)) (hk : KeysV X.K H xs) : ∃ us, EU xs us ∧ s.heap.DictOfH (nestedKind X.prog X.w) p us ∧ xs.length ≤ sizeLine ∧ (p == sysModules) = false := by
  obtain ⟨⟨us, h1, ⟨o, es, h2, h3, h4, h5⟩, h6, h7, h8⟩, _, _⟩ := (show ObjOk X.prog X.w H s.heap p (dicO (cn X) p xs ep) from I.hok p _ e)
  refine ⟨us, h1, ⟨o, es, ep, h2, h3, h4, h5, fun u hu => ?_, by rw [← EU.keys h1]; exact h6⟩, h7, h8⟩
  obtain ⟨e, q1, q2, q3⟩ := EU.mem h1 hu
  have := KeyV.is I (hk e q1)
  rw [q2, q3] at this
  exact this
theorem dic_new {C : Cn} {H : Hp} {h : Heap} {p : Addr} {xs : List DE} {us : List (NestedKey × Addr × Value)} (r : EU xs us) (dd : h.DictOfH (nestedKind C.P C.w) p us) (z : xs.length ≤ sizeLine) (hd : (p == sysModules) = false) : ∃ ep, ObjOk C.P C.w H h p (dicO C p xs ep) := by
  obtain ⟨o, es, ep, h2, h3, h4, h5, h6, h7⟩ := dd
  refine ⟨ep, ⟨us, r, ⟨o, es, h2, h3, h4, h5⟩, by rw [EU.keys r]; exact h7, z, hd⟩, ⟨o, h2⟩, fun h1 h2 q k => ?_⟩
  obtain ⟨us, r, ⟨o, es, g2, g3⟩, g⟩ := q
  exact ⟨us, r, ⟨o, es, k _ g2, g3⟩, g⟩
def rInE (C : Cn) (neg : Bool) : R2 := fun x y H Q => ∃ a p xs ep n, x = .ref a ∧ y = .ref p ∧ H p = some (dicO C p xs ep) ∧ KeysV C.K H xs ∧ KeyV C.K H n a ∧ Q (.bl (if neg then !(getE xs n).isSome else (getE xs n).isSome)) H
theorem op_inE (hu : X.A.units + 64 < cLine) : OpR X (compareOp .In) (rInE (cn X) false) := by
  intro pins s σ H x y v u Q I rx ry h
  obtain ⟨a, p, xs, ep, n, rfl, rfl, hp, hk, hn, q⟩ := h
  cases rx
  cases ry
  obtain ⟨us, r, dd, z, hd⟩ := dic_of I hp hk
  refine wpAny_in_heap (knd := nestedKind X.prog X.w) (by show X.A.units + 1 + 8 < cLine; omega) (hn.is I) hd dd ?_
  rw [r.some n]
  exact ⟨.bl (getE xs n).isSome, H, I.tok _, rfl, q⟩
theorem op_notInE (hu : X.A.units + 64 < cLine) : OpR X (compareOp .NotIn) (rInE (cn X) true) := by
  intro pins s σ H x y v u Q I rx ry h
  obtain ⟨a, p, xs, ep, n, rfl, rfl, hp, hk, hn, q⟩ := h
  cases rx
  cases ry
  obtain ⟨us, r, dd, z, hd⟩ := dic_of I hp hk
  refine wpAny_notIn_heap (knd := nestedKind X.prog X.w) (by show X.A.units + 1 + 8 < cLine; omega) (hn.is I) hd dd ?_
  rw [r.some n]
  exact ⟨.bl (!(getE xs n).isSome), H, I.tok _, rfl, q⟩
def rGetE (C : Cn) : R2 := fun x y H Q => ∃ p a xs ep n v, x = .ref p ∧ y = .ref a ∧ H p = some (dicO C p xs ep) ∧ KeysV C.K H xs ∧ KeyV C.K H n a ∧ getE xs n = some v ∧ Q v H
theorem ix_E (hu : X.A.units + 64 < cLine) : IxR X (rGetE (cn X)) := by
  intro value slice pins s σ H x y v u Q I rx ry h hs
  obtain ⟨p, a, xs, ep, n, z, rfl, rfl, hp, hk, hn, hg, q⟩ := h
  cases rx
  cases ry
  obtain ⟨us, r, dd, hz, hd⟩ := dic_of I hp hk
  have ro := r.get n
  rw [hg] at ro
  cases hq : atKey us n with
  | none => rw [hq] at ro; exact ro.elim
  | some w =>
    rw [hq] at ro
    exact subscriptTail_builtinR (x := w.2) dd.typeIs PySem.F.slot_dict_getitem.lookup
      (wpAny_getItem_heap (Q := fun r s' => r = w.2 ∧ EP X pins σ Q r s') (by show X.A.units + 1 + 8 < cLine; omega) (hn.is I) dd hq ⟨rfl, z, H, I.tok _, ro, q⟩) hs
def rSetE (C : Cn) : TSet := fun o i v H Q => ∃ p a xs ep n, o = .ref p ∧ i = .ref a ∧ H p = some (dicO C p xs ep) ∧ KeysV C.K H xs ∧ KeyV C.K H n a ∧ xs.length < sizeLine ∧ ∀ ep2, Q (upd H p (dicO C p (putE xs n a v) ep2))
theorem set_E (hu : X.A.units + 64 < cLine) : PSet X (rSetE (cn X)) := by
  intro pins s σ H o i v ov iv u Q I ro ri rv h
  obtain ⟨p, a, xs, ep, n, rfl, rfl, hp, hk, hn, hl, q⟩ := h
  cases ro
  cases ri
  obtain ⟨us, r, dd, hz, hd⟩ := dic_of I hp hk
  have hu' : us.length = xs.length := (Paired.length r).symm
  refine wpAny_setItem_heap (knd := nestedKind X.prog X.w) (by show X.A.units + 1 + 8 < cLine; omega) (hn.is I) dd (fun h' dd' hs => ?_) (by omega)
  have he : ∃ q, h'.get? p = some q := let ⟨q, _, _, hq, _⟩ := dd'; ⟨q, hq⟩
  obtain ⟨ep2, ok⟩ := dic_new (C := cn X) (H := upd H p (dicO (cn X) p (putE xs n a v) 0)) (r.put n rv) dd' (by have := putE_length xs n a v; omega) hd
  exact ⟨_, d_write I (by rw [hp]; exact True.intro) hs he ok, q ep2⟩
def tNewE (C : Cn) : TE := fun _ H Q => ∀ p ep, H p = none → Q (.ref p) (upd H p (dicO C p [] ep))
theorem dic_empty {P : Program} {w : World} {K : PySem.W.Frag} {H : Hp} (h : Heap) (hb : sysModules < h.objs.size) : ∃ ep, ObjOk P w H (h.push { cls := .type "dict", data := .dict #[] }) h.objs.size (dicO ⟨P, w, K⟩ h.objs.size [] ep) :=
  dic_new (C := ⟨P, w, K⟩) .nil (Heap.DictOfH.new h) (Nat.zero_le _) (beq_eq_false_iff_ne.mpr (Ne.symm (Nat.ne_of_lt hb)))
theorem pe_newE {pos : Pos} : PE X (.Dict [] [] pos) (tNewE (cn X)) := ⟨fun pins s σ H Q I h =>
  let ⟨ep, ok⟩ := dic_empty (H := upd H s.heap.objs.size (dicO (cn X) s.heap.objs.size [] 0)) s.heap I.big
  wpAny_Dict_empty ⟨.ref s.heap.objs.size, _, I.laid (a := s.heap.objs.size) (o := dicO (cn X) s.heap.objs.size [] ep) (t' := s.toks) (fun _ _ q => Heap.get?_push_of_some _ q) (Nat.le_refl _) ok, rfl, h _ _ (I.hok.fresh (Nat.le_refl _))⟩⟩
def rLenE (C : Cn) : List V → Hp → VK → Prop := fun vs H Q => ∃ p xs ep, vs = [.ref p] ∧ H p = some (dicO C p xs ep) ∧ KeysV C.K H xs ∧ Q (.int ((xs.length : Nat) : Int)) H
theorem call_lenE : CallR X (.builtin "len") (rLenE (cn X)) := by
  intro pins s σ H xs us Q I r h
  obtain ⟨p, ys, ep, rfl, hp, hk, q⟩ := h
  obtain ⟨u, rfl, rx⟩ := vals1 r
  obtain rfl : u = .ref p := rx
  obtain ⟨us, r, dd, hz, hd⟩ := dic_of I hp hk
  have hl : ys.length = us.length := Paired.length r
  refine call_len_dictH hd dd (by rw [← hl]; rw [sizeLine_eq] at hz; omega) ?_
  rw [← hl]
  exact ⟨.int ((ys.length : Nat) : Int), H, I.tok _, ⟨_, rfl⟩, q⟩
end
end Fc
set_option Elab.async false
set_option linter.all false
set_option maxRecDepth 100000
set_option maxHeartbeats 1000000
/-! Fc: sorting tuples the first of which is empty. -/
namespace Fc
open PySem PySem.W PySem.Calls PyProof.Rows PySem.SeqAt
section
variable {prog : Program} {w : World} {A : Around} {E : Value → Shared → Prop} {s : Shared}
theorem call_tuple_lt {Q : Value → Shared → Prop} {l b : Addr} {items items2 : Array Value} {e r : Nat → Bool} (hl : s.heap.IsTuple l items) (hb : s.heap.IsTuple b items2)
    (he : ∀ j (h1 : j < items.size) (h2 : j < items2.size), EqAt A.in1 s items[j] items2[j] (e j)) (hr : ∀ j (h1 : j < items.size) (h2 : j < items2.size), e j = false → RcLt A.in1 s items[j] items2[j] (r j))
    (h : Q (.bool (firstLt e r (decide (items.size < items2.size)) (List.range (min items.size items2.size)))) s) : wpAny (model prog w) A (call (.builtin "tuple.__lt__") [.ref l, .ref b]) Q E s := by
  obtain ⟨⟨cls, dd, data, sl⟩, ho, hc, n, hd⟩ := id hl
  obtain ⟨⟨cls2, dd2, data2, sl2⟩, ho2, hc2, n2, hd2⟩ := id hb
  simp only at hc hd hc2 hd2
  subst hc hd hc2 hd2
  exact call_meets PySem.F.slot_tuple_lt ⟨_, ho, rfl⟩ PySem.F.entry_tuple_lt (PySem.F.args_tuple_lt_2 _ _) (tuple_ltAt l b items items2 n n2 dd dd2 sl sl2 e r) ⟨ho, ho2, he, hr, h⟩
theorem oneLt_tups {xs ys : List PyData} {a b : Value} {as bs : List Addr} {Q : Bool → Shared → Prop} (ra : Reads s.heap a (.tuple xs) as) (rb : Reads s.heap b (.tuple ys) bs) (h : alike (.tuple xs) (.tuple ys) = true)
    (hu : A.units + min (PyData.tuple xs).depth (PyData.tuple ys).depth < cLine) (hq : Q (dataLt (.tuple xs) (.tuple ys)) s) : wpAny (model prog w) A (oneLt' true a b) Q E s := by
  have hal : alikeAll xs ys = true := by simpa [alike] using h
  cases ra with
  | @tuple l o vs n _ as₁ h1 h2 h3 h4 =>
    cases rb with
    | @tuple l' o' vs' n' _ bs₁ k1 k2 k3 k4 =>
      have n1 : vs.size = xs.length := by simpa using ReadsAll.length _ _ _ h4
      have n2 : vs'.size = ys.length := by simpa using ReadsAll.length _ _ _ k4
      rw [dataLt_tuple, ← firstLt_toks xs ys hal, ← n1, ← n2] at hq
      rw [oneLt'_eq]
      simp only [if_true]
      refine wpAny_bind (wpAny_cRoomFor (room_here hu) ?_)
      refine wpAny_bind (wpAny_callSpecialIfBound?_slot (T := "tuple") ⟨_, h1, h2⟩ PySem.F.slot_tuple_lt (call_tuple_lt (e := pairEq xs ys) (r := fun j => dataLt (xs.getD j .none) (ys.getD j .none)) ⟨_, h1, h2, _, h3⟩ ⟨_, k1, k2, _, k3⟩ (fun j j1 j2 => ?_) (fun j j1 j2 hj => ?_) ?_))
      · have := eqAt_alikeAll xs ys A.in1 s vs.toList vs'.toList _ _ h4 k4 hal (room_in hu) j (by simpa using j1) (by simpa using j2)
        simpa using this
      · have := rcLt_alikeAll xs ys A.in1 s vs.toList vs'.toList _ _ h4 k4 hal (room_in hu) j (by simpa using j1) (by simpa using j2) hj
        simpa using this
      · exact wpAny_truthy_bool hq
/-- what may be sorted: as the library's Sortable, or tuples the first of which is empty -/
def SortK (ds : List PyData) : Prop := Sortable ds ∨ ∃ r, ds = .tuple [] :: r
theorem firsts_any : ∀ (vs : List Value) (ds : List PyData), EachIs (fun v d => ∃ as, Reads s.heap v d as) vs ds → (∀ x ∈ ds, ∃ r, x = .tuple r) → ∃ os : List (Option Value), ∀ {Q : List (Option Value) → Shared → Prop}, Q os s → wpAny (model prog w) A (vs.mapM firstOfTuple') Q E s
  | _, _, .nil, _ => ⟨[], fun h => by rw [List.mapM_nil]; exact wpAny_pure h⟩
  | v :: vs, d :: ds, .cons ⟨as, r⟩ t, ht => by
    obtain ⟨os, ih⟩ := firsts_any vs ds t fun x hx => ht x (List.mem_cons_of_mem _ hx)
    obtain ⟨r', rfl⟩ := ht d List.mem_cons_self
    cases r with
    | @tuple a o xs n _ _ ho hc hd hr =>
      refine ⟨xs[0]? :: os, fun {Q} h => ?_⟩
      rw [List.mapM_cons]
      refine wpAny_bind ?_
      rw [kas_first_eq]
      refine wpAny_bind (Looks.here (show Looks _ s.heap (typeOf (.ref a)) o.cls from (Looks.ld ho).andThen .now) ?_)
      rw [hc, if_neg (by first | decide | simp)]
      refine wpAny_bind (listItems_at ho hd (wpAny_pure ?_))
      exact wpAny_bind (ih (Q := fun bs s' => wpAny (model prog w) A (pure (xs[0]? :: bs)) Q E s') (wpAny_pure h))
theorem kind_first {vs : List Value} {d : List PyData} {Q : SortKind → Shared → Prop} (h2 : 2 ≤ vs.length) (e : EachIs (fun v d => ∃ as, Reads s.heap v d as) vs (.tuple [] :: d)) (ht : ∀ x ∈ d, ∃ r, x = .tuple r) (h : Q oneType' s) :
    wpAny (model prog w) A (keyKind' vs.toArray) Q E s := by
  have hT : ∀ v ∈ vs, Looks (model prog w) s.heap (typeOf v) (.type "tuple") := fun v hv => by
    obtain ⟨x, hx, as, r⟩ := e.left v hv
    have : ∃ r, x = .tuple r := by
      rcases List.mem_cons.mp hx with rfl | hx
      · exact ⟨_, rfl⟩
      · exact ht x hx
    obtain ⟨r', rfl⟩ := this
    exact looks_reads r
  cases e with
  | @cons v₁ _ rest _ r0 t =>
    obtain ⟨as, r0⟩ := r0
    obtain ⟨os, ho⟩ := firsts_any (prog := prog) (w := w) (A := A) (E := E) rest d t ht
    cases r0 with
    | @tuple a o xs n _ _ ho1 hc hd hr =>
      have hx : xs[0]? = none := by
        have : xs.toList = [] := by
          cases q : xs.toList with
          | nil => rfl
          | cons y ys => rw [q] at hr; cases hr
        rw [← Array.getElem?_toList, this]
        rfl
      rw [keyKind'_eq, List.mapM_toArray, map_eq_pure_bind]
      refine wpAny_bind (wpAny_bind ?_)
      rw [List.mapM_cons]
      refine wpAny_bind ?_
      rw [kas_first_eq]
      refine wpAny_bind (Looks.here (show Looks _ s.heap (typeOf (.ref a)) o.cls from (Looks.ld ho1).andThen .now) ?_)
      rw [hc, if_neg (by first | decide | simp)]
      refine wpAny_bind (listItems_at ho1 hd (wpAny_pure ?_))
      rw [hx]
      refine wpAny_bind (ho ?_)
      refine wpAny_pure (wpAny_pure ?_)
      rw [if_neg (by simp), if_neg (by simp)]
      rw [oneTypeOnly'_eq, List.mapM_toArray, map_eq_pure_bind]
      refine wpAny_bind (wpAny_bind (wpAny_bind (kas_mapM (r := Value.type "tuple") _ (fun v hv Q' hq => (hT v hv).here hq) (wpAny_pure ?_))))
      have hall : ((List.map (fun _ => Value.type "tuple") (Value.ref a :: rest)).toArray.all fun x => x == Value.type "tuple") = true := by
        simp only [List.all_toArray, List.all_map, List.all_eq_true]
        intro _ _
        exact beq_self_eq_true _
      have h0 : (List.map (fun _ => Value.type "tuple") (Value.ref a :: rest)).toArray[0]? = some (Value.type "tuple") := by simp
      rw [h0]
      simp only [hall, if_true]
      exact wpAny_pure (wpAny_pure h)
theorem sortsAt_any {vs : List Value} {ds : List PyData} (e : EachIs (fun v d => ∃ as, Reads s.heap v d as) vs ds) (hal : AllAlike ds) (hk : SortK ds) (hu : ∀ d, d ∈ ds → A.units + d.depth < cLine) : SortsAt prog w A s (dataKind s.heap ds) vs := by
  rcases hk with hk | ⟨r, rfl⟩
  · exact SortsAt.data e hal hk hu
  · have ht : ∀ x ∈ PyData.tuple [] :: r, ∃ t, x = .tuple t := fun x hx => by
      have q := hal (.tuple []) List.mem_cons_self x hx
      cases x with
      | tuple t => exact ⟨t, rfl⟩
      | _ => exact absurd q (by simp [alike])
    refine ⟨fun v hv => ?_, oneType', ?_, fun h2 E Q hq => kind_first h2 e (fun x hx => ht x (List.mem_cons_of_mem _ hx)) hq⟩
    · obtain ⟨d, hd, as, r⟩ := e.left v hv
      exact ⟨_, dataKind_some hal hd r⟩
    · intro E x y a b Q ha hb hq
      obtain ⟨d, as, hd, ra, rfl⟩ := dataKind_inv ha
      obtain ⟨d', as', hd', rb, rfl⟩ := dataKind_inv hb
      rw [keyLt'_oneType]
      obtain ⟨t1, rfl⟩ := ht d hd
      obtain ⟨t2, rfl⟩ := ht d' hd'
      exact oneLt_tups ra rb (hal _ hd _ hd') (Nat.lt_of_le_of_lt (Nat.add_le_add_left (Nat.min_le_left _ _) _) (hu _ hd)) hq
end
end Fc
set_option Elab.async false
set_option linter.all false
set_option maxRecDepth 100000
set_option maxHeartbeats 1000000
/-! Fc: dict displays, sorted dicts and lists. -/
namespace Fc
open PySem L2 PyProof.Rows
section
variable {X : Cx}
def mergeE : List DE → List DE → List DE
  | xs, [] => xs
  | xs, e :: es => mergeE (putE xs e.1 e.2.1 e.2.2) es
theorem mergeE_length : ∀ (ps xs : List DE), (mergeE xs ps).length ≤ xs.length + ps.length
  | [], xs => Nat.le_refl _
  | p :: ps, xs => by
    rw [mergeE, List.length_cons]
    have h1 := mergeE_length ps (putE xs p.1 p.2.1 p.2.2)
    have h2 := putE_length xs p.1 p.2.1 p.2.2
    omega
theorem EU.merge : ∀ {ps : List DE} {rs : List (NestedKey × Addr × Value)} {xs : List DE} {us : List (NestedKey × Addr × Value)}, EU ps rs → EU xs us → EU (mergeE xs ps) (storedAllH us rs)
  | _, _, _, _, .nil, h => h
  | _, _, _, _, .cons (a := e) (b := b) q t, h => by
    obtain ⟨e1, e2, e3⟩ := e
    obtain ⟨b1, b2, b3⟩ := b
    obtain ⟨q1, q2, q3⟩ := q
    simp only at q1 q2 q3
    subst q1 q2
    rename_i l1 l2
    show EU (mergeE (putE _ e1 e2 e3) l1) (storedAllH (storedH _ e1 e2 b3) l2)
    exact EU.merge t (h.put e1 q3)
/-- {k: v, ..}: the keys are tuples -/
def tDispE (C : Cn) (trs : List (TE × TE)) : TE := fun σ H Q => ∀ p ep, H p = none → tPairs trs σ (upd H p (dicO C p [] ep)) fun ps H2 => H2 p = some (dicO C p [] ep) ∧ ∃ xs : List DE, ps = xs.map (fun e => (V.ref e.2.1, e.2.2)) ∧ KeysV C.K H2 xs ∧ xs.length ≤ 15 ∧ ∀ ep2, Q (.ref p) (upd H2 p (dicO C p (mergeE [] xs) ep2))
theorem carriesE {pins : List (Addr × Obj)} {σ : L2.St} {H : Hp} {s : Shared} (I : Inv X pins σ H s) : ∀ {xs : List DE} {ws : List (Value × Value)}, VV (xs.map fun e => (V.ref e.2.1, e.2.2)) ws → KeysV X.K H xs → ∃ rs, CarriesH (nestedKind X.prog X.w) s.heap ws rs ∧ EU xs rs
  | [], _, r, _ => by rw [List.map_nil] at r; cases r; exact ⟨[], True.intro, .nil⟩
  | e :: xs, _, r, hk => by
    rw [List.map_cons] at r
    cases r with
    | @cons a b as bs h t =>
      obtain ⟨rs, c, q⟩ := carriesE I t fun z hz => hk z (List.mem_cons_of_mem _ hz)
      obtain ⟨b1, b2⟩ := b
      obtain ⟨h1, h2⟩ := h
      exact ⟨(e.1, e.2.1, b2) :: rs, ⟨h1, rfl, (hk e List.mem_cons_self).is I, c⟩, .cons ⟨rfl, rfl, h2⟩ q⟩
theorem pe_dispE {pos : Pos} {keys : List (Option Expr)} {values : List Expr} {trs : List (TE × TE)} (hu : X.A.units + 64 < cLine) (h : PPs X pos keys values trs) (hall : keys.all (·.isSome) = true) (hl : keys.length = values.length) (h0 : keys ≠ [])
    (h15 : keys.length ≤ 15) : PE X (.Dict keys values pos) (tDispE (cn X) trs) := by
  refine ⟨fun pins s σ H Q I q => ?_⟩
  have hn := I.hok.fresh (Nat.le_refl s.heap.objs.size)
  obtain ⟨ep0, ok0⟩ := dic_empty (P := X.prog) (w := X.w) (K := X.K) (H := upd H s.heap.objs.size (dicO (cn X) s.heap.objs.size [] 0)) s.heap I.big
  have I1 := I.laid (a := s.heap.objs.size) (o := dicO (cn X) s.heap.objs.size [] ep0) (h' := s.heap.push { cls := .type "dict", data := .dict #[] }) (t' := s.toks) (fun _ _ q => Heap.get?_push_of_some _ q) (Nat.le_refl _) ok0
  have hp := pairTrees_length keys values X.env pos hall hl
  have hne : pairTrees keys values X.env pos ≠ [] := fun he => by
    rw [he] at hp
    exact h0 (List.length_eq_zero_iff.mp hp.symm)
  rw [arm_eval_Dict, zip_pairTrees keys values X.env pos hall hl, dictDisplay_pairs _ hne (by omega)]
  refine wpAny_bind (wpAny_standAt (wpAny_bind (wpAny_subDictH (knd := nestedKind X.prog X.w) (Q := fun d s' => wpAny (model X.prog X.w) X.A (pure (Value.ref d)) (EP X pins σ Q) X.xe s') (by show X.A.units + 8 < cLine; omega) (by omega) ?_)))
  refine thn (h.run pins _ σ _ _ I1 (q _ _ hn)) fun ws s2 ⟨ps, H2, I2, rel, e, xs, ep, hk, lk, q2⟩ => ?_
  subst ep
  obtain ⟨rs, c, rk⟩ := carriesE I2 rel hk
  obtain ⟨us, r0, dd, z, hd⟩ := dic_of I2 e (fun _ hz => nomatch hz)
  cases r0
  refine ⟨rs, c, dd, fun h' tk dd' hs => ?_⟩
  have he : ∃ q, h'.get? s.heap.objs.size = some q := let ⟨q, _, _, hq, _⟩ := dd'; ⟨q, hq⟩
  have hsz : (mergeE [] xs).length ≤ sizeLine := by
    have := mergeE_length xs []
    rw [sizeLine_eq]
    simp at this
    omega
  obtain ⟨ep2, ok⟩ := dic_new (C := cn X) (H := upd H2 s.heap.objs.size (dicO (cn X) s.heap.objs.size (mergeE [] xs) 0)) (rk.merge .nil) dd' hsz hd
  exact wpAny_pure ⟨.ref s.heap.objs.size, _, d_write I2 (by rw [e]; exact True.intro) hs he ok, rfl, q2 ep2⟩
/-! ### sorted -/
theorem kdl_raw {prog : Program} {w : World} {d : Addr} {es : Array DictEntry} {ep : Nat} (lo : (d == sysModules) = false) : PySem.W.KdlSrc prog w "dict" d d es.size (fun i v => ∃ hi : i < es.size, v = es[i].key) (fun h => h.DictRaw d es ep) where
  type := fun _ hm => hm.typeIs
  there := fun _ ⟨o, ho, _⟩ => ⟨Heap.lt_size ho, Heap.lt_size ho⟩
  keep := fun _ _ hm hk => hm.at fun o e => hk d (.inl rfl) o e
  notList := by decide
  notTuple := by decide
  hint := fun _ _ _ _ hm hq => PySem.W.kdl_hint_dict hm.typeIs hq
  iter := fun _ s hh hm => ⟨_, _, (fun _ _ hq => wpAny_pyIter_dict_raw lo hm hq), Walks.rawKeys hh _ d (Nat.ne_of_lt (let ⟨o, ho, _⟩ := hm; Heap.lt_size ho)) es ep, ⟨⟨_, Heap.get?_push_size _ rfl, rfl, rfl⟩, hm.at fun o e => Heap.get?_push_of_some _ e⟩⟩
open PySem.W in
theorem dps_vals {R : V → D → Prop} {out : List Value} {ds : List D} : EachIs (fun v d => ∃ x : V, RelV x v ∧ R x d) out ds → ∃ ys, Vals ys out ∧ Paired R ys ds
  | .nil => ⟨[], .nil, .nil⟩
  | .cons ⟨x, h1, h2⟩ t => by
    obtain ⟨ys, g1, g2⟩ := dps_vals t
    exact ⟨x :: ys, .cons h1 g1, .cons h2 g2⟩
open PySem.W in
theorem dps_each {R : V → D → Prop} : ∀ {xs : List V} {vs : List Value} {ds : List D}, Vals xs vs → Paired R xs ds → EachIs (fun v d => ∃ x : V, RelV x v ∧ R x d) vs ds
  | _, _, _, .nil, .nil => .nil
  | _, _, _, .cons r t, .cons d s => .cons ⟨_, r, d⟩ (dps_each t s)
open PySem.W in
theorem dps_reads {R : V → D → Prop} {pins : List (Addr × Obj)} {σ : L2.St} {H : Hp} {s : Shared} (I : Inv X pins σ H s) (hR : ∀ v d, R v d → Dp X.K H v d) : ∀ {xs : List V} {vs : List Value} {ds : List D}, Vals xs vs → Paired R xs ds → EachIs (fun v b => ∃ as, Reads s.heap v (id b) as) vs ds
  | _, _, _, .nil, .nil => .nil
  | _, _, _, .cons r t, .cons d s => .cons (Dp.reads I _ _ _ (hR _ _ d) r) (dps_reads I hR t s)
def SortOk (ds : List D) : Prop := PySem.W.AllAlike ds ∧ SortK ds ∧ ∀ d ∈ ds, d.depth ≤ 60
def sortD (ds : List D) : List D := ds.mergeSort (PySem.W.dataLe false id)
def rSortL (K : PySem.W.Frag) : List V → Hp → VK → Prop := fun vs H Q => ∃ p xs ds, ∃ R : V → D → Prop, vs = [.ref p] ∧ SqL K H p xs ∧ Paired R xs ds ∧ (∀ v d, R v d → Dp K H v d) ∧ SortOk ds ∧ ∀ ys q, Paired R ys (sortD ds) → H q = none → Q (.ref q) (upd H q (.lst ys))
open PySem.W in
theorem call_sortL (hu : X.A.units + 64 < cLine) : CallR X (.builtin "sorted") (rSortL X.K) := by
  intro pins s σ H xs us Q I r h
  obtain ⟨p, ys, ds, R', rfl, hp, hd, hR, ⟨hal, hk, hdep⟩, q⟩ := h
  obtain ⟨u, rfl, rx⟩ := vals1 r
  obtain rfl : u = .ref p := rx
  obtain ⟨its, rv, pl, hz⟩ := I.list hp
  have hl : ds.length ≤ sizeLine := by rw [← Paired.length hd]; exact hz
  have hmap : ds.map id = ds := List.map_id ds
  have er := dps_reads I hR rv hd
  have er' : EachIs (fun v b => ∃ as, Reads (sortingHeap (copyHeap s.heap its) (s.heap.objs.size + 1) its) v (id b) as) its ds := er.mono fun _ _ ⟨as, r⟩ => ⟨as, PyProof.Rows.Reads.keeps (fun _ _ => sorting_copy_old) r⟩
  have he := sortVals_data (R := fun v d => ∃ x : V, RelV x v ∧ R' x d) (enc := id) false (dps_each rv hd) er' (by rw [hmap]; exact hal)
  have ho := sortVals_length (κ := dataKind (sortingHeap (copyHeap s.heap its) (s.heap.objs.size + 1) its) (ds.map id)) false (ks := its) (vs := its) rfl
  have hil : its.length = ds.length := by rw [← Paired.length hd, rv.length]
  refine sorted_vals (κ := dataKind (sortingHeap (copyHeap s.heap its) (s.heap.objs.size + 1) its) (ds.map id)) pl.isList
    (sortsAt_any (s := { s with heap := sortingHeap (copyHeap s.heap its) (s.heap.objs.size + 1) its }) (each_map (R := fun v d => ∃ as, Reads (sortingHeap (copyHeap s.heap its) (s.heap.objs.size + 1) its) v d as) id er') (by rw [hmap]; exact hal) (by rw [hmap]; exact hk) (fun b hb => by rw [hmap] at hb; have := hdep b hb; show X.A.units + 1 + 1 + b.depth < cLine; omega))
    (by omega) ?_
  obtain ⟨zs, g1, g2⟩ := dps_vals he
  obtain ⟨ep, he'⟩ := PyProof.Rows.sortedAll_at s.heap its (sortVals (dataKind (sortingHeap (copyHeap s.heap its) (s.heap.objs.size + 1) its) (ds.map id)) false its its).toArray
  have hlen : zs.length ≤ sizeLine := by rw [g1.length, ho]; omega
  exact ⟨.ref _, upd H (s.heap.objs.size + 1) (.lst zs), I.laid (t' := s.toks) (fun _ _ => PyProof.Rows.sortedAll_old) (Nat.le_succ _) ⟨hlen, _, ep, g1, he'⟩, rfl, q zs _ g2 (I.hok.fresh (Nat.le_succ _))⟩
def rSortE (C : Cn) : List V → Hp → VK → Prop := fun vs H Q => ∃ p xs ep ds, ∃ R : V → D → Prop, vs = [.ref p] ∧ H p = some (dicO C p xs ep) ∧ KeysV C.K H xs ∧ Paired R (xs.map fun e => V.ref e.2.1) ds ∧ (∀ v d, R v d → Dp C.K H v d) ∧ SortOk ds ∧ ∀ ys q, Paired R ys (sortD ds) → H q = none → Q (.ref q) (upd H q (.lst ys))
theorem EU.refs : ∀ {xs : List DE} {us : List (NestedKey × Addr × Value)}, EU xs us → Vals (xs.map fun e => V.ref e.2.1) (us.map fun u => Value.ref u.2.1)
  | _, _, .nil => .nil
  | _, _, .cons q t => .cons (by show Value.ref _ = Value.ref _; rw [q.2.1]) (EU.refs t)
open PySem.W in
theorem call_sortE (hc : X.calm = true) (hu : X.A.units + 64 < cLine) : CallR X (.builtin "sorted") (rSortE (cn X)) := by
  intro pins s σ H xs us Q I r h
  obtain ⟨p, ys, ep0, ds, R', rfl, hp, hks, hd, hR, ⟨hal, hk, hdep⟩, q⟩ := h
  obtain ⟨u, rfl, rx⟩ := vals1 r
  obtain rfl : u = .ref p := rx
  obtain ⟨vs, rr, dd, hz, lo⟩ := dic_of I hp hks
  obtain ⟨es, ep, hraw, hsz, hes⟩ := dd.raw
  have hlen : ys.length = vs.length := Paired.length rr
  have hdl : ds.length = ys.length := by rw [← Paired.length hd, List.length_map]
  refine Calls.call_function_entry PyProof.Rows.kind_sorted PyProof.Rows.plain_sorted PyProof.Rows.entry_sorted (PyProof.Rows.args_sorted1 _) ?_
  unfold Builtin.«sorted»
  refine wpAny_bind (m := checkCount "sorted" 1 1 _) (wpAny_pure ?_)
  refine wpAny_bind (kdu_collect (A := X.A.in1) (kdl_raw (es := es) (ep := ep) lo) (I.ok.hd hc) hraw (by omega) fun h' tk acc hk' hacc => ?_)
  have hal' : acc.toList.length = ds.length := by rw [Array.length_toList, hacc.1, hsz, ← hlen, hdl]
  have hout : acc.toList = vs.map fun u => Value.ref u.2.1 := by
    refine List.ext_getElem? fun i => ?_
    by_cases hi : i < acc.toList.length
    · have e1 : acc[i]? = some (acc.toList[i]) := by rw [← Array.getElem?_toList]; exact List.getElem?_eq_getElem hi
      obtain ⟨hi2, e2⟩ := hacc.2 i _ e1
      obtain ⟨y, e3, e4, _⟩ := hes i hi2
      rw [List.getElem?_eq_getElem hi, e2, e4, List.getElem?_map, e3]
      rfl
    · rw [List.getElem?_eq_none (by omega), List.getElem?_eq_none (by rw [List.length_map]; omega)]
  have I1 : Inv X pins σ H { s with heap := h', toks := tk } := I.kept hk'
  have rv : Vals (ys.map fun e => V.ref e.2.1) acc.toList := by rw [hout]; exact EU.refs rr
  refine wpAny_bind (wpAny_newList ?_ (by rw [hal']; omega))
  have hoL : (h'.push (seqObj "list" acc.toList.toArray 0)).get? h'.objs.size = some (seqObj "list" acc.toList.toArray 0) := Heap.get?_push_size _ rfl
  show wpAny _ _ _ _ _ { s with heap := h'.push (seqObj "list" acc.toList.toArray 0), toks := tk }
  have hmap : ds.map id = ds := List.map_id ds
  have er : EachIs (fun v b => ∃ as, Reads (sortingHeap (h'.push (seqObj "list" acc.toList.toArray 0)) h'.objs.size acc.toList) v (id b) as) acc.toList ds :=
    (dps_reads I1 hR rv hd).mono fun _ _ ⟨as, r⟩ => ⟨as, PyProof.Rows.Reads.keeps (fun b o e => sortingHeap_old (Nat.ne_of_lt (Heap.lt_size e)) (Heap.get?_push_of_some _ e)) r⟩
  refine wpAny_bind (wpAny_holding (wpAny_call_entry PyProof.Rows.slot_list_sort ⟨_, hoL, rfl⟩ PyProof.Rows.entry_list_sort
    (list_sort_vals (κ := dataKind (sortingHeap (h'.push (seqObj "list" acc.toList.toArray 0)) h'.objs.size acc.toList) (ds.map id)) (s := { s with heap := h'.push (seqObj "list" acc.toList.toArray 0), toks := tk }) hoL
      (sortsAt_any (s := { s with heap := sortingHeap (h'.push (seqObj "list" acc.toList.toArray 0)) h'.objs.size acc.toList, toks := tk }) (each_map (R := fun v d => ∃ as, Reads (sortingHeap (h'.push (seqObj "list" acc.toList.toArray 0)) h'.objs.size acc.toList) v d as) id er) (by rw [hmap]; exact hal) (by rw [hmap]; exact hk) (fun b hb => by rw [hmap] at hb; have := hdep b hb; show X.A.units + 1 + 1 + b.depth < cLine; omega))
      (by rw [hal']; omega) ⟨_, rfl, ?_⟩) (PyProof.Rows.args_list_sort _)))
  have he := sortVals_data (R := fun v d => ∃ x : V, RelV x v ∧ R' x d) (enc := id) false (dps_each rv hd) er (by rw [hmap]; exact hal)
  obtain ⟨zs, g1, g2⟩ := dps_vals he
  obtain ⟨e', he'⟩ := PyProof.Rows.sortedHeap_at (vs := acc.toList) (out := (sortVals (dataKind (sortingHeap (h'.push (seqObj "list" acc.toList.toArray 0)) h'.objs.size acc.toList) (ds.map id)) false acc.toList acc.toList).toArray) hoL
  have hlz : zs.length ≤ sizeLine := by rw [g1.length, sortVals_length false rfl, hal']; omega
  refine wpAny_pure ⟨_, rfl, .ref h'.objs.size, upd H h'.objs.size (.lst zs), I1.laid (t' := tk) (fun b u e => ?_) (Nat.le_refl _)
    (show ObjOk X.prog X.w _ _ _ (.lst zs) from ⟨hlz, _, e', g1, he'⟩), rfl, q zs _ g2 (I1.hok.fresh (Nat.le_refl _))⟩
  have hb : b < h'.objs.size := Heap.lt_size e
  rw [PyProof.Rows.sortedHeap_old (Nat.ne_of_lt hb) (by rw [size_push']; exact Nat.lt_succ_of_lt hb)]
  exact Heap.get?_push_of_some _ e
end
end Fc
set_option Elab.async false
set_option linter.all false
set_option maxRecDepth 100000
set_option maxHeartbeats 1000000
/-! Fc: dicts as data. -/
namespace Fc
open PySem L2 PyProof.Rows
theorem mx_lt {n : Nat} (h : n < 1000000) : n < sizeLine := lim_lt h
section
variable {C : Cn} {f : Fr0} {B B' H H' : Hp} {σ : L2.St} {ρ ρ' : En} {v u : V} {d x y : D} {ds : List D} {i j : Nat} {a b : Ar} {ta tb tc te ti : TE} {E I : EF}
/-- the key of a datum that may be one -/
def keyN : D → Option NestedKey
  | .tuple ds => (keyOf (.tuple ds)).bind fun n => if n.depth ≤ 8 then some n else none
  | _ => none
theorem keyN_inv {d : D} {n : NestedKey} (h : keyN d = some n) : (∃ ds, d = .tuple ds) ∧ keyOf d = some n ∧ n.depth ≤ 8 := by
  unfold keyN at h
  split at h
  · obtain ⟨m, h1, h2⟩ := Option.bind_eq_some_iff.mp h
    split at h2
    · rename_i hd
      cases h2
      exact ⟨⟨_, rfl⟩, h1, hd⟩
    · cases h2
  · cases h
mutual
theorem Dn.dpk (e : Ex B H) : ∀ {v : V} {d : D} {n : NestedKey}, keyOf d = some n → Dn C B v d → Dp C.K H v d
  | _, _, _, _, .non => .non
  | _, _, _, _, .bl b => .bl b
  | _, _, _, _, .int i => .int i
  | _, _, _, _, .str x => .str x
  | _, _, _, h, .lst q qs => by cases h
  | _, _, _, h, .tup q qs => by
    obtain ⟨ks, h1, _⟩ := Option.map_eq_some_iff.mp h
    exact .tup (e.t q) (Dns.dpk e h1 qs)
  | _, _, _, h, .scr _ _ => by cases h
  | _, _, _, h, .dic _ _ => by cases h
  | _, _, _, h, .odd _ => by cases h
theorem Dns.dpk (e : Ex B H) : ∀ {vs : List V} {ds : List D} {ks : List NestedKey}, keysOf ds = some ks → Dns C B vs ds → DpAll C.K H vs ds
  | _, _, _, _, .nil => .nil
  | _, d :: ds, _, h, .cons q qs => by
    rw [keysOf] at h
    cases q1 : keyOf d with
    | none => rw [q1] at h; cases h
    | some k =>
      cases q2 : keysOf ds with
      | none => rw [q1, q2] at h; cases h
      | some ks => exact .cons (Dn.dpk e q1 q) (Dns.dpk e q2 qs)
end
theorem Ents.keys (e : Ex B H) : ∀ {xs : List DE} {kvs : List (D × D)}, Ents C B xs kvs → KeysV C.K H xs
  | _, _, .nil => fun _ h => nomatch h
  | _, _, .cons q k z _ t => fun z' hz => by
    rcases List.mem_cons.mp hz with rfl | hz
    · exact ⟨_, q.dpk e k, k, z⟩
    · exact Ents.keys e t z' hz
def getK (kvs : List (D × D)) (n : NestedKey) : Option D := (kvs.find? fun e => decide (keyOf e.1 = some n)).map (·.2)
def putK' (kvs : List (D × D)) (k : D) (n : NestedKey) (v : D) : List (D × D) := if (getK kvs n).isSome then kvs.map (fun e => if keyOf e.1 = some n then (e.1, v) else e) else kvs ++ [(k, v)]
def RelG (C : Cn) (B : Hp) : Option V → Option D → Prop
  | some v, some d => Dn C B v d
  | none, none => True
  | _, _ => False
theorem Ents.get (n : NestedKey) : ∀ {xs : List DE} {kvs : List (D × D)}, Ents C B xs kvs → RelG C B (getE xs n) (getK kvs n)
  | _, _, .nil => trivial
  | _, _, .cons (n := m) (v := v) (d := d) (k := kd) q k z q2 t => by
    have ih := Ents.get n t
    unfold getE getK at ih ⊢
    rw [List.find?_cons, List.find?_cons]
    by_cases h : m = n
    · have h2 : keyOf kd = some n := by rw [k, h]
      simp only [h, h2, decide_true]
      exact q2
    · have h2 : ¬ keyOf kd = some n := by rw [k]; intro z; cases z; exact h rfl
      simp only [h, h2, decide_false]
      exact ih
theorem Ents.isSome (n : NestedKey) {xs : List DE} {kvs : List (D × D)} (t : Ents C B xs kvs) : (getE xs n).isSome = (getK kvs n).isSome := by
  have h := t.get n
  cases h1 : getE xs n <;> cases h2 : getK kvs n <;> rw [h1, h2] at h <;> first | rfl | exact h.elim
theorem Ents.length : ∀ {xs : List DE} {kvs : List (D × D)}, Ents C B xs kvs → xs.length = kvs.length
  | _, _, .nil => rfl
  | _, _, .cons _ _ _ _ t => by rw [List.length_cons, List.length_cons, Ents.length t]
theorem Ents.map (n : NestedKey) {v : V} {d : D} (hv : Dn C B v d) : ∀ {xs : List DE} {kvs : List (D × D)}, Ents C B xs kvs → Ents C B (xs.map fun e => if e.1 = n then (e.1, e.2.1, v) else e) (kvs.map fun e => if keyOf e.1 = some n then (e.1, d) else e)
  | _, _, .nil => .nil
  | _, _, .cons (n := m) (k := kd) (v := w) (d := dw) q k z q2 t => by
    have ih := Ents.map n hv t
    rw [List.map_cons, List.map_cons]
    by_cases h : m = n
    · have h2 : keyOf kd = some n := by rw [k, h]
      simp only [h, h2, if_true]
      exact .cons q h2 (by rw [← h]; exact z) hv ih
    · have h2 : ¬ keyOf kd = some n := by rw [k]; intro z; cases z; exact h rfl
      simp only [h, h2, if_false]
      exact .cons q k z q2 ih
theorem Ents.app : ∀ {xs ys : List DE} {kvs lvs : List (D × D)}, Ents C B xs kvs → Ents C B ys lvs → Ents C B (xs ++ ys) (kvs ++ lvs)
  | _, _, _, _, .nil, h => h
  | _, _, _, _, .cons q k z q2 t, h => .cons q k z q2 (Ents.app t h)
theorem Ents.put {n : NestedKey} {p : Addr} {k : D} {v : V} {d : D} (hk : Dn C B (V.ref p) k) (kn : keyOf k = some n) (kd : n.depth ≤ 8) (hv : Dn C B v d) {xs : List DE} {kvs : List (D × D)} (t : Ents C B xs kvs) : Ents C B (putE xs n p v) (putK' kvs k n d) := by
  unfold putE putK'
  rw [t.isSome n]
  split
  · exact t.map n hv
  · exact t.app (.cons hk kn kd hv .nil)
theorem scr_none {C : Cn} {B : Hp} {xs : List DE} {kvs : List (D × D)} (h : Ents C B xs kvs) : scrOf kvs = none := by
  cases q : scrOf kvs with
  | none => rfl
  | some ds =>
    rcases scrOf_eq q with e | ⟨n, e⟩
    · rw [e] at h
      exact (ents_no_scr h).elim
    · rw [e] at h
      exact (ents_no_odd h).elim
/-! ### in, [], len -/
def gInE (neg : Bool) (x : D) (kvs : List (D × D)) : Option D := if (scrOf kvs).isSome then none else (keyN x).map fun n => .bool (if neg then !(getK kvs n).isSome else (getK kvs n).isSome)
def gInA (neg : Bool) : G2 := fun x y => match y with
  | .dict kvs => gInE neg x kvs
  | y => gIn neg x y
def rInB (C : Cn) (neg : Bool) : R2 := fun x y H Q => rInAny C.K neg x y H Q ∨ rInE C neg x y H Q
theorem op_inB {X : Cx} (hu : X.A.units + 65 < cLine) : OpR X (compareOp .In) (rInB (cn X) false) := (op_inAny hu).or (op_inE (by omega))
theorem op_notInB {X : Cx} (hu : X.A.units + 65 < cLine) : OpR X (compareOp .NotIn) (rInB (cn X) true) := (op_notInAny hu).or (op_notInE (by omega))
theorem Dv.key (h : Dv C B H v d) {n : NestedKey} (hn : keyN d = some n) : ∃ p, v = V.ref p ∧ Dn C B (V.ref p) d := by
  obtain ⟨⟨ds, rfl⟩, _⟩ := keyN_inv hn
  rcases h with q | ⟨p, rfl, q⟩
  · cases q with
    | tup h1 h2 => exact ⟨_, rfl, .tup h1 h2⟩
  · exact q.elim
theorem rb_inB {neg : Bool} : RB C (rInB C neg) (gInA neg) := fun f B σ H ρ x y a b d Q S hx hy e k => by
  cases b with
  | dict kvs =>
    have e : gInE neg a kvs = some d := e
    unfold gInE at e
    split at e
    · cases e
    · rename_i hs
      obtain ⟨n, e1, rfl⟩ := Option.map_eq_some_iff.mp e
      have hs' : scrOf kvs = none := by cases q : scrOf kvs with | none => rfl | some _ => rw [q] at hs; exact absurd rfl hs
      obtain ⟨p, rfl, hk⟩ := hx.key e1
      obtain ⟨_, kn, kd⟩ := keyN_inv e1
      obtain ⟨c, xs, ep, rfl, hc, hE⟩ := hy.dict S.bh hs'
      refine .inr ⟨p, c, xs, ep, n, rfl, rfl, hc, hE.keys S.bh, ⟨_, hk.dpk S.bh kn, kn, kd⟩, ?_⟩
      rw [hE.isSome n]
      exact k _ B H (Ex.refl B) S (.bl _)
  | none => exact .inl (rb_in f B σ H ρ x y a _ d Q S hx hy e k)
  | bool _ => exact .inl (rb_in f B σ H ρ x y a _ d Q S hx hy e k)
  | int _ => exact .inl (rb_in f B σ H ρ x y a _ d Q S hx hy e k)
  | str _ => exact .inl (rb_in f B σ H ρ x y a _ d Q S hx hy e k)
  | list _ => exact .inl (rb_in f B σ H ρ x y a _ d Q S hx hy e k)
  | tuple _ => exact .inl (rb_in f B σ H ρ x y a _ d Q S hx hy e k)
def gIxA : G2 := fun x y => match x with
  | .dict kvs => match scrOf kvs with
    | some ds => gIx (.dict kvs) y
    | none => (keyN y).bind (getK kvs)
  | x => gIx x y
def rIxB (C : Cn) : R2 := fun x y H Q => rIxAny C.K x y H Q ∨ rGetE C x y H Q
theorem ix_B {X : Cx} (hu : X.A.units + 65 < cLine) : IxR X (rIxB (cn X)) := ix_any.or (ix_E (by omega))
theorem rb_ixB : RB C (rIxB C) gIxA := fun f B σ H ρ x y a b d Q S hx hy e k => by
  cases a with
  | dict kvs =>
    have e : (match scrOf kvs with | some ds => gIx (.dict kvs) b | none => (keyN b).bind (getK kvs)) = some d := e
    split at e
    · exact .inl (rb_ix f B σ H ρ x y _ b d Q S hx hy e k)
    · rename_i hs
      obtain ⟨n, e1, e2⟩ := Option.bind_eq_some_iff.mp e
      obtain ⟨p, rfl, hk⟩ := hy.key e1
      obtain ⟨_, kn, kd⟩ := keyN_inv e1
      obtain ⟨c, xs, ep, rfl, hc, hE⟩ := hx.dict S.bh hs
      have hg := hE.get n
      rw [e2] at hg
      cases q : getE xs n with
      | none => rw [q] at hg; exact hg.elim
      | some w =>
        rw [q] at hg
        exact .inr ⟨c, p, xs, ep, n, w, rfl, rfl, hc, hE.keys S.bh, ⟨_, hk.dpk S.bh kn, kn, kd⟩, q, k _ B H (Ex.refl B) S hg⟩
  | none => exact .inl (rb_ix f B σ H ρ x y _ b d Q S hx hy e k)
  | bool _ => exact .inl (rb_ix f B σ H ρ x y _ b d Q S hx hy e k)
  | int _ => exact .inl (rb_ix f B σ H ρ x y _ b d Q S hx hy e k)
  | str _ => exact .inl (rb_ix f B σ H ρ x y _ b d Q S hx hy e k)
  | list _ => exact .inl (rb_ix f B σ H ρ x y _ b d Q S hx hy e k)
  | tuple _ => exact .inl (rb_ix f B σ H ρ x y _ b d Q S hx hy e k)
def gLenA : G1 := fun x => match x with
  | .dict kvs => match scrOf kvs with
    | some _ => gLen (.dict kvs)
    | none => some (.int kvs.length)
  | x => gLen x
def rLenB (C : Cn) : List V → Hp → VK → Prop := fun xs H Q => rLenAny C.K xs H Q ∨ rLenE C xs H Q
theorem call_lenB {X : Cx} : CallR X (.builtin "len") (rLenB (cn X)) := call_lenAny.or call_lenE
theorem ru_lenB : RU C (fun x H Q => rLenB C [x] H Q) gLenA := fun f B σ H ρ x a d Q S hx e k => by
  cases a with
  | dict kvs =>
    have e : (match scrOf kvs with | some _ => gLen (.dict kvs) | none => some (PyData.int (kvs.length : Nat))) = some d := e
    split at e
    · exact .inl (ru_len f B σ H ρ x (.dict kvs) _ Q S hx e k)
    · rename_i hs
      cases e
      obtain ⟨c, xs, ep, rfl, hc, hE⟩ := hx.dict S.bh hs
      refine .inr ⟨c, xs, ep, rfl, hc, hE.keys S.bh, ?_⟩
      rw [hE.length]
      exact k _ B H (Ex.refl B) S (.int _)
  | none => exact .inl (ru_len f B σ H ρ x _ d Q S hx e k)
  | bool _ => exact .inl (ru_len f B σ H ρ x _ d Q S hx e k)
  | int _ => exact .inl (ru_len f B σ H ρ x _ d Q S hx e k)
  | str _ => exact .inl (ru_len f B σ H ρ x _ d Q S hx e k)
  | list _ => exact .inl (ru_len f B σ H ρ x _ d Q S hx e k)
  | tuple _ => exact .inl (ru_len f B σ H ρ x _ d Q S hx e k)
/-! ### d[k] = v, xs[i] = v -/
def setD : D → D → D → Option D
  | .list ds, y, v => (gInt y).bind fun k => (ixN ds.length k).bind fun j => some (.list (ds.set j v))
  | .dict kvs, y, v => (keyN y).bind fun n => if kvs.length < 1000000 ∧ (scrOf kvs).isNone then some (.dict (putK' kvs y n v)) else none
  | _, _, _ => none
def rSetB (C : Cn) : TSet := fun o i v H Q => rSetL o i v H Q ∨ rSetE C o i v H Q
theorem PSet.or {X : Cx} {r r' : TSet} (h : PSet X r) (h' : PSet X r') : PSet X (fun o i v H Q => r o i v H Q ∨ r' o i v H Q) := by
  intro pins s σ H o i v ov iv u Q I ro ri rv q
  rcases q with q | q
  · exact h pins s σ H o i v ov iv u Q I ro ri rv q
  · exact h' pins s σ H o i v ov iv u Q I ro ri rv q
theorem set_B {X : Cx} (hu : X.A.units + 65 < cLine) : PSet X (rSetB (cn X)) := PSet.or set_list (set_E (by omega))
theorem setD_run {Q : Hp → Prop} {p : Addr} {w vv : V} {x y z d : D} (eb : Ex B H) (ho : OwnAt C B H p d) (hy : Dn C B w y) (hx : Dn C B vv x) (e : setD d y x = some z) (k : ∀ o, OwnAt C B (upd H p o) p z → Q (upd H p o)) : rSetB C (V.ref p) w vv H Q := by
  cases d with
  | list ds =>
    obtain ⟨n, e1, e2⟩ := Option.bind_eq_some_iff.mp e
    obtain ⟨j, e3, e4⟩ := Option.bind_eq_some_iff.mp e2
    cases e4
    have h1 := gInt_inv e1
    subst h1
    cases hy
    obtain ⟨vs, hvs, hds⟩ := ho
    exact .inl ⟨p, vs, n, j, rfl, rfl, hvs, by rw [hds.length]; exact e3, k _ (show ∃ us, _ from ⟨_, upd_same, Dns.set hx j hds⟩)⟩
  | dict kvs =>
    obtain ⟨n, e1, e2⟩ := Option.bind_eq_some_iff.mp e
    split at e2
    · rename_i hc
      cases e2
      obtain ⟨⟨ds, rfl⟩, kn, kd⟩ := keyN_inv e1
      obtain ⟨xs, ep, hxs, hE⟩ := ho
      have hl := hE.length
      cases hy with
      | tup h1 h2 =>
        exact .inr ⟨p, _, xs, ep, n, rfl, rfl, hxs, hE.keys eb, ⟨_, (Dn.tup h1 h2).dpk eb kn, kn, kd⟩, lim_lt (by rw [hl]; exact hc.1), fun ep2 => k _ (show ∃ us ep, _ from ⟨_, _, upd_same, hE.put (.tup h1 h2) kn kd hx⟩)⟩
    · cases e2
  | _ => cases e
def sSetA (i : Nat) (E I : EF) : SF := fun ρ => (E ρ).bind fun p => (ownD p.2[i]?).bind fun _ => (I p.2).bind fun q => (ownD q.2[i]?).bind fun d => (setD d q.1 p.1).bind fun z => some (.nx (put1 i z q.2))
theorem es_setA (h : EE C te E) (hi : EE C ti I) : ES C (tAsg te (gSub (tVar i) ti (rSetB C))) (sSetA i E I) := fun f B σ H ρ o D S e k => by
  obtain ⟨⟨x, ρ1⟩, e1, z1⟩ := Option.bind_eq_some_iff.mp e
  obtain ⟨d0, e6, z1⟩ := Option.bind_eq_some_iff.mp z1
  obtain ⟨⟨y, ρ2⟩, e2, z2⟩ := Option.bind_eq_some_iff.mp z1
  obtain ⟨d, e3, z3⟩ := Option.bind_eq_some_iff.mp z2
  obtain ⟨z, e4, z4⟩ := Option.bind_eq_some_iff.mp z3
  cases z4
  refine h f B σ H ρ x ρ1 _ S e1 fun v B1 H1 eb S1 hv => ?_
  obtain ⟨p0, _, _, _, ev, _, _⟩ := S1.owned e6
  refine ⟨_, ev, hi f B1 σ H1 ρ1 _ ρ2 _ S1 e2 fun w B2 H2 eb2 S2 hw => ?_⟩
  obtain ⟨p, s, hs, hwn, ev1, hb, ho⟩ := S2.owned e3
  rw [ev] at ev1
  cases ev1
  exact setD_run S2.bh ho hw (hv.mono eb2) e4 fun o' ho' => k B2 σ _ (eb.trans eb2) (S2.put hs hwn ev ho')
end
end Fc
set_option Elab.async false
set_option linter.all false
set_option maxRecDepth 100000
set_option maxHeartbeats 1000000
/-! Fc: new dicts, sorted, op= on subscripts. -/
namespace Fc
open PySem L2 PyProof.Rows
section
variable {C : Cn} {f : Fr0} {B B' H H' : Hp} {σ : L2.St} {ρ ρ' : En} {v u : V} {d x y : D} {ds : List D} {i j : Nat} {a b : Ar} {ta tb tc te ti tk tv : TE} {E I KE VE : EF}
theorem Stt.free1 {p : Addr} {o : HO} (S : Stt C f B σ H ρ) (hb : B p = none) (h0 : f.H0 p = none) (ht : f.tmp p = none) (hn : ∀ i : Nat, Sl.own ρ[i]? → σ[i]? ≠ some (some (V.ref p))) : Stt C f B σ (upd H p o) ρ where
  b0 := S.b0
  bh := fun a u h => by
    have : a ≠ p := fun z => by rw [z, hb] at h; cases h
    rw [upd_ne this]
    exact S.bh a u h
  old := fun a h => by
    by_cases ha : a = p
    · subst ha
      rw [upd_same]
      exact fun z => nomatch z
    · rw [upd_ne ha]
      exact S.old a h
  nw := S.nw
  keep := fun a u h hi => by
    have : a ≠ p := fun z => by
      subst z
      rw [h0] at h
      cases h
    rw [upd_ne this]
    exact S.keep a u h hi
  len := S.len
  sl := fun i s h => by
    have z := S.sl i s h
    cases s with
    | em => trivial
    | sh d => exact z
    | ow d =>
      obtain ⟨q, e1, q0, qb, ho⟩ := z
      have hq : q ≠ p := fun z => hn i (by rw [h]; trivial) (by rw [e1, z])
      exact ⟨q, e1, q0, qb, ho.mono (Ex.refl _) fun o q' => by rw [upd_ne hq]; exact q'⟩
    | io d =>
      obtain ⟨q, hi, e1, q0, qb, ho⟩ := z
      have hq : q ≠ p := fun z => hn i (by rw [h]; trivial) (by rw [e1, z])
      exact ⟨q, hi, e1, q0, qb, ho.mono (Ex.refl _) fun o q' => by rw [upd_ne hq]; exact q'⟩
    | bo d =>
      obtain ⟨q, hi, e1, ho⟩ := z
      obtain ⟨o2, ht2⟩ := S.bs _ hi
      have hq : q ≠ p := fun z => by rw [show (i, q).2 = q from rfl, z, ht] at ht2; cases ht2
      exact ⟨q, hi, e1, ho.mono (Ex.refl _) fun o q' => by rw [upd_ne hq]; exact q'⟩
  dis := S.dis
  iof := S.iof
  ifn := S.ifn
  bs := S.bs
  tm := fun a o h => by
    obtain ⟨h1, h2, h3⟩ := S.tm a o h
    have : a ≠ p := fun z => by rw [z, ht] at h; cases h
    exact ⟨by rw [upd_ne this]; exact h1, h2, h3⟩
def eDic0 : EF := fun ρ => some (.dict [], ρ)
theorem eo_dic0 : EO C (tNewE C) eDic0 := fun f B σ H ρ d ρ' Q S e k => by
  cases e
  intro p ep hp
  exact eo_new (d := .dict []) S hp (show ∃ us ep, _ from ⟨[], ep, upd_same, .nil⟩) k
/-- {k: v} -/
def eDic1 (KE VE : EF) : EF := fun ρ => (KE ρ).bind fun p => (VE p.2).bind fun q => (keyN p.1).bind fun n => some (.dict [(p.1, q.1)], q.2)
theorem eo_dic1 (hk : EE C tk KE) (hv : EE C tv VE) : EO C (tDispE C [(tk, tv)]) (eDic1 KE VE) := fun f B σ H ρ d ρ' Q S e k => by
  obtain ⟨⟨x, ρ1⟩, e1, z1⟩ := Option.bind_eq_some_iff.mp e
  obtain ⟨⟨y, ρ2⟩, e2, z2⟩ := Option.bind_eq_some_iff.mp z1
  obtain ⟨n, e3, z3⟩ := Option.bind_eq_some_iff.mp z2
  cases z3
  intro p ep0 hp
  have h0 := S.h0_free hp
  have ht := S.tm_free hp
  have hb := S.bh.free hp
  have hn : ∀ i : Nat, Sl.own ρ[i]? → σ[i]? ≠ some (some (V.ref p)) := fun i hi e => by
    obtain ⟨u, hu⟩ := S.own_there hi e
    rw [hp] at hu
    cases hu
  have S0 := (S.allocO (o := dicO C p [] ep0) hp).tell (p := p) upd_same hb hn
  have ex : Ex f.tmp (upd f.tmp p (dicO C p [] ep0)) := Ex.new ht
  refine hk _ B σ _ ρ x ρ1 _ S0 e1 fun v B1 H1 eb S1 hv1 => hv _ B1 σ H1 ρ1 y ρ2 _ S1 e2 fun w B2 H2 eb2 S2 hw => ?_
  obtain ⟨t1, t2, t3⟩ := S2.tm p _ upd_same
  obtain ⟨⟨ds, rfl⟩, kn, kd⟩ := keyN_inv e3
  cases hv1 with
  | @tup a vs _ h1 h2 =>
    have hK : Dn C B2 (V.ref a) (.tuple ds) := (Dn.tup h1 h2).mono eb2
    refine ⟨t1, [(n, a, w)], rfl, fun e he => ?_, by show 1 ≤ 15; decide, fun ep2 => ?_⟩
    · cases List.mem_singleton.mp he
      exact ⟨_, hK.dpk S2.bh kn, kn, kd⟩
    · have S3 := S2.untell ex S.bs
      have nf : ∀ i : Nat, Sl.own ρ2[i]? → σ[i]? ≠ some (some (V.ref p)) := t3
      refine k p B2 _ (eb.trans eb2) ?_ h0 ht t2 nf (show ∃ us ep, _ from ⟨_, _, upd_same, Ents.cons hK kn kd hw .nil⟩)
      exact S3.free1 t2 h0 ht nf
/-! ### sorted -/
def keysD : D → Option (List D)
  | .list ds => some ds
  | .dict kvs => if (scrOf kvs).isNone then some (kvs.map (·.1)) else none
  | _ => none
open Classical in
noncomputable def gSort : G1 := fun x => (keysD x).bind fun ds => if SortOk ds ∧ (∀ d ∈ ds, d.canLay0 = true) then some (.list (sortD ds)) else none
def rSortB (C : Cn) : List V → Hp → VK → Prop := fun xs H Q => rSortL C.K xs H Q ∨ rSortE C xs H Q
theorem call_sortB {X : Cx} (hc : X.calm = true) (hu : X.A.units + 65 < cLine) : CallR X (.builtin "sorted") (rSortB (cn X)) := (call_sortL (by omega)).or (call_sortE hc (by omega))
theorem sorted_dns : ∀ {ys : List V} {ds : List D}, Paired (fun v d => Dn C B v d ∧ d.canLay0 = true) ys ds → Dns C B ys ds
  | _, _, .nil => .nil
  | _, _, .cons q t => .cons q.1 (sorted_dns t)
theorem dns_pair : ∀ {vs : List V} {ds : List D}, Dns C B vs ds → (∀ d ∈ ds, d.canLay0 = true) → Paired (fun v d => Dn C B v d ∧ d.canLay0 = true) vs ds
  | _, _, .nil, _ => .nil
  | _, _, .cons q t, h => .cons ⟨q, h _ List.mem_cons_self⟩ (dns_pair t fun d hd => h d (List.mem_cons_of_mem _ hd))
theorem Ents.kdns : ∀ {xs : List DE} {kvs : List (D × D)}, Ents C B xs kvs → Dns C B (xs.map fun e => V.ref e.2.1) (kvs.map (·.1))
  | _, _, .nil => .nil
  | _, _, .cons q _ _ _ t => .cons q (Ents.kdns t)
theorem eo_sort (ha : ArE C ta a) : EO C (tCB (rSortB C) (tCons ta tNil)) (eUn gSort a) := fun f B σ H ρ d ρ' Q S e k => by
  obtain ⟨⟨x, ρ1⟩, e1, q⟩ := Option.bind_eq_some_iff.mp e
  obtain ⟨d', e2, q⟩ := Option.bind_eq_some_iff.mp q
  cases q
  refine ar1 ha S e1 fun v B1 H1 eb S1 hv => ?_
  obtain ⟨ds, e3, e4⟩ := Option.bind_eq_some_iff.mp e2
  split at e4
  · rename_i hc
    cases e4
    have fin : ∀ ys q, Paired (fun v d => Dn C B1 v d ∧ d.canLay0 = true) ys (sortD ds) → H1 q = none → Q (.ref q) (upd H1 q (.lst ys)) := fun ys q hp hq =>
      eo_new (d := .list _) S1 hq (show ∃ us, _ from ⟨_, upd_same, sorted_dns hp⟩) fun p B' H' eb' => k p B' H' (eb.trans eb')
    cases x with
    | list es =>
      cases e3
      obtain ⟨p, vs, rfl, hq, hvs⟩ := hv.list S1.bh
      exact .inl ⟨p, vs, _, _, rfl, hq, dns_pair hvs hc.2, fun v d h => h.1.dp S1.bh h.2, hc.1, fin⟩
    | dict kvs =>
      have e3 : (if (scrOf kvs).isNone = true then some (kvs.map (·.1)) else none) = some ds := e3
      split at e3
      · rename_i hs
        cases e3
        obtain ⟨p, xs, ep, rfl, hp, hE⟩ := hv.dict S1.bh (Option.isNone_iff_eq_none.mp hs)
        exact .inr ⟨p, xs, ep, _, _, rfl, hp, hE.keys S1.bh, dns_pair hE.kdns hc.2, fun v d h => h.1.dp S1.bh h.2, hc.1, fin⟩
      · cases e3
    | _ => cases e3
  · cases e4
/-! ### products -/
def rMulB (C : Cn) : R2 := fun x y H Q => rI CMul (fun i j => .int (i * j)) x y H Q ∨ rRepT C.K x y H Q
theorem op_mulB {X : Cx} : OpR X (binaryOp .Mult) (rMulB (cn X)) := op_mul.or op_repT
end
end Fc
set_option Elab.async false
set_option linter.all false
set_option maxRecDepth 100000
set_option maxHeartbeats 1000000
/-! Fc: op= on subscripts. -/
namespace Fc
open PySem L2 PyProof.Rows
section
variable {X : Cx}
theorem get_L : PGet X (rIxL X.K) := by
  intro pins s σ H x y v u Q I rx ry h
  obtain ⟨p, xs, i, z, rfl, rfl, hq, he, q⟩ := h
  cases rx
  obtain ⟨t, rfl⟩ := ry
  obtain ⟨its, r, pl, hz⟩ := I.list hq
  obtain ⟨j, h1, h2, h3, h4, h5⟩ := atI_get he
  obtain ⟨w, ew, rw'⟩ := r.get h2
  have hl := r.length
  have hn := line63
  have fin : EP X pins σ Q w s := ⟨z, H, I, rw', q⟩
  by_cases h0 : 0 ≤ i
  · have hj : i.toNat = j := by
      rw [seqIndex_of h0 h5] at h1
      exact Option.some.inj h1
    exact wpAny_getItem_list pl.isList h0 (by omega) (by rw [hj]; simpa using ew) fin
  · have hj : (i + (its.toArray.size : Int)).toNat = j := by
      rw [seqIndex_neg (by omega) h4] at h1
      rw [List.size_toArray, ← hl]
      exact Option.some.inj h1
    exact wpAny_getItem_list_neg pl.isList (by omega) (by rw [List.size_toArray] <;> omega) (by omega) (by rw [hj]; simpa using ew) fin
theorem get_E (hu : X.A.units + 64 < cLine) : PGet X (rGetE (cn X)) := by
  intro pins s σ H x y v u Q I rx ry h
  obtain ⟨p, a, xs, ep, n, z, rfl, rfl, hp, hk, hn, hg, q⟩ := h
  cases rx
  cases ry
  obtain ⟨us, r, dd, hz, hd⟩ := dic_of I hp hk
  have ro := r.get n
  rw [hg] at ro
  cases hq : atKey us n with
  | none => rw [hq] at ro; exact ro.elim
  | some w =>
    rw [hq] at ro
    exact wpAny_getItem_heap (by show X.A.units + 1 + 8 < cLine; omega) (hn.is I) dd hq ⟨z, H, I.tok _, ro, q⟩
def rGetB (C : Cn) : V → V → Hp → VK → Prop := fun x y H Q => rIxL C.K x y H Q ∨ rGetE C x y H Q
theorem get_B (hu : X.A.units + 65 < cLine) : PGet X (rGetB (cn X)) := by
  intro pins s σ H x y v u Q I rx ry h
  rcases h with h | h
  · exact get_L pins s σ H x y v u Q I rx ry h
  · exact get_E (by omega) pins s σ H x y v u Q I rx ry h
end
section
variable {C : Cn} {f : Fr0} {B B' H H' : Hp} {σ : L2.St} {ρ ρ' : En} {i j : Nat} {te ti : TE} {E I : EF}
def getD' : D → D → Option D
  | .list ds, y => (gInt y).bind fun k => atI ds k
  | .dict kvs, y => (keyN y).bind (getK kvs)
  | _, _ => none
/-- xs[i] op= e, d[k] op= e, ints -/
def sAugA (i : Nat) (I E : EF) (g : Int → Int → Int) : SF := fun ρ => (ownD ρ[i]?).bind fun _ => (I ρ).bind fun q => (ownD q.2[i]?).bind fun d => (getD' d q.1).bind fun x => (gInt x).bind fun a => (E q.2).bind fun p => (gInt p.1).bind fun b => (ownD p.2[i]?).bind fun d2 => (setD d2 q.1 (.int (g a b))).bind fun z => some (.nx (put1 i z p.2))
theorem es_augA {gi : Int → Int → Int} (hi : EE C ti I) (h : EE C te E) : ES C (tAugS (tVar i) ti te (rGetB C) (ipI gi) (rSetB C)) (sAugA i I E gi) := fun f B σ H ρ o D S e k => by
  obtain ⟨d0, e0, z0⟩ := Option.bind_eq_some_iff.mp e
  obtain ⟨⟨y, ρ1⟩, e1, z1⟩ := Option.bind_eq_some_iff.mp z0
  obtain ⟨d1, e2, z2⟩ := Option.bind_eq_some_iff.mp z1
  obtain ⟨x, e3, z3⟩ := Option.bind_eq_some_iff.mp z2
  obtain ⟨a, e4, z4⟩ := Option.bind_eq_some_iff.mp z3
  obtain ⟨⟨w, ρ2⟩, e5, z5⟩ := Option.bind_eq_some_iff.mp z4
  obtain ⟨b, e6, z6⟩ := Option.bind_eq_some_iff.mp z5
  obtain ⟨d2, e7, z7⟩ := Option.bind_eq_some_iff.mp z6
  obtain ⟨z, e8, z8⟩ := Option.bind_eq_some_iff.mp z7
  cases z8
  have h4 := gInt_inv e4
  have h6 := gInt_inv e6
  simp only at h6
  subst h4 h6
  obtain ⟨p0, _, _, _, ev, _, _⟩ := S.owned e0
  refine ⟨_, ev, hi f B σ H ρ y ρ1 _ S e1 fun u B1 H1 eb1 S1 hu => ?_⟩
  obtain ⟨p1, s1, hs1, hw1, ev1, hb1, ho1⟩ := S1.owned e2
  rw [ev] at ev1
  cases ev1
  have cont : ∀ v, Dn C B1 v (.int a) → te σ H1 (fun y4 H4 => ipI gi v y4 H4 fun z5 H5 => rSetB C (V.ref p0) u z5 H5 fun H6 => D.nx σ H6) := fun v hv => by
    cases hv
    refine h f B1 σ H1 ρ1 _ ρ2 _ S1 e5 fun v2 B2 H2 eb2 S2 hv2 => ?_
    cases hv2
    obtain ⟨p2, s2, hs2, hw2, ev2, hb2, ho2⟩ := S2.owned e7
    rw [ev] at ev2
    cases ev2
    exact ⟨a, b, rfl, rfl, setD_run S2.bh ho2 (hu.mono eb2) (.int _) e8 fun o' ho' => k B2 σ _ (eb1.trans eb2) (S2.put hs2 hw2 ev ho')⟩
  cases d1 with
  | list ds =>
    obtain ⟨n, g1, g2⟩ := Option.bind_eq_some_iff.mp e3
    have h1 := gInt_inv g1
    simp only at h1
    subst h1
    cases hu
    obtain ⟨vs, hvs, hds⟩ := ho1
    obtain ⟨v, gv, hv⟩ := atI_dns hds g2
    exact .inl ⟨p0, vs, n, v, rfl, rfl, .inl (.inl hvs), gv, cont v hv⟩
  | dict kvs =>
    obtain ⟨n, g1, g2⟩ := Option.bind_eq_some_iff.mp e3
    obtain ⟨⟨ds, hy⟩, kn, kd⟩ := keyN_inv g1
    simp only at hy
    subst hy
    obtain ⟨xs, ep, hxs, hE⟩ := ho1
    have hg := hE.get n
    rw [g2] at hg
    cases hu with
    | tup h1 h2 =>
      cases q : getE xs n with
      | none => rw [q] at hg; exact hg.elim
      | some v =>
        rw [q] at hg
        exact .inr ⟨p0, _, xs, ep, n, v, rfl, rfl, hxs, hE.keys S1.bh, ⟨_, (Dn.tup h1 h2).dpk S1.bh kn, kn, kd⟩, q, cont v hg⟩
  | _ => cases e3
end
end Fc
set_option Elab.async false
set_option linter.all false
set_option maxRecDepth 100000
set_option maxHeartbeats 1000000
/-! Fc: dicts walked, slots lent, lists turned about. -/
namespace Fc
open PySem L2 PyProof.Rows
section
variable {X : Cx} {pins : List (Addr × Obj)} {σ : L2.St} {H : Hp} {s : Shared}
theorem eu_at : ∀ {xs : List DE} {us : List (NestedKey × Addr × Value)} {i : Nat} {e : DE}, EU xs us → xs[i]? = some e → ∃ u, us[i]? = some u ∧ u.2.1 = e.2.1
  | _, _, _, _, .nil, h => by simp at h
  | _, _, 0, _, .cons q _, h => by
    cases h
    exact ⟨_, rfl, q.2.1.symm⟩
  | _, _, n + 1, _, .cons _ t, h => by
    obtain ⟨u, h1, h2⟩ := eu_at (i := n) t h
    exact ⟨u, h1, h2⟩
theorem dic_raw {p : Addr} {xs : List DE} {ep : Nat} (I : Inv X pins σ H s) (hp : H p = some (dicO (cn X) p xs ep)) : ∃ o es, s.heap.get? p = some o ∧ o.ExactDict ∧ o.data = .dict es ep ∧ es.size = xs.length ∧ (p == sysModules) = false ∧ ∀ (i : Nat) (e : DE), xs[i]? = some e → ∃ en, es[i]? = some en ∧ en.key = .ref e.2.1 := by
  obtain ⟨⟨us, t, ⟨o, es, a1, a2, a3, a4⟩, _, _, a5⟩, _, _⟩ := (show ObjOk X.prog X.w H s.heap p (dicO (cn X) p xs ep) from I.hok p _ hp)
  have hl : xs.length = us.length := Paired.length t
  refine ⟨o, es, a1, a2, a3, ?_, a5, fun i e he => ?_⟩
  · rw [← Array.length_toList, a4, List.length_map, hl]
  · obtain ⟨u, hu, e2⟩ := eu_at t he
    refine ⟨entryOfKey (nestedKind X.prog X.w) u, ?_, by show Value.ref u.2.1 = _; rw [e2]⟩
    rw [← Array.getElem?_toList, show es.toList = _ from a4, List.getElem?_map, hu]
    rfl
/-- the keys of a dict, in their order -/
def ItkE (C : Cn) (d : Addr) (xs : List DE) (ep : Nat) : It :=
  ⟨fun i H => H d = some (dicO C d xs ep) ∧ i < xs.length, fun i H x H' => H' = H ∧ ∃ e, xs[i]? = some e ∧ x = V.ref e.2.1, fun i H => H d = some (dicO C d xs ep) ∧ xs.length ≤ i⟩
theorem turn_dicE {P : Program} {w : World} {K : PySem.W.Frag} {tg : Expr} {d : Addr} {xs : List DE} {ep : Nat} (it : Addr) : Turn P w K tg (ItkE ⟨P, w, K⟩ d xs ep) [it] it (fun i h => h.IsKeyIter it d i xs.length ep) where
  mem := List.mem_singleton.mpr rfl
  obj := fun i h ⟨o, e, _, dd⟩ b hb => ⟨o, by rw [List.mem_singleton.mp hb]; exact e, fun v z => by rw [dd] at z; cases z⟩
  keep := fun i h h' t k => t.at fun o e => k it (List.mem_singleton.mpr rfl) o e
  item := by
    intro Y hP hw hK hc i ps t τ J E I hf st hg
    subst hP hw hK
    obtain ⟨h1, h2⟩ := hg
    obtain ⟨g0, g1, _, g3, g4, g5⟩ := hf it (List.mem_singleton.mpr rfl)
    obtain ⟨o, es, a1, a2, a3, a4, a5, a6⟩ := dic_raw I h1
    obtain ⟨en, b1, b2⟩ := a6 i _ (List.getElem?_eq_getElem h2)
    refine next_key_item st a1 a3 a4 b1 fun h' st' sb => ⟨en.key, rfl, ?_⟩
    obtain ⟨oi, c1, c2, c3⟩ := id st'
    have I1 : Inv Y ps τ J { t with heap := h' } := I.turned (t' := t.toks) (fun b ob hb e => (sb.2 b hb).trans e) g0 g1 g3 g4 g5
    exact go_of (s := { t with heap := h' }) c1 c2 c3 (by decide) ⟨V.ref _, J, I1, b2, ⟨rfl, _, List.getElem?_eq_getElem h2, rfl⟩, st', fun b hb => (hf b hb).1⟩
  done := by
    intro Y hP hw hK hc i ps t τ J E I hf st hg
    subst hP hw hK
    obtain ⟨h1, h2⟩ := hg
    obtain ⟨g0, g1, _, g3, g4, g5⟩ := hf it (List.mem_singleton.mpr rfl)
    obtain ⟨o, es, a1, a2, a3, a4, a5, a6⟩ := dic_raw I h1
    exact next_key_end (I.ok.hd hc) st a1 a3 a4 h2 fun h' eb => ⟨rfl, I.turned (t' := t.toks) (fun b ob hb e => eb b ob hb e) g0 g1 g3 g4 g5⟩
  self := fun A i t Q E st h => by
    refine wpAny_pyIter_slot st.typeIs PySem.F.slot_dict_keyiterator_iter (wpAny_call_entry PySem.F.slot_dict_keyiterator_iter st.typeIs PySem.F.entry_dict_keyiterator_iter ?_ (PySem.F.args_dict_keyiterator_iter_1 _))
    exact wpAny_pure ⟨_, rfl, "dict_keyiterator", _, st.typeIs, PySem.F.slot_dict_keyiterator_next.lookup, h⟩
/-- any list, tuple or dict -/
def iSeqE (C : Cn) (tl : TE) : TI := fun σ H R => tl σ H fun x H1 => ∃ a, x = .ref a ∧ (((∃ xs, SqL C.K H1 a xs) ∧ R (Itl C.K a) H1 ∨ (∃ xs, SqT C.K H1 a xs) ∧ R (Itt C.K a) H1) ∨ ∃ xs ep, H1 a = some (dicO C a xs ep) ∧ R (ItkE C a xs ep) H1)
theorem pi_seqE {tg l : Expr} {tl : TE} (hl : PE X l tl) : PI X tg l (iSeqE (cn X) tl) := by
  refine ⟨fun ps t τ J R I h => ?_⟩
  refine thn (hl.run ps t τ J _ I h) fun v s1 ⟨x, H1, I1, r1, a, e, q⟩ => ?_
  subst e
  rcases q with q | ⟨xs, ep, hd, q⟩
  · have pv : PE X l (fun _ _ Q => Q (.ref a) H1) ∨ True := .inr trivial
    obtain rfl : v = Value.ref a := r1
    rcases q with ⟨⟨xs, hq⟩, q⟩ | ⟨⟨xs, hq⟩, q⟩
    · obtain ⟨its, rv, pl, hz⟩ := I1.list hq
      refine wpAny_pyIter_list pl.isList (pi_one (tk := s1.toks) I1 _ (turn_list a _) ⟨_, Heap.get?_push_size _ rfl, rfl, rfl⟩ q)
    · obtain ⟨its, rv, pl, hz⟩ := I1.tuple hq
      refine wpAny_pyIter_tuple (show s1.heap.IsTuple a its.toArray from pl) (pi_one (tk := s1.toks) I1 _ (turn_tuple a _) ⟨_, Heap.get?_push_size _ rfl, rfl, rfl⟩ q)
  · obtain rfl : v = Value.ref a := r1
    obtain ⟨o, es, a1, a2, a3, a4, a5, a6⟩ := dic_raw I1 hd
    refine iter_keys a5 a1 a2 a3 (pi_one (tk := s1.toks) I1 _ (turn_dicE (xs := xs) (ep := ep) _) ⟨_, Heap.get?_push_size _ rfl, rfl, ?_⟩ q)
    rw [a4] <;> rfl
end
/-! ### .. on data -/
def seqD : D → Option (List D)
  | .list ds => some ds
  | .tuple ds => some ds
  | .dict kvs => match scrOf kvs with
    | some _ => scrT kvs
    | none => some (kvs.map (·.1))
  | _ => none
def iOf (E : EF) : IF := fun ρ => (E ρ).bind fun p => (seqD p.1).bind fun ds => some (ds, p.2)
def boD : Option Sl → Option D
  | some (.bo d) => some d
  | _ => none
def iBo (i : Nat) : IF := fun ρ => (boD ρ[i]?).bind fun d => (seqD d).bind fun ds => some (ds, ρ)
section
variable {C : Cn} {f f0 : Fr0} {B B' H H' : Hp} {σ : L2.St} {ρ ρ' : En} {ta tb te : TE} {E E1 E2 : EF} {ds ds2 : List D} {a b p : Addr} {vs us : List V} {i : Nat} {d : D} {t : TS} {F : SF}
theorem itok_l (hq : ∀ f2 B2 H2 σ ρ, BoEx f0 f2 → Ex B B2 → Stt C f2 B2 σ H2 ρ → SqL C.K H2 a vs) (h : Dns C B vs ds) : ItOk C f0 B (Itl C.K a) ds := fun f B2 H2 σ ρ i x e S => by
  have hq2 := hq f B2 H2 σ ρ x e S
  refine ⟨fun d hd => ?_, fun hi => ⟨vs, hq2, by rw [h.length, hi]; exact Nat.le_refl _⟩⟩
  obtain ⟨v, hv, hvd⟩ := h.get hd
  refine ⟨⟨vs, v, hq2, hv⟩, fun x H3 ⟨e1, y⟩ => ?_⟩
  have := y vs hq2
  rw [hv] at this
  cases this
  subst e1
  exact ⟨B2, Ex.refl B2, S, hvd.mono e⟩
theorem itok_d {xs : List DE} {ep : Nat} {kvs : List (D × D)} (hq : ∀ f2 B2 H2 σ ρ, BoEx f0 f2 → Ex B B2 → Stt C f2 B2 σ H2 ρ → H2 a = some (dicO C a xs ep)) (h : Ents C B xs kvs) : ItOk C f0 B (ItkE C a xs ep) (kvs.map (·.1)) := fun f B2 H2 σ ρ i x e S => by
  have hq2 := hq f B2 H2 σ ρ x e S
  have hk := h.kdns
  refine ⟨fun d hd => ?_, fun hi => ⟨hq2, by rw [h.length, hi, List.length_map]; exact Nat.le_refl _⟩⟩
  obtain ⟨v, hv, hvd⟩ := hk.get hd
  rw [List.getElem?_map] at hv
  obtain ⟨en, he, rfl⟩ := Option.map_eq_some_iff.mp hv
  refine ⟨⟨hq2, (List.getElem?_eq_some_iff.mp he).1⟩, fun x H3 ⟨e1, en2, he2, e3⟩ => ?_⟩
  rw [he] at he2
  cases he2
  subst e1 e3
  exact ⟨B2, Ex.refl B2, S, hvd.mono e⟩
theorem ei_seqE (h : EE C te E) : EI C (iSeqE C te) (iOf E) := fun f B σ H ρ ds ρ' R S e k => by
  obtain ⟨⟨x, ρ1⟩, e1, z1⟩ := Option.bind_eq_some_iff.mp e
  obtain ⟨ds', e2, z2⟩ := Option.bind_eq_some_iff.mp z1
  cases z2
  refine h f B σ H ρ x _ _ S e1 fun v B1 H1 eb S1 hv => ?_
  have e3 : seqD x = some ds := e2
  unfold seqD at e3
  split at e3
  · cases e3
    cases hv with
    | lst hq hvs => exact ⟨_, rfl, .inl (.inl ⟨⟨_, .inl (S1.bh.rd hq)⟩, k _ B1 H1 eb S1 (itok_list (.inl hq) hvs)⟩)⟩
  · cases e3
    cases hv with
    | tup hq hvs => exact ⟨_, rfl, .inl (.inr ⟨⟨_, S1.bh.t hq⟩, k _ B1 H1 eb S1 (itok_tup hq hvs)⟩)⟩
  · split at e3
    · have := scrT_eq e3
      subst this
      cases hv with
      | scr hq hvs => exact ⟨_, rfl, .inl (.inl ⟨⟨_, S1.bh.l hq⟩, k _ B1 H1 eb S1 (itok_list hq hvs)⟩)⟩
      | dic _ q => exact (ents_no_scr q).elim
    · rename_i hs
      cases e3
      cases hv with
      | scr hq hvs => cases hs
      | odd hq => cases hs
      | dic hq hvs => exact ⟨_, rfl, .inr ⟨_, _, S1.bh _ _ hq, k _ B1 H1 eb S1 (itok_d (fun f2 B2 H2 σ2 ρ2 _ e S => S.bh _ _ (e _ _ hq)) hvs)⟩⟩
  · cases e3
theorem boD_eq {s : Option Sl} (h : boD s = some d) : s = some (.bo d) := by
  unfold boD at h
  split at h
  · cases h; rfl
  · cases h
theorem ei_bo : EI C (iSeqE C (tVar i)) (iBo i) := fun f B σ H ρ ds ρ' R S e k => by
  obtain ⟨d, e1, z1⟩ := Option.bind_eq_some_iff.mp e
  obtain ⟨ds', e2, z2⟩ := Option.bind_eq_some_iff.mp z1
  cases z2
  obtain ⟨p, hi, ev, ho⟩ := S.sl i _ (boD_eq e1)
  obtain ⟨o, ht⟩ := S.bs _ hi
  obtain ⟨hp, _, _⟩ := S.tm _ _ ht
  have stay : ∀ f2 B2 H2 σ2 ρ2, BoEx f f2 → Ex B B2 → Stt C f2 B2 σ2 H2 ρ2 → H2 p = some o := fun f2 B2 H2 σ2 ρ2 x _ S2 => (S2.tm _ _ (x _ hi o ht)).1
  refine ⟨_, ev, p, rfl, ?_⟩
  cases d with
  | list es =>
    obtain ⟨vs, h1, h2⟩ := ho
    have ho1 : o = .lst vs := Option.some.inj (hp.symm.trans h1)
    subst ho1
    cases e2
    exact .inl (.inl ⟨⟨vs, SqL.of h1⟩, k _ B H (Ex.refl B) S (itok_l (fun f2 B2 H2 σ2 ρ2 x e S2 => SqL.of (stay f2 B2 H2 σ2 ρ2 x e S2)) h2)⟩)
  | dict kvs =>
    obtain ⟨xs, ep, h1, h2⟩ := ho
    have ho1 : o = dicO C p xs ep := Option.some.inj (hp.symm.trans h1)
    subst ho1
    have e3 : (match scrOf kvs with | some _ => scrT kvs | none => some (kvs.map (·.1))) = some ds := e2
    rw [scr_none h2] at e3
    cases e3
    exact .inr ⟨xs, ep, h1, k _ B H (Ex.refl B) S (itok_d stay h2)⟩
  | _ => exact ho.elim
/-! ### lending -/
def lendS : Option Sl → Option (Sl × D)
  | some (.ow d) => some (.ow d, d)
  | some (.io d) => some (.io d, d)
  | _ => none
def unlend (s : Sl) (i : Nat) (ρ : En) : Option En := (boD ρ[i]?).map fun d => ρ.set i (s.put d)
def outMap (g : En → Option En) : Out → Option Out
  | .nx ρ => (g ρ).map .nx
  | .rt r ρ => (g ρ).map (.rt r)
  | .bk ρ => (g ρ).map .bk
  | .ct ρ => (g ρ).map .ct
def sBor (i : Nat) (F : SF) : SF := fun ρ => (lendS ρ[i]?).bind fun q => (F (ρ.set i (.bo q.2))).bind (outMap (unlend q.1 i))
def eBor (i : Nat) (E : EF) : EF := fun ρ => (lendS ρ[i]?).bind fun q => (E (ρ.set i (.bo q.2))).bind fun r => (unlend q.1 i r.2).map fun ρ' => (r.1, ρ')
theorem lendS_eq {s : Option Sl} {q : Sl × D} (h : lendS s = some q) : s = some q.1 ∧ Sl.own (some q.1) ∧ slD (some q.1) = some q.2 := by
  unfold lendS at h
  split at h
  · cases h; exact ⟨rfl, trivial, rfl⟩
  · cases h; exact ⟨rfl, trivial, rfl⟩
  · cases h
theorem lend (S : Stt C f B σ H ρ) {q : Sl × D} (h : lendS ρ[i]? = some q) : ∃ f', Stt C f' B σ H (ρ.set i (.bo q.2)) ∧ (∀ p, f'.H0 p = none → f.H0 p = none) ∧ (∀ p, f'.tmp p = none → f.tmp p = none ∧ σ[i]? ≠ some (some (V.ref p))) ∧
    ∀ B' σ' H' ρ' ρ2, Stt C f' B' σ' H' ρ' → unlend q.1 i ρ' = some ρ2 → Stt C f B' σ' H' ρ2 := by
  obtain ⟨h1, h2, h3⟩ := lendS_eq h
  obtain ⟨p, o, a1, a2, a3, a4, a5, a6, a7⟩ := S.bor h1 h2 h3
  refine ⟨borF f i p o, a7, fun r hr => ?_, fun r hr => ⟨?_, fun z => ?_⟩, fun B' σ' H' ρ' ρ2 S' e => ?_⟩
  · have hr' : upd f.H0 p o r = none := hr
    by_cases hp : r = p
    · rw [hp, upd_same] at hr'; cases hr'
    · rw [upd_ne hp] at hr'; exact hr'
  · have hr' : upd f.tmp p o r = none := hr
    by_cases hp : r = p
    · rw [hp, upd_same] at hr'; cases hr'
    · rw [upd_ne hp] at hr'; exact hr'
  · rw [a3] at z
    cases z
    have hr' : upd f.tmp p o p = none := hr
    rw [upd_same] at hr'
    cases hr'
  · obtain ⟨d', e1, rfl⟩ := Option.map_eq_some_iff.mp e
    refine S'.unbor (boD_eq e1) h2 ?_ a5 (fun q' hq e2 => ?_) S.ifn S.bs
    · refine ⟨fun d2 hs => ?_, fun d2 hs => ?_⟩
      · rw [hs] at h1
        obtain ⟨p', g1, g2, _⟩ := S.sl i _ h1
        rw [a3] at g1
        cases g1
        exact g2
      · rw [hs] at h1
        obtain ⟨p', g0, g1, g2, _⟩ := S.sl i _ h1
        rw [a3] at g1
        cases g1
        exact ⟨g0, g2⟩
    · obtain ⟨d2, e3⟩ := S.iof q' hq
      rw [e2, h1] at e3
      exact ⟨d2, Option.some.inj e3⟩
theorem es_bor (h : ES C t F) : ES C t (sBor i F) := fun f B σ H ρ o D S e k => by
  obtain ⟨q, e1, z1⟩ := Option.bind_eq_some_iff.mp e
  obtain ⟨o', e2, z2⟩ := Option.bind_eq_some_iff.mp z1
  obtain ⟨f', S', g1, g2, back⟩ := lend S e1
  refine h f' B σ H _ o' D S' e2 ?_
  cases o' with
  | nx ρ1 =>
    obtain ⟨ρ2, e3, rfl⟩ := Option.map_eq_some_iff.mp z2
    exact fun B' σ' H' eb S2 => k B' σ' H' eb (back _ _ _ _ _ S2 e3)
  | bk ρ1 =>
    obtain ⟨ρ2, e3, rfl⟩ := Option.map_eq_some_iff.mp z2
    exact fun B' σ' H' eb S2 => k B' σ' H' eb (back _ _ _ _ _ S2 e3)
  | ct ρ1 =>
    obtain ⟨ρ2, e3, rfl⟩ := Option.map_eq_some_iff.mp z2
    exact fun B' σ' H' eb S2 => k B' σ' H' eb (back _ _ _ _ _ S2 e3)
  | rt r ρ1 =>
    obtain ⟨ρ2, e3, rfl⟩ := Option.map_eq_some_iff.mp z2
    cases r with
    | sh d => exact fun v B' σ' H' eb S2 hv => k v B' σ' H' eb (back _ _ _ _ _ S2 e3) hv
    | ow d => exact fun p B' σ' H' eb S2 h0 hb ho => k p B' σ' H' eb (back _ _ _ _ _ S2 e3) (g1 p h0) hb ho
    | pr d d2 => exact fun a p u B' σ' H' eb S2 h1 h0 hb ho hu => k a p u B' σ' H' eb (back _ _ _ _ _ S2 e3) h1 (g1 p h0) hb ho hu
theorem ee_bor (h : EE C te E) : EE C te (eBor i E) := fun f B σ H ρ d ρ' Q S e k => by
  obtain ⟨q, e1, z1⟩ := Option.bind_eq_some_iff.mp e
  obtain ⟨⟨d2, ρ1⟩, e2, z2⟩ := Option.bind_eq_some_iff.mp z1
  obtain ⟨ρ2, e3, z3⟩ := Option.map_eq_some_iff.mp z2
  cases z3
  obtain ⟨f', S', g1, g2, back⟩ := lend S e1
  exact h f' B σ H _ _ ρ1 Q S' e2 fun v B' H' eb S2 hv => k v B' H' eb (back _ _ _ _ _ S2 e3) hv
theorem eo_bor (h : EO C te E) : EO C te (eBor i E) := fun f B σ H ρ d ρ' Q S e k => by
  obtain ⟨q, e1, z1⟩ := Option.bind_eq_some_iff.mp e
  obtain ⟨⟨d2, ρ1⟩, e2, z2⟩ := Option.bind_eq_some_iff.mp z1
  obtain ⟨ρ2, e3, z3⟩ := Option.map_eq_some_iff.mp z2
  cases z3
  obtain ⟨f', S', g1, g2, back⟩ := lend S e1
  refine h f' B σ H _ _ ρ1 Q S' e2 fun p B' H' eb S2 h0 ht hb hn ho => k p B' H' eb (back _ _ _ _ _ S2 e3) (g1 p h0) (g2 p ht).1 hb (fun j hj => ?_) ho
  by_cases hij : i = j
  · subst hij
    exact (g2 p ht).2
  · refine hn j ?_
    obtain ⟨d', _, rfl⟩ := Option.map_eq_some_iff.mp e3
    rw [List.getElem?_set_ne hij] at hj
    exact hj
/-! ### xs[::-1], list(d) -/
def gRev : G1
  | .list ds => some (.list ds.reverse)
  | _ => none
theorem eo_rev {ar : Ar} (ha : ArE C ta ar) : EO C (tRevL C.K ta) (eUn gRev ar) := fun f B σ H ρ d ρ' Q S e k => by
  obtain ⟨⟨x, ρ1⟩, e1, q⟩ := Option.bind_eq_some_iff.mp e
  obtain ⟨d', e2, q⟩ := Option.bind_eq_some_iff.mp q
  cases q
  refine ar1 ha S e1 fun v B1 H1 eb S1 hv => ?_
  cases x with
  | list ds =>
    cases e2
    obtain ⟨p, vs, rfl, hq, hvs⟩ := hv.list S1.bh
    exact ⟨p, vs, rfl, hq, fun q hq' => eo_new (d := .list _) S1 hq' (show ∃ us, _ from ⟨_, upd_same, hvs.reverse⟩) fun p B' H' eb' => k p B' H' (eb.trans eb')⟩
  | _ => cases e2
end
section
variable {X : Cx}
def rListE (C : Cn) : List V → Hp → VK → Prop := fun vs H Q => ∃ p xs ep, vs = [.ref p] ∧ H p = some (dicO C p xs ep) ∧ KeysV C.K H xs ∧ ∀ q, H q = none → Q (.ref q) (upd H q (.lst (xs.map fun e => V.ref e.2.1)))
theorem call_listE (hc : X.calm = true) : CallR X (.type "list") (rListE (cn X)) := by
  intro ps s σ H zs ws Q I r h
  obtain ⟨p, ys, ep, rfl, hp, hks, q⟩ := h
  obtain ⟨u, rfl, rx⟩ := vals1 r
  obtain rfl : u = .ref p := rx
  obtain ⟨vs, rr, dd, hz, lo⟩ := dic_of I hp hks
  obtain ⟨es, e0, hraw, hsz, hes⟩ := dd.raw
  have hlen : ys.length = vs.length := Paired.length rr
  refine PySem.W.kdl_call (kdl_raw (es := es) (ep := e0) lo) (I.ok.hd hc) hraw (by omega) fun h' tk acc c' hk' hD hacc => ?_
  have hout : acc.toList = vs.map fun u => Value.ref u.2.1 := by
    refine List.ext_getElem? fun i => ?_
    by_cases hi : i < acc.toList.length
    · have e1 : acc[i]? = some (acc.toList[i]) := by rw [← Array.getElem?_toList]; exact List.getElem?_eq_getElem hi
      obtain ⟨hi2, e2⟩ := hacc.2 i _ e1
      obtain ⟨y, e3, e4, _⟩ := hes i hi2
      rw [List.getElem?_eq_getElem hi, e2, e4, List.getElem?_map, e3]
      rfl
    · have hal : acc.toList.length = vs.length := by rw [Array.length_toList, hacc.1, hsz]
      rw [List.getElem?_eq_none (by omega), List.getElem?_eq_none (by rw [List.length_map]; omega)]
  have hl2 : (ys.map fun e => V.ref e.2.1).length ≤ sizeLine := by rw [List.length_map]; exact hz
  exact ⟨.ref s.heap.objs.size, _, I.laid (t' := tk) hk' (Nat.le_refl _) (show ObjOk X.prog X.w _ h' _ (.lst _) from ⟨hl2, acc.toList, c', by rw [hout]; exact EU.refs rr, hD⟩), rfl, q _ (I.hok.fresh (Nat.le_refl _))⟩
def rListB (C : Cn) : List V → Hp → VK → Prop := fun xs H Q => rListOf C.K xs H Q ∨ rListE C xs H Q
theorem call_listB (hc : X.calm = true) : CallR X (.type "list") (rListB (cn X)) := call_listF.or (call_listE hc)
end
section
variable {C : Cn} {ta : TE}
def gList : G1
  | .dict kvs => if (scrOf kvs).isNone then some (.list (kvs.map (·.1))) else none
  | d => gList0 d
theorem eo_listB {a : Ar} (ha : ArE C ta a) : EO C (tCB (rListB C) (tCons ta tNil)) (eUn gList a) := fun f B σ H ρ d ρ' Q S e k => by
  obtain ⟨⟨x, ρ1⟩, e1, q⟩ := Option.bind_eq_some_iff.mp e
  obtain ⟨d', e2, q⟩ := Option.bind_eq_some_iff.mp q
  cases q
  refine ar1 ha S e1 fun v B1 H1 eb S1 hv => ?_
  cases x with
  | list ds =>
    cases e2
    obtain ⟨p, vs, rfl, hq, hvs⟩ := hv.list S1.bh
    exact .inl ⟨p, vs, rfl, .inl hq, fun l hl => eo_new (d := .list _) S1 hl (show ∃ us, _ from ⟨_, upd_same, hvs⟩) fun p B' H' eb' => k p B' H' (eb.trans eb')⟩
  | tuple ds =>
    cases e2
    obtain ⟨p, vs, rfl, hq, hvs⟩ := hv.tup S1.bh
    exact .inl ⟨p, vs, rfl, .inr hq, fun l hl => eo_new (d := .list _) S1 hl (show ∃ us, _ from ⟨_, upd_same, hvs⟩) fun p B' H' eb' => k p B' H' (eb.trans eb')⟩
  | dict kvs =>
    have e3 : (if (scrOf kvs).isNone = true then some (PyData.list (kvs.map (·.1))) else none) = some d := e2
    split at e3
    · rename_i hs
      cases e3
      obtain ⟨p, xs, ep, rfl, hp, hE⟩ := hv.dict S1.bh (Option.isNone_iff_eq_none.mp hs)
      exact .inr ⟨p, xs, ep, rfl, hp, hE.keys S1.bh, fun l hl => eo_new (d := .list _) S1 hl (show ∃ us, _ from ⟨_, upd_same, hE.kdns⟩) fun p B' H' eb' => k p B' H' (eb.trans eb')⟩
    · cases e3
  | _ => cases e2
end
end Fc
set_option Elab.async false
set_option linter.all false
set_option maxRecDepth 100000
set_option maxHeartbeats 4000000
/-! Fc: tuple * int, list * int. -/
namespace Fc
open PySem L2 PyProof.Rows PySem.Spec
theorem mul_one (l : Addr) (items : Array Value) (n : Nat) (dd : Option Addr) (sl : Array (Option Value)) (x : Int) (u : Tok) (c0 : (decide (x < -(2 ^ 63)) || decide (x ≥ 2 ^ 63)) = false) (c1 : (items.isEmpty || x == 1) = true) :
    Meets (Builtin.«tuple.__mul__» ⟨[.ref l, .int x u], []⟩) (fun _ R s => s.heap.get? l = some { cls := .type "tuple", dict := dd, data := .seq items n, slots := sl } ∧ R (.ok (.ret (Value.ref l))) s) :=
  .of_wp fun prog w A R s h => by
    obtain ⟨hp, g, d, tk, os⟩ := s
    obtain ⟨hl, h⟩ := h
    have f1 := AutoSeq1.idx_int
    wp_walk using wpAny_loadPart' hl
    all_goals (repeat (first
      | (refine wpAny_ite_false (decide_eq_false (by rw [c0]; exact Bool.false_ne_true)) ?_; wp_walk using wpAny_loadPart' hl)
      | (refine wpAny_ite_true (decide_eq_true (by rw [c1])) ?_; wp_walk using wpAny_loadPart' hl)))
    exact ⟨_, rfl, h⟩
theorem mul_none (l : Addr) (items : Array Value) (n : Nat) (dd : Option Addr) (sl : Array (Option Value)) (x : Int) (u : Tok) (c0 : (decide (x < -(2 ^ 63)) || decide (x ≥ 2 ^ 63)) = false) (c1 : (items.isEmpty || x == 1) = false) (c2 : (decide (x ≤ 0) || items.isEmpty) = true) :
    Meets (Builtin.«tuple.__mul__» ⟨[.ref l, .int x u], []⟩) (fun _ R s => s.heap.get? l = some { cls := .type "tuple", dict := dd, data := .seq items n, slots := sl } ∧
      R (.ok (.ret (Value.ref s.heap.objs.size))) { s with heap := s.heap.push { cls := Value.type "tuple", data := Data.seq #[] }, toks := s.toks }) :=
  .of_wp fun prog w A R s h => by
    obtain ⟨hp, g, d, tk, os⟩ := s
    obtain ⟨hl, h⟩ := h
    have f1 := AutoSeq1.idx_int
    wp_walk using wpAny_loadPart' hl
    all_goals (repeat (first
      | (refine wpAny_ite_false (decide_eq_false (by rw [c0]; exact Bool.false_ne_true)) ?_; wp_walk using wpAny_loadPart' hl)
      | (refine wpAny_ite_false (decide_eq_false (by rw [c1]; exact Bool.false_ne_true)) ?_; wp_walk using wpAny_loadPart' hl)
      | (refine wpAny_ite_true (decide_eq_true (by rw [c2])) ?_; wp_walk using wpAny_loadPart' hl)))
    exact ⟨_, rfl, h⟩
def rRep01 (K : PySem.W.Frag) : R2 := fun x y H Q => ∃ l k xs, x = .ref l ∧ y = .int k ∧ SqT K H l xs ∧ xs ≠ [] ∧ k ≤ 1 ∧ -(2 ^ 63) ≤ k ∧ (k = 1 → Q (.ref l) H) ∧ (k ≤ 0 → ∀ p, H p = none → Q (.ref p) (upd H p (.tup [])))
section
variable {X : Cx}
theorem op_rep01 : OpR X (binaryOp .Mult) (rRep01 X.K) := by
  intro ps t τ J x y v u Q I rx ry h
  obtain ⟨l, k, xs, rfl, rfl, hT, hne, h1, h2, q1, q0⟩ := h
  cases rx
  obtain ⟨tk, rfl⟩ := ry
  obtain ⟨its, r, ⟨⟨cls, dd, data, sl⟩, ho, hc, n, hd⟩, hs⟩ := I.tuple hT
  simp only at hc hd
  subst hc hd
  have hi : its.toArray.isEmpty = false := by
    cases its with
    | nil =>
      have := r.length
      exact absurd (List.eq_nil_of_length_eq_zero this) hne
    | cons a b => rfl
  have c0 : (decide (k < -(2 ^ 63)) || decide (k ≥ 2 ^ 63)) = false := by
    rw [decide_eq_false (by omega), decide_eq_false (by omega)] <;> rfl
  by_cases hk : k = 1
  · have c1 : (its.toArray.isEmpty || k == 1) = true := by rw [hi, hk]; rfl
    refine wpAny_binaryOp_repeat_ref (T := "tuple") (U := "int") (by decide) ⟨_, ho, rfl⟩ (fun s' => typeIs_int s' k tk) noFill_tuple_mul PySem.F.fills_int_mul PySem.F.slot_int_rmul repeat_tuple PySem.F.slot_int_index.lookup
      (call_meets PySem.F.slot_int_rmul (typeIs_int t k tk) PySem.F.entry_int_rmul (PySem.F.args_int_rmul_2 _ _) (int_rmul_tuple k tk l its.toArray n dd sl)
        ⟨ho, rfl, ⟨_, ho, rfl⟩, call_meets PySem.F.slot_tuple_mul ⟨_, ho, rfl⟩ PySem.F.entry_tuple_mul (PySem.F.args_tuple_mul_2 _ _) (mul_one l its.toArray n dd sl k tk c0 c1) ⟨ho, ?_⟩⟩)
    exact ⟨.ref l, J, I, rfl, q1 hk⟩
  · have c1 : (its.toArray.isEmpty || k == 1) = false := by
      rw [hi, Bool.false_or]
      exact beq_eq_false_iff_ne.mpr hk
    have c2 : (decide (k ≤ 0) || its.toArray.isEmpty) = true := by rw [decide_eq_true (by omega)]; rfl
    refine wpAny_binaryOp_repeat_ref (T := "tuple") (U := "int") (by decide) ⟨_, ho, rfl⟩ (fun s' => typeIs_int s' k tk) noFill_tuple_mul PySem.F.fills_int_mul PySem.F.slot_int_rmul repeat_tuple PySem.F.slot_int_index.lookup
      (call_meets PySem.F.slot_int_rmul (typeIs_int t k tk) PySem.F.entry_int_rmul (PySem.F.args_int_rmul_2 _ _) (int_rmul_tuple k tk l its.toArray n dd sl)
        ⟨ho, rfl, ⟨_, ho, rfl⟩, call_meets PySem.F.slot_tuple_mul ⟨_, ho, rfl⟩ PySem.F.entry_tuple_mul (PySem.F.args_tuple_mul_2 _ _) (mul_none l its.toArray n dd sl k tk c0 c1 c2) ⟨ho, ?_⟩⟩)
    refine ⟨.ref t.heap.objs.size, _, I.laid (t' := t.toks) (o := .tup []) (fun b ob q => Heap.get?_push_of_some _ q) (Nat.le_refl _) ?_, rfl, q0 (by omega) _ (I.hok.fresh (Nat.le_refl _))⟩
    exact ⟨Nat.zero_le _, _, .nil, IsTup.new _ _⟩
theorem rmul_listG (a : Int) (t : Tok) (l : Addr) (items : Array Value) (n : Nat) (dd : Option Addr) (sl : Array (Option Value)) :
    Meets (Builtin.«int.__rmul__» ⟨[.int a t, .ref l], []⟩) (fun _ R s => s.heap.get? l = some { cls := .type "list", dict := dd, data := .seq items n, slots := sl } ∧ R (.ok (.ret Value.notImplemented)) s) :=
  .of_wp fun prog w A R s h => by obtain ⟨hp, g, d, tk, os⟩ := s; obtain ⟨h1, h2⟩ := h; wp_walk using wpAny_loadPart' h1; exact ⟨_, rfl, h2⟩
theorem mul_listG (l : Addr) (items : Array Value) (n : Nat) (dd : Option Addr) (sl : Array (Option Value)) (x : Int) (u : Tok) (hc0 : ¬(!Builtin.List.listFitsIndex x) = true) (hc1 : ¬items.size * x.toNat > (2 ^ 63 - 1) / 8) (hc2 : ¬Builtin.List.listTooLong (items.size * x.toNat) = true) :
    Meets (Builtin.«list.__mul__» ⟨[.ref l, .int x u], []⟩) (fun _ R s => s.heap.get? l = some { cls := .type "list", dict := dd, data := .seq items n, slots := sl } ∧ R (.ok (.ret (Value.ref s.heap.objs.size))) { s with heap := s.heap.push { cls := Value.type "list", data := Data.seq (List.foldl (fun x1 x2 => x1 ++ x2) #[] (List.replicate (if items.isEmpty = true then 0 else x.toNat) items)) }, toks := s.toks }) :=
  .of_wp fun prog w A R s h => by
    obtain ⟨hp, g, d, tk, os⟩ := s
    obtain ⟨h1, h2⟩ := h
    have hsz := PySem.AutoListH.joined_fits hc2
    wp_walk using wpAny_loadPart' h1
    refine wpAny_ite_false (decide_eq_false (Nat.not_lt.mpr hsz)) ?_
    wp_walk using wpAny_loadPart' h1
    exact ⟨_, rfl, h2⟩
def rRepL (K : PySem.W.Frag) : R2 := fun x y H Q => ∃ l k xs, x = .ref l ∧ y = .int k ∧ SqL K H l xs ∧ -(2 ^ 63) ≤ k ∧ k < 2 ^ 63 ∧ xs.length * k.toNat ≤ sizeLine ∧ ∀ p, H p = none → Q (.ref p) (upd H p (.lst (List.replicate k.toNat xs).flatten))
theorem op_repL : OpR X (binaryOp .Mult) (rRepL X.K) := by
  intro ps t τ J x y v u Q I rx ry h
  obtain ⟨l, k, xs, rfl, rfl, hL, h1, h2, hz, q⟩ := h
  cases rx
  obtain ⟨tk, rfl⟩ := ry
  obtain ⟨its, r, pl, _⟩ := I.list hL
  obtain ⟨⟨cls, dd, data, sl⟩, ho, hc, n, hd⟩ := pl.isList
  simp only at hc hd
  subst hc hd
  have hle : its.length = xs.length := r.length.symm
  have a1 : its.toArray.size * k.toNat ≤ sizeLine := by rw [List.size_toArray, hle]; exact hz
  have a2 : ¬ its.toArray.size * k.toNat > (2 ^ 63 - 1) / 8 := by
    have : (sizeLine : Nat) ≤ (2 ^ 63 - 1) / 8 := by decide
    omega
  have a3 : ¬ (!Builtin.List.listFitsIndex k) = true := by rw [fitsIndex_both h1 h2]; exact Bool.false_ne_true
  have a4 : ¬ Builtin.List.listTooLong (its.toArray.size * k.toNat) = true := by rw [notLongL a1]; exact Bool.false_ne_true
  have a5 : List.foldl (fun x1 x2 => x1 ++ x2) #[] (List.replicate (if its.toArray.isEmpty = true then 0 else k.toNat) its.toArray) = (List.replicate k.toNat its).flatten.toArray := by
    rw [size_rep]
    cases its with
    | nil => simp
    | cons a r' => rw [if_neg (by simp)]
  have a6 : (List.replicate k.toNat xs).flatten.length ≤ sizeLine := by rw [PyProof.Rows.lm_len_rep_flat, Nat.mul_comm]; exact hz
  refine wpAny_binaryOp_repeat_ref (T := "list") (U := "int") (by decide) ⟨_, ho, rfl⟩ (fun s' => typeIs_int s' k tk) noFill_list_mul PySem.F.fills_int_mul PySem.F.slot_int_rmul repeat_list PySem.F.slot_int_index.lookup
    (call_meets PySem.F.slot_int_rmul (typeIs_int t k tk) PySem.F.entry_int_rmul (PySem.F.args_int_rmul_2 _ _) (rmul_listG k tk l its.toArray n dd sl)
      ⟨ho, rfl, ⟨_, ho, rfl⟩, call_meets PySem.F.slot_list_mul ⟨_, ho, rfl⟩ PySem.F.entry_list_mul (PySem.F.args_list_mul_2 _ _) (mul_listG l its.toArray n dd sl k tk a3 a2 a4) ⟨ho, ?_⟩⟩)
  rw [a5]
  exact ⟨.ref _, _, I.lnew (t' := t.toks) (r.rep k.toNat) a6, rfl, q _ I.fresh⟩
def rMulA (C : Cn) : R2 := fun x y H Q => rI CMul (fun i j => .int (i * j)) x y H Q ∨ rRepT C.K x y H Q ∨ rRep01 C.K x y H Q ∨ rRepL C.K x y H Q
theorem op_mulA : OpR X (binaryOp .Mult) (rMulA (cn X)) := op_mul.or (op_repT.or (op_rep01.or op_repL))
end
section
variable {C : Cn} {f : Fr0} {B B' H H' : Hp} {σ : L2.St} {ρ ρ' : En}
noncomputable def repOk : Nat → Int → Bool := hide fun n k => decide (n ≤ 1000 ∧ -1000000 ≤ k ∧ k ≤ 1000)
theorem repOk_eq (n : Nat) (k : Int) : repOk n k = decide (n ≤ 1000 ∧ -1000000 ≤ k ∧ k ≤ 1000) := by unfold repOk; rw [hide_eq]
noncomputable def gMulA : G2
  | .tuple ds, .int k => if ds ≠ [] ∧ repOk ds.length k = true then some (.tuple (List.replicate k.toNat ds).flatten) else none
  | .list ds, .int k => if repOk ds.length k = true then some (.list (List.replicate k.toNat ds).flatten) else none
  | x, y => gMul x y
theorem rb_mulA : RB C (rMulA C) gMulA := fun f B σ H ρ x y a b d Q S hx hy e k => by
  have old : gMul a b = some d → rMulA C x y H Q := fun e => .inl (rb_mul f B σ H ρ x y a b d Q S hx hy e k)
  unfold gMulA at e
  split at e
  · rename_i ds n
    split at e
    · rename_i hc
      obtain ⟨h0, h1⟩ := hc
      rw [repOk_eq] at h1
      have h1 := of_decide_eq_true h1
      cases e
      obtain ⟨p, vs, rfl, hv, hvs⟩ := hx.tup S.bh
      have hl := hvs.length
      have hne : vs ≠ [] := fun z => h0 (by rw [z] at hl; exact List.eq_nil_of_length_eq_zero hl.symm)
      have hy := hy.int
      by_cases h2 : 2 ≤ n
      · refine .inr (.inl ⟨p, n, vs, rfl, hy, hv, hne, h2, h1.2.2, by omega, fun q hq => ?_⟩)
        have nb := S.bh.free hq
        exact k _ _ _ (Ex.new nb) (S.alloc hq) (.tup (SqT.of upd_same) ((Dns.rep hvs n.toNat).mono (Ex.new nb)))
      · refine .inr (.inr (.inl ⟨p, n, vs, rfl, hy, hv, hne, by omega, by omega, fun h3 => ?_, fun h3 q hq => ?_⟩))
        · subst h3
          have e1 : (List.replicate (1 : Int).toNat ds).flatten = ds := by simp
          rw [e1] at k
          rcases hx with hx | ⟨_, _, hx⟩
          · exact k _ B H (Ex.refl B) S hx
          · exact hx.elim
        · have e1 : n.toNat = 0 := by omega
          rw [e1] at k
          have nb := S.bh.free hq
          exact k _ _ _ (Ex.new nb) (S.alloc hq) (.tup (SqT.of upd_same) .nil)
    · cases e
  · rename_i ds n
    split at e
    · rename_i h1
      rw [repOk_eq] at h1
      have h1 := of_decide_eq_true h1
      cases e
      obtain ⟨p, vs, rfl, hv, hvs⟩ := hx.list S.bh
      have hl := hvs.length
      refine .inr (.inr (.inr ⟨p, n, vs, rfl, hy.int, hv, by omega, by omega, ?_, fun q hq => ?_⟩))
      · have a1 : vs.length * n.toNat ≤ 1000 * 1000 := Nat.mul_le_mul (by omega) (by omega)
        exact lim_line (by omega)
      · have nb := S.bh.free hq
        exact k _ _ _ (Ex.new nb) (S.alloc hq) (.lst (Rd.of upd_same) ((Dns.rep hvs n.toNat).mono (Ex.new nb)))
    · cases e
  · exact old e
end
/-! ### xs.extend(t), t a tuple -/
theorem ext_tupG (l : Addr) (items : Array Value) (n : Nat) (b : Addr) (items2 : Array Value) (n2 : Nat) (dd : Option Addr) (sl : Array (Option Value)) (hs0 : ¬(!items.isEmpty && Builtin.List.listTooLong (items.size + items2.size)) = true) (hs1 : items.size ≤ sizeLine) (hs2 : items.size + items2.size ≤ sizeLine + 1) :
    Meets (Builtin.«list.extend» ⟨[.ref l, .ref b], []⟩) (fun _ R s => s.heap.get? l = some { cls := .type "list", dict := none, data := .seq items n, slots := #[] } ∧ s.heap.get? b = some { cls := .type "tuple", dict := dd, data := .seq items2 n2, slots := sl } ∧ R (.ok (.ret Value.none)) { s with heap := s.heap.update l (Obj.mapSeq fun x => x ++ items2), toks := s.toks }) :=
  .of_wp fun prog w A R s h => by
    obtain ⟨hp, g, d, tk, os⟩ := s
    obtain ⟨h1, h2, h3⟩ := h
    have f2 := AutoSeq1.sub_tuple_tuple
    have f4 := AutoSeq1.sub_tuple_list
    have f3 := AutoSeq1.sub_list_list
    have f5 := AutoSeq1.sub_list_tuple
    have hz' : (items ++ items2).size ≤ sizeLine + 1 := by rw [Array.size_append]; exact hs2
    wp_walk using (wpAny_updateSeq h1 rfl (hz := hs1) (_hz' := hz')), wpAny_loadPart' h1, wpAny_loadPart' h2
    exact ⟨_, rfl, h3⟩
def rExtT (K : PySem.W.Frag) : V → List V → Hp → VK → Prop := fun x vs H Q => ∃ l b xs zs, x = .ref l ∧ vs = [.ref b] ∧ H l = some (.lst xs) ∧ SqT K H b zs ∧ xs.length + zs.length ≤ sizeLine ∧ Q .non (upd H l (.lst (xs ++ zs)))
theorem mt_extT {X : Cx} : MtM X "list.extend" (rExtT X.K) := by
  intro ps t τ J x vs v us Q I rx rv h
  obtain ⟨l, b, xs, zs, rfl, rfl, hH, hB, hz, q⟩ := h
  cases rx
  obtain ⟨u, rfl, ru⟩ := rv.one
  cases ru
  obtain ⟨z, its, n, r, hl, e⟩ := I.lstM hH
  obtain ⟨its2, r2, ⟨⟨cls, dd, data, sl⟩, ho, hc, n2, hd⟩, hs⟩ := I.tuple hB
  simp only at hc hd
  subst hc hd
  have hl2 : its2.length = zs.length := r2.length.symm
  have hsz : its.toArray.size + its2.toArray.size ≤ sizeLine := by rw [List.size_toArray, List.size_toArray]; omega
  have hlong : ¬ (!its.toArray.isEmpty && Builtin.List.listTooLong (its.toArray.size + its2.toArray.size)) = true := by
    rw [notLongL hsz, Bool.and_false]
    exact Bool.false_ne_true
  refine call_meets PySem.F.slot_list_extend ⟨_, e, rfl⟩ PySem.F.entry_list_extend (PySem.F.args_list_extend_2 _ _)
    (ext_tupG l its.toArray n b its2.toArray n2 dd sl hlong (by rw [List.size_toArray]; omega) (by omega)) ⟨e, ho, ?_⟩
  refine ⟨.non, _, I.lset (its' := its ++ its2) hH e (by simp) (r.append r2) ?_, rfl, q⟩
  rw [List.length_append]
  omega
def rExtA (K : PySem.W.Frag) : V → List V → Hp → VK → Prop := fun x vs H Q => rExtR x vs H Q ∨ rExtT K x vs H Q
theorem MtM.or2 {X : Cx} {id : String} {r r' : V → List V → Hp → VK → Prop} (h : MtM X id r) (h' : MtM X id r') : MtM X id (fun x vs H Q => r x vs H Q ∨ r' x vs H Q) := by
  intro ps t τ J x vs v us Q I rx rv q
  rcases q with q | q
  · exact h ps t τ J x vs v us Q I rx rv q
  · exact h' ps t τ J x vs v us Q I rx rv q
theorem mt_extA {X : Cx} : MtM X "list.extend" (rExtA X.K) := MtM.or2 mt_extR mt_extT
section
variable {C : Cn} {te : TE} {E : EF}
def extD (i : Nat) (ds : List D) (x : D) (ρ : En) : Option (D × En) := match x with
  | .list es => if ds.length + es.length ≤ 1000000 then some (.none, put1 i (.list (ds ++ es)) ρ) else none
  | .tuple es => if ds.length + es.length ≤ 1000000 then some (.none, put1 i (.list (ds ++ es)) ρ) else none
  | _ => none
def eExt (i : Nat) (E : EF) : EF := fun ρ => (ownL ρ[i]?).bind fun _ => (E ρ).bind fun p => (ownL p.2[i]?).bind fun ds => extD i ds p.1 p.2
theorem ee_ext {i : Nat} (h : EE C te E) : EE C (tBM C.K "list" (rExtA C.K) (tVar i) (tCons te tNil)) (eExt i E) := fun f B σ H ρ d ρ' Q S e k => by
  obtain ⟨ds0, e0, z0⟩ := Option.bind_eq_some_iff.mp e
  obtain ⟨⟨x, ρ1⟩, e1, z1⟩ := Option.bind_eq_some_iff.mp z0
  obtain ⟨ds, e2, z2⟩ := Option.bind_eq_some_iff.mp z1
  simp only at z2 e2
  obtain ⟨p0, s0, _, _, ev, _, vs0, hv0, _⟩ := S.owned (ownL_D e0)
  unfold extD at z2
  split at z2
  · rename_i es
    split at z2
    · rename_i hl
      cases z2
      refine ⟨_, ev, .inl ⟨rfl, vs0, SqL.of hv0⟩, h f B σ H ρ _ ρ1 _ S e1 fun v B1 H1 eb S1 hv => ?_⟩
      obtain ⟨p, s, hs, hw, ev1, hb, vs, hvs, hds⟩ := S1.owned (ownL_D e2)
      rw [ev] at ev1
      cases ev1
      cases hv with
      | lst hq hes =>
        refine .inl ⟨p0, _, vs, _, rfl, rfl, hvs, S1.bh.rd hq, lim_line (by rw [hds.length, hes.length]; exact hl), ?_⟩
        exact k .non B1 _ eb (S1.put (d := .list (ds ++ es)) hs hw ev (show ∃ us, _ from ⟨_, upd_same, hds.append hes⟩)) .non
    · cases z2
  · rename_i es
    split at z2
    · rename_i hl
      cases z2
      refine ⟨_, ev, .inl ⟨rfl, vs0, SqL.of hv0⟩, h f B σ H ρ _ ρ1 _ S e1 fun v B1 H1 eb S1 hv => ?_⟩
      obtain ⟨p, s, hs, hw, ev1, hb, vs, hvs, hds⟩ := S1.owned (ownL_D e2)
      rw [ev] at ev1
      cases ev1
      cases hv with
      | tup hq hes =>
        refine .inr ⟨p0, _, vs, _, rfl, rfl, hvs, S1.bh.t hq, lim_line (by rw [hds.length, hes.length]; exact hl), ?_⟩
        exact k .non B1 _ eb (S1.put (d := .list (ds ++ es)) hs hw ev (show ∃ us, _ from ⟨_, upd_same, hds.append hes⟩)) .non
    · cases z2
  · cases z2
end
end Fc
set_option Elab.async false
set_option linter.all false
set_option maxRecDepth 100000
set_option maxHeartbeats 4000000
/-! Fc: a call that is handed a fresh object, which is dropped behind it. -/
namespace Fc
open PySem L2 PyProof.Rows PySem.Spec
section
variable {C : Cn} {f : Fr0} {B B' H H' : Hp} {σ : L2.St} {ρ ρ' : En} {te : TE} {E1 : EF} {cs : List CA} {ta : TA}
def eCallF (E1 : EF) (cs : List CA) (fn : List D → Option (Rs × List D)) : EF := fun ρ => (E1 ρ).bind fun q1 => (runC cs q1.2).bind fun p => (getC cs p.1 p.2).bind fun ds => (fn (q1.1 :: ds)).bind fun q => match q.1 with
  | .sh d => some (d, putL (ioI cs) q.2.tail p.2)
  | _ => none
theorem ee_callF {fn : List D → Option (Rs × List D)} {XE : XK} {ks : List Bool} (h1 : EO C te E1) (ha : EAC C ta cs) (hks : ks = true :: cs.map CA.k := by rfl) (hnd : (ioI cs).Nodup := by decide) :
    EE C (tCall (spD C ks fn) [] XE (tCons te ta)) (eCallF E1 cs fn) := fun f B σ H ρ d ρ' Q S e k => by
  obtain ⟨⟨d1, ρ1⟩, e1, z0⟩ := Option.bind_eq_some_iff.mp e
  obtain ⟨⟨ds0, ρ2⟩, e2, z1⟩ := Option.bind_eq_some_iff.mp z0
  obtain ⟨ds, e3, z2⟩ := Option.bind_eq_some_iff.mp z1
  obtain ⟨⟨r, es⟩, e4, z3⟩ := Option.bind_eq_some_iff.mp z2
  cases r with
  | ow d' => cases z3
  | pr _ _ => cases z3
  | sh d' =>
    cases z3
    subst hks
    refine h1 f B σ H ρ d1 ρ1 _ S e1 fun p B1 H1 eb1 S1 h0 ht hb hn ho => ?_
    obtain ⟨o, eo⟩ := ho.got
    have S1t := S1.tell (p := p) (o := o) eo hb hn
    refine ha _ B1 σ H1 ρ1 ds0 ρ2 _ S1t e2 fun vs B2 H2 eb2 S2t hv => ?_
    have htm : ∀ o', f.tmp p = some o' → False := fun o' z => by rw [ht] at z; cases z
    obtain ⟨hp2, hb2, hn2⟩ := S2t.tm p o (show upd f.tmp p o p = some o from upd_same)
    have S2 : Stt C f B2 σ H2 ρ2 := S2t.untell (Ex.new ht) S1.bs
    have ho2 : OwnAt C B2 H2 p d1 := ho.mono eb2 fun u z => by rw [eo] at z; cases z; exact hp2
    obtain ⟨a1, a2⟩ := hold_args S2 hv e3
    have hpn : p ∉ ioA (cs.map CA.k) vs := fun hm => by
      obtain ⟨i, _, h3, h4⟩ := paired_mem a2 hm
      exact hn2 i h3 h4
    refine ⟨B2, d1 :: ds, .sh d, es, S2.bh, ?_, ?_, e4, ?_⟩
    · show ArgRel C B2 H2 (true :: cs.map CA.k) (V.ref p :: vs ++ []) (d1 :: ds)
      rw [List.append_nil]
      exact .io hb2 ho2 a1
    · show (ioA (true :: cs.map CA.k) (V.ref p :: vs ++ [])).Nodup
      rw [List.append_nil]
      exact List.nodup_cons.mpr ⟨hpn, ioA_nodup S2 a2 hnd⟩
    · show ∀ v B' H', Ex B2 B' → Ex B' H' → (∀ a o, H2 a = some o → a ∉ ioA (true :: cs.map CA.k) (V.ref p :: vs ++ []) → H' a = some o) → (∀ a, H2 a ≠ none → H' a ≠ none) → (∀ a, H2 a ≠ none → B2 a = none → B' a = none) → Paired (fun p d => OwnAt C B' H' p d) (ioA (true :: cs.map CA.k) (V.ref p :: vs ++ [])) es → RsOk C B' H2 H' v (.sh d) → _
      rw [List.append_nil]
      intro v B' H' eb' bh keep there nb he hr
      obtain ⟨o', eo'⟩ : ∃ o', H' p = some o' := by
        cases q : H' p with
        | none => exact absurd q (there p (by rw [hp2]; exact fun z => nomatch z))
        | some o' => exact ⟨o', rfl⟩
      have S2u : Stt C f B2 σ (upd H2 p o') ρ2 := S2.touch h0 ht hb2 hn2
      have he2 : Paired (fun p d => OwnAt C B' H' p d) (ioA (cs.map CA.k) vs) es.tail := by
        cases he with
        | cons _ t => exact t
      refine k v B' H' (eb1.trans (eb2.trans eb')) (S2u.called a2 hnd he2 eb' bh (fun a u h hm => ?_) (fun a h => ?_) (fun a h h' => ?_)) hr
      · by_cases q : a = p
        · subst q
          rw [upd_same] at h
          rw [eo', h]
        · rw [upd_ne q] at h
          exact keep a u h fun z => by
            rcases List.mem_cons.mp z with z | z
            · exact q z
            · exact hm z
      · by_cases q : a = p
        · subst q
          rw [eo']
          exact fun z => nomatch z
        · rw [upd_ne q] at h
          exact there a h
      · by_cases q : a = p
        · subst q
          exact nb a (by rw [hp2]; exact fun z => nomatch z) h'
        · rw [upd_ne q] at h
          exact nb a h h'
end
end Fc
set_option Elab.async false
set_option linter.all false
set_option maxRecDepth 100000
set_option maxHeartbeats 1000000
/-! Fc: d.update(e). -/
namespace Fc
open PySem L2 PyProof.Rows
/-! ### methods of dicts -/
def isE (C : Cn) (x : V) (H : Hp) : Prop := ∃ p xs ep, x = V.ref p ∧ H p = some (dicO C p xs ep)
def tBE (C : Cn) (r : V → List V → Hp → VK → Prop) (to : TE) (t : TA) : TE := fun σ H Q => to σ H fun x J => isE C x J ∧ t σ J fun xs M => r x xs M Q
section
variable {X : Cx} {pins : List (Addr × Obj)} {σ : L2.St} {H : Hp} {s : Shared}
theorem isE_is {x : V} {v : Value} (I : Inv X pins σ H s) (r : RelV x v) (h : isE (cn X) x H) : s.TypeIs v "dict" ∧ ∀ a, v = .ref a → ∃ ob, s.heap.get? a = some ob ∧ ob.dict = none := by
  obtain ⟨p, xs, ep, rfl, hp⟩ := h
  cases r
  obtain ⟨⟨us, _, ⟨o, es, g1, g2, _⟩, _⟩, _, _⟩ := (show ObjOk X.prog X.w H s.heap p (dicO (cn X) p xs ep) from I.hok p _ hp)
  refine ⟨⟨o, g1, g2.1⟩, fun a e => ?_⟩
  cases e
  exact ⟨o, g1, g2.2.1⟩
theorem pe_bmE {o a0 : Expr} {ar : List Expr} {to : TE} {t : TA} {nm : Str} {ap pc : Pos} {id : String} {r : V → List V → Hp → VK → Prop} (sl : Slot "dict" nm id) (ht : typeOf (.builtin id) = pure (.type "method_descriptor")) (mt : MtM X id r) (po : PE X o to) (pa : PA X (a0 :: ar) t)
    (q1 : attributeBase o nm X.env (eval o X.env) = eval o X.env := by rfl)
    (q2 : ((backTo pc (starEach (a0 :: ar) X.env)).all (fun x => !x.1) && (backToKw pc (keywordEach [] X.env)).all (fun x => x.1.isSome) && decide ((a0 :: ar).length + ([] : List Keyword).length + (if ([] : List Keyword).isEmpty then 0 else 1) < 30)) = true := by rfl)
    (q3 : (ap.endLine == pc.line) = true := by rfl) (q4 : starEach (a0 :: ar) X.env = (false, eval a0 X.env) :: starEach ar X.env := by rfl) (q5 : (backTo pc (starEach ar X.env)).any (·.1) = false := by rfl) :
    PE X (.Call (.Attribute o nm ap) (a0 :: ar) [] pc) (tBE (cn X) r to t) :=
  ⟨fun ps s τ J Q I h => wpAny_Call_method_late q1 q2 q3 rfl (thn (po.run ps s τ J _ I h) fun v s1 ⟨x, J1, I1, r1, ty, z1⟩ => by
    obtain ⟨h1, h2⟩ := isE_is I1 r1 ty
    have z2 := pa.run pc ps s1 τ J1 _ I1 z1
    rw [q4] at z2
    refine ⟨"dict", id, PySem.F.plainAttrs_dict, sl, ht, h1, h2, ?_⟩
    rw [q4]
    refine Calls.callWith_builtin (by show (false || (backTo pc (starEach ar X.env)).any (·.1)) = false; rw [q5]; rfl) ?_
    exact Calls.evalArgs_plain (thn z2 fun us s2 ⟨vs, J2, I2, r2, z3⟩ => mt ps s2 τ J2 x vs v us Q I2 r1 r2 z3))⟩
/-! ### the entries of one put into another -/
def putsE (xs ys : List DE) : List DE := ys.foldl (fun acc e => putE acc e.1 e.2.1 e.2.2) xs
theorem EU.puts : ∀ {ys : List DE} {ws : List (NestedKey × Addr × Value)}, EU ys ws → ∀ {xs : List DE} {us : List (NestedKey × Addr × Value)}, EU xs us → EU (putsE xs ys) (storedAllH us ws)
  | _, _, .nil, _, _, t => t
  | _, _, .cons (a := e) (b := b) q r, xs, us, t => by
    obtain ⟨e1, e2, e3⟩ := e
    obtain ⟨b1, b2, b3⟩ := b
    obtain ⟨g1, g2, g3⟩ := q
    simp only at g1 g2 g3
    subst g1 g2
    exact EU.puts r (EU.put e1 g3 t)
theorem putsE_length : ∀ (ys xs : List DE), (putsE xs ys).length ≤ xs.length + ys.length
  | [], xs => Nat.le_refl _
  | e :: ys, xs => by
    have h1 := putsE_length ys (putE xs e.1 e.2.1 e.2.2)
    have h2 := putE_length xs e.1 e.2.1 e.2.2
    have h3 : putsE xs (e :: ys) = putsE (putE xs e.1 e.2.1 e.2.2) ys := rfl
    rw [h3, List.length_cons]
    omega
def rUpdE (C : Cn) : V → List V → Hp → VK → Prop := fun x vs H Q => ∃ p q xs ys e1 e2, x = V.ref p ∧ vs = [V.ref q] ∧ p ≠ q ∧ H p = some (dicO C p xs e1) ∧ H q = some (dicO C q ys e2) ∧ KeysV C.K H xs ∧ KeysV C.K H ys ∧
  (xs ≠ [] ∨ (ys.map fun e => e.1.hash C.w).Nodup) ∧ xs.length + ys.length ≤ sizeLine ∧ ∀ ep, Q .non (upd H p (dicO C p (putsE xs ys) ep))
theorem mt_updE (hu : X.A.units + 64 < cLine) : MtM X "dict.update" (rUpdE (cn X)) := by
  intro ps t τ J x vs v us Q I rx rv h
  obtain ⟨p, q, xs, ys, e1, e2, rfl, rfl, hpq, hp, hq, k1, k2, hh, hz, z⟩ := h
  cases rx
  obtain ⟨u, rfl, ru⟩ := rv.one
  cases ru
  obtain ⟨us1, r1, dd1, z1, hd1⟩ := dic_of I hp k1
  obtain ⟨us2, r2, dd2, z2, hd2⟩ := dic_of I hq k2
  have l1 : xs.length = us1.length := Paired.length r1
  have l2 : ys.length = us2.length := Paired.length r2
  have hm : us2.map (fun u => (nestedKind X.prog X.w).hash u.1) = ys.map fun e => e.1.hash X.w := by
    have := congrArg (List.map fun n : NestedKey => n.hash X.w) (EU.keys r2)
    rw [List.map_map, List.map_map] at this
    exact this.symm
  refine call_update_dictH (knd := nestedKind X.prog X.w) (by show X.A.units + 1 + 8 < cLine; omega) hpq hd2 dd1 dd2 ?_ (by omega) fun h' dd' _ hs => ?_
  · rcases hh with hh | hh
    · exact .inl fun z => hh (List.eq_nil_of_length_eq_zero (by rw [l1, z]; rfl))
    · refine .inr ⟨fun u hu => ?_, by rw [hm]; exact hh⟩
      obtain ⟨_, _, _, _, _, _, _, his, _⟩ := dd2
      have hi := (his u hu).1
      generalize u.1 = n at hi
      cases hi with
      | tup h1 h2 _ _ => exact ⟨_, h1, h2⟩
  · have he : ∃ w, h'.get? p = some w := let ⟨w, _, _, hw, _⟩ := dd'; ⟨w, hw⟩
    obtain ⟨ep2, ok⟩ := dic_new (C := cn X) (H := upd J p (dicO (cn X) p (putsE xs ys) 0)) (r2.puts r1) dd' (by have := putsE_length ys xs; omega) hd1
    exact ⟨.non, _, d_write I (by rw [hp]; exact True.intro) hs he ok, rfl, z ep2⟩
end
section
variable {C : Cn} {f : Fr0} {B H : Hp} {te : TE} {E : EF}
def putsK (kvs more : List (D × D)) : List (D × D) := more.foldl (fun acc e => (keyOf e.1).elim acc fun n => putK' acc e.1 n e.2) kvs
theorem Ents.puts : ∀ {ys : List DE} {more : List (D × D)}, Ents C B ys more → ∀ {xs : List DE} {kvs : List (D × D)}, Ents C B xs kvs → Ents C B (putsE xs ys) (putsK kvs more)
  | _, _, .nil, _, _, t => t
  | _, _, .cons (n := n) (k := k) hk kn kd hv r, xs, kvs, t => by
    have h := Ents.puts r (Ents.put hk kn kd hv t)
    unfold putsK at h ⊢
    rw [List.foldl_cons]
    simp only [kn, Option.elim_some]
    exact h
theorem Ents.hashes (w : World) : ∀ {ys : List DE} {more : List (D × D)}, Ents C B ys more → (ys.map fun e => e.1.hash w) = (more.filterMap fun e => keyOf e.1).map fun n => n.hash w
  | _, _, .nil => rfl
  | _, _, .cons (n := n) (k := k) hk kn kd hv r => by
    rw [List.map_cons, List.filterMap_cons]
    simp only [kn]
    rw [List.map_cons, Ents.hashes w r]
open Classical in
noncomputable def updD (x : D) : D → Option D
  | .dict kvs => match x with
    | .dict more => if (kvs ≠ [] ∨ ∀ w : World, ((more.filterMap fun e => keyOf e.1).map fun n => n.hash w).Nodup) ∧ kvs.length + more.length ≤ 1000000 ∧ (scrOf kvs).isNone ∧ (scrOf more).isNone then some (.dict (putsK kvs more)) else none
    | _ => none
  | _ => none
def isDic : D → Bool
  | .dict _ => true
  | _ => false
noncomputable def eUpd (i : Nat) (E : EF) : EF := fun ρ => (ownD ρ[i]?).bind fun d0 => if isDic d0 = true then (E ρ).bind fun p => (ownD p.2[i]?).bind fun d => (updD p.1 d).bind fun z => some (.none, put1 i z p.2) else none
theorem isDic_at {p : Addr} {d : D} (h : isDic d = true) (o : OwnAt C B H p d) : isE C (V.ref p) H := by
  cases d with
  | dict kvs =>
    obtain ⟨xs, ep, h1, _⟩ := o
    exact ⟨p, xs, ep, rfl, h1⟩
  | _ => cases h
open Classical in
theorem ee_upd {i : Nat} (h : EE C te E) : EE C (tBE C (rUpdE C) (tVar i) (tCons te tNil)) (eUpd i E) := fun f B σ H ρ d ρ' Q S e k => by
  obtain ⟨d0, e0, z0⟩ := Option.bind_eq_some_iff.mp e
  split at z0
  · rename_i hd0
    obtain ⟨⟨x, ρ1⟩, e1, z1⟩ := Option.bind_eq_some_iff.mp z0
    obtain ⟨dd, e2, z2⟩ := Option.bind_eq_some_iff.mp z1
    obtain ⟨z, e3, z3⟩ := Option.bind_eq_some_iff.mp z2
    cases z3
    obtain ⟨p0, s0, _, _, ev, _, ho0⟩ := S.owned e0
    refine ⟨_, ev, isDic_at hd0 ho0, h f B σ H ρ _ ρ1 _ S e1 fun v B1 H1 eb S1 hv => ?_⟩
    obtain ⟨p, s, hs, hw, ev1, hb, ho⟩ := S1.owned e2
    rw [ev] at ev1
    cases ev1
    cases dd with
    | dict kvs =>
      cases x with
      | dict more =>
        have e3 : (if (kvs ≠ [] ∨ ∀ w : World, ((more.filterMap fun e => keyOf e.1).map fun n => n.hash w).Nodup) ∧ kvs.length + more.length ≤ 1000000 ∧ (scrOf kvs).isNone = true ∧ (scrOf more).isNone = true then some (PyData.dict (putsK kvs more)) else none) = some z := e3
        split at e3
        · rename_i hc
          obtain ⟨c1, c2, c3, c4⟩ := hc
          cases e3
          obtain ⟨xs, ep, hxs, hE⟩ := ho
          generalize hm : PyData.dict more = M at hv
          cases hv with
          | scr _ _ =>
            cases hm
            cases c4
          | odd _ =>
            cases hm
            cases c4
          | @dic q0 ys0 ep0 _ hq hF =>
            cases hm
            have hl1 := hE.length
            have hl2 := hF.length
            have hpq : p0 ≠ q0 := fun q => by
              rw [← q, hb] at hq
              cases hq
            refine ⟨p0, _, xs, _, ep, _, rfl, rfl, hpq, hxs, S1.bh _ _ hq, hE.keys S1.bh, hF.keys S1.bh, ?_, lim_line (by rw [hl1, hl2]; exact c2), fun ep2 => ?_⟩
            · rcases c1 with c1 | c1
              · exact .inl fun q => c1 (List.eq_nil_of_length_eq_zero (by rw [← hl1, q]; rfl))
              · exact .inr (by rw [hF.hashes]; exact c1 _)
            · exact k .non B1 _ eb (S1.put (d := .dict (putsK kvs more)) hs hw ev (show ∃ us ep, _ from ⟨_, _, upd_same, hF.puts hE⟩)) .non
          | _ => cases hm
        · cases e3
      | _ => cases e3
    | _ => cases e3
  · cases z0
end
end Fc
set_option Elab.async false
set_option linter.all false
set_option maxRecDepth 100000
set_option maxHeartbeats 1000000
/-! Fc: dict comprehensions whose keys are tuples; d.pop(k). -/
namespace Fc
open PySem L2 PySem.Spec PyProof.Rows
section
variable {X : Cx} {A0 : Nat}
theorem d_dictSetE {pns : List (Addr × Obj)} {τ : L2.St} {H : Hp} {s : Shared} {E : Value → Shared → Prop} {D : Addr} {y v : V} {u r : Value} {Q : Unit → Shared → Prop} {N : Hp → Prop} (hu : X.A.units + 64 < cLine) (I : Inv X pns τ H s)
    (ry : RelV y u) (rv : RelV v r) (h : rSetE (cn X) (V.ref D) y v H N) (k : ∀ s' H', Inv X pns τ H' s' → N H' → Q () s') : wpAny (model X.prog X.w) X.A (dictSet D u r) Q E s := by
  obtain ⟨p, a, xs, ep, n, e1, rfl, hp, hk, hn, hl, q⟩ := h
  cases e1
  cases ry
  obtain ⟨us, rr, dd, hz, hd⟩ := dic_of I hp hk
  have hu' : us.length = xs.length := (Paired.length rr).symm
  refine wpAny_dictSet_heap (knd := nestedKind X.prog X.w) (hsz := by omega) (by show X.A.units + 8 < cLine; omega) (hn.is I) dd fun h' dd' hs => ?_
  have he : ∃ w, h'.get? D = some w := let ⟨w, _, _, hw, _⟩ := dd'; ⟨w, hw⟩
  obtain ⟨ep2, ok⟩ := dic_new (C := cn X) (H := upd H D (dicO (cn X) D (putE xs n a v) 0)) (rr.put n rv) dd' (by have := putE_length xs n a v; omega) hd
  exact k _ _ (d_write I (by rw [hp]; exact True.intro) hs he ok) (q ep2)
/-- {k: v for target in iter if ..}, keys tuples -/
def tDcE (C : Cn) (wI : TI) (gG : TG) (tT : TT) (tK tV : TE) (vs : List Nat) : TE := fun τ H Q => wI τ H fun J H1 => ∀ D ep0, H1 D = none → ∃ W : Nat → Nat → Hp → Prop, (∃ m, W 0 m (upd H1 D (dicO C D [] ep0))) ∧ ∀ i m H, W i m H →
  (J.stop i H ∧ Q (.ref D) H) ∨ (J.go i H ∧ ∃ Nx : Hp → Prop, (∀ H', Nx H' → ∃ m', m' < m ∧ W (i + 1) m' H') ∧ ∀ x H', J.yld i H x H' → gG x (wipe τ vs) H' fun τ2 J2 => wipe τ2 vs = wipe τ vs ∧ tT τ2 J2 fun b J3 =>
    if b = true then tK τ2 J3 fun y J4 => tV τ2 J4 fun z J5 => rSetE C (.ref D) y z J5 Nx else Nx J3)
theorem dcE_core {pns : List (Addr × Obj)} {s0 : Shared} {τ : L2.St} {H0 : Hp} {Qx : VK} {kq vq gt itx : Expr} {fs : List Expr} {sc : Scope} {ow : List (Str × Nat)} {po po' : Pos} {wI : TI} {gG : TG} {tT : TT} {tK tV : TE} {us0 : Option (Value → Sem Unit)} {Qv : Value → Shared → Prop}
    (hca : X.calm = true) (hu : X.A.units + 64 < cLine) (hNo : X.N.Nodup) (Ix : Inv X pns τ H0 s0) (hit : PI X gt itx wI) (ok : BlkOk X.N X.env.scope sc ow)
    (hgt : ∀ (s0 : Shared) (H0 : Hp) (Cz : Addr) (cs : List (Str × Addr)) (pn : List Addr), PG (X.blk s0 H0 sc (compEnvC sc cs Cz X.env) pn) gt gG) (htt : ∀ (s0 : Shared) (H0 : Hp) (Cz : Addr) (cs : List (Str × Addr)) (pn : List Addr), PTs (X.blk s0 H0 sc (compEnvC sc cs Cz X.env) pn) fs tT)
    (hkt : ∀ (s0 : Shared) (H0 : Hp) (Cz : Addr) (cs : List (Str × Addr)) (pn : List Addr), PE (X.blk s0 H0 sc (compEnvC sc cs Cz X.env) pn) kq tK)
    (het : ∀ (s0 : Shared) (H0 : Hp) (Cz : Addr) (cs : List (Str × Addr)) (pn : List Addr), PE (X.blk s0 H0 sc (compEnvC sc cs Cz X.env) pn) vq tV) (hst : ∀ x, foldedSetIterable itx X.env x = pure x)
    (hh : tDcE (cn X) wI gG tT tK tV (ow.map (·.2)) τ H0 Qx)
    (back : ∀ Dz Cz s'0 mm H'0, Inv X pns τ H'0 s'0 → Qx (.ref Dz) H'0 → s'0.heap.Ns Cz mm → FpOk X pns H'0 Cz → compPost (model X.prog X.w) X.A X.xe us0 Qv (.ref Dz) Cz (.ok .next) s'0) :
    wpAny (model X.prog X.w) X.A (comprehension (.DictComp kq vq [⟨gt, itx, fs, 0⟩] sc po) sc X.env po' newDict false (eval itx X.env) us0) Qv X.xe s0 := by
  have hfr : ∀ y ∈ sc.names, y.2 = .free → ∃ c, X.env.cells.lookup y.1 = some c := fun y hy ee => by
    rcases ok.free y hy ee with k | k
    · exact Ix.ok.has _ (.inl k)
    · exact Ix.ok.has _ (.inr k)
  refine wpAny_comprehension_free (use := us0) rfl hst (closure_ok hfr) ok.kind (fun y hy ee => by rw [ok.uniq y hy, ee])
    (thn (hit.run pns s0 τ H0 _ Ix hh) fun xw s1 hxx => thn hxx fun itw t2 h2 => ?_)
  obtain ⟨it, pn, tn, J, J2, ee, V2, Tn, st2, f02, q⟩ := h2
  subst ee
  refine wpAny_newObj_type (newEnv_comp ?_)
  generalize hDz : t2.heap.objs.size = Dz
  have hDn : J2 Dz = none := V2.hok.fresh (Nat.le_of_eq hDz)
  obtain ⟨ep0, ok0⟩ := dic_empty (H := upd J2 t2.heap.objs.size (dicO (cn X) t2.heap.objs.size [] 0)) (K := X.K) t2.heap V2.big
  obtain ⟨Wx, ⟨mz, wz⟩, trn⟩ := q Dz ep0 hDn
  -- the new list
  generalize hs3 : ({ t2 with heap := t2.heap.push { cls := .type "dict", data := .dict #[] } } : Shared) = t3
  have V3 : Inv X pns τ (upd J2 Dz (dicO (cn X) Dz [] ep0)) t3 := by
    rw [← hs3]
    refine V2.laid (t' := t2.toks) (fun bb oo ee => Heap.get?_push_of_some _ ee) (Nat.le_of_eq hDz) ?_
    rw [← hDz]
    exact ok0
  have h3 : t3.heap = t2.heap.push { cls := .type "dict", data := .dict #[] } := by rw [← hs3]
  have szl : ∀ bb ∈ pn, bb < t2.heap.objs.size := fun bb hb => by
    obtain ⟨oo, ee, _⟩ := Tn.obj _ _ st2 bb hb
    exact Heap.lt_size ee
  have fa3 : ∀ bb ∈ pn, FpOk X pns (upd J2 Dz (dicO (cn X) Dz [] ep0)) bb ∧ bb < t3.heap.objs.size := fun bb hb => by
    have hlt := szl bb hb
    refine ⟨⟨?_, (f02 bb hb).2⟩, by rw [h3, Heap.size_push]; exact Nat.lt_succ_of_lt hlt⟩
    rw [upd_ne (by rw [← hDz]; exact Nat.ne_of_lt hlt)]
    exact (f02 bb hb).1
  have sa3 : tn 0 t3.heap := Tn.keep _ _ _ st2 fun bb _ oo ee => by rw [h3]; exact Heap.get?_push_of_some _ ee
  have V4 := block_start V3 ok hNo fa3
  have pgx := hgt t3 (upd J2 Dz (dicO (cn X) Dz [] ep0)) t3.heap.objs.size (cellsFrom (t3.heap.objs.size + 1) sc.names (cloFrom X.env.cells sc.names [])) pn
  have ptx := htt t3 (upd J2 Dz (dicO (cn X) Dz [] ep0)) t3.heap.objs.size (cellsFrom (t3.heap.objs.size + 1) sc.names (cloFrom X.env.cells sc.names [])) pn
  have pkx := hkt t3 (upd J2 Dz (dicO (cn X) Dz [] ep0)) t3.heap.objs.size (cellsFrom (t3.heap.objs.size + 1) sc.names (cloFrom X.env.cells sc.names [])) pn
  have pex := het t3 (upd J2 Dz (dicO (cn X) Dz [] ep0)) t3.heap.objs.size (cellsFrom (t3.heap.objs.size + 1) sc.names (cloFrom X.env.cells sc.names [])) pn
  show codeAny _ _ (.compStart (.DictComp kq vq [⟨gt, itx, fs, 0⟩] sc po) 0 (.ref it) (.ref Dz) (compEnvC sc (cellsFrom (t3.heap.objs.size + 1) sc.names (cloFrom X.env.cells sc.names [])) t3.heap.objs.size X.env)) (compPost (model X.prog X.w) X.A X.xe us0 Qv (.ref Dz) t3.heap.objs.size) { t3 with heap := pushCells (t3.heap.push { cls := .type "dict", data := .dict #[] }) sc.names }
  have npn : ∀ bb ∈ pn, (upd J2 Dz (dicO (cn X) Dz [] ep0)) bb = none := fun bb hb => (fa3 bb hb).1.1
  generalize hev : compEnvC sc (cellsFrom (t3.heap.objs.size + 1) sc.names (cloFrom X.env.cells sc.names [])) t3.heap.objs.size X.env = ev at V4 pgx ptx pkx pex ⊢
  have cLo : ev.locals = t3.heap.objs.size := by subst hev; rfl
  generalize hH3 : upd J2 Dz (dicO (cn X) Dz [] ep0) = J3 at V3 V4 pgx ptx pkx pex wz npn fa3
  generalize hs4 : ({ t3 with heap := pushCells (t3.heap.push { cls := .type "dict", data := .dict #[] }) sc.names } : Shared) = t4 at V4 ⊢
  have sa4 : tn 0 t4.heap := Tn.keep _ _ _ sa3 fun bb _ oo ee => by rw [← hs4]; exact pushCells_keeps _ _ _ _ (Heap.get?_push_of_some _ ee)
  have stt : ∀ {τ' : L2.St} {H'0 : Hp} {s'0 : Shared}, Inv (X.blk t3 J3 sc ev pn) [] τ' H'0 s'0 → (∀ bb ∈ pn, H'0 bb = none) → ∀ bb ∈ pn, FpOk (X.blk t3 J3 sc ev pn) [] H'0 bb := fun {τ' H'0 s'0} I' hn bb hb =>
    ⟨hn bb hb, (I'.ok.exf bb hb).1, I'.ok.exfs bb hb, .inl hb, fun x c ee => (I'.ok.exf bb hb).2 x c ee, fun p hp => absurd (show p ∈ ([] : List (Addr × Obj)) ++ [] from hp) (by simp)⟩
  have lop : codeAny (model X.prog X.w) X.A (.compLoop (.DictComp kq vq [⟨gt, itx, fs, 0⟩] sc po) 0 (.ref it) (.ref Dz) ev) (compPost (model X.prog X.w) X.A X.xe us0 Qv (.ref Dz) t3.heap.objs.size) t4 := by
    refine compLoop_anyD (fun nn s'0 => ∃ ii H'0, Inv (X.blk t3 J3 sc ev pn) [] (wipe τ (ow.map (·.2))) H'0 s'0 ∧ tn ii s'0.heap ∧ (∀ bb ∈ pn, H'0 bb = none) ∧ Wx ii nn H'0) ?_ mz ⟨0, J3, V4, sa4, npn, wz⟩
    rintro nn t5 ⟨ii, J5, V5, st5, n5, w5⟩
    rcases trn ii nn J5 w5 with ⟨sto, qq⟩ | ⟨goo, Nx, hNx, stp⟩
    · have tdn := Tn.done (X.blk t3 J3 sc ev pn) rfl rfl rfl hca ii [] t5 _ J5 (fun _ _ => False) V5 (stt V5 n5) st5 sto
      refine thnF tdn fun r t6 ⟨hr, V6⟩ => ?_
      subst hr
      -- back in the def's context
      have V7 : Inv X pns τ J5 t6 := V3.call' (ch := pn) V6.os V6.base V6.hok V6.bare fun bb hb => ⟨(fa3 bb hb).1.2.2.2.1, (fa3 bb hb).1.2.1, (fa3 bb hb).1.2.2.2.2.1, (fa3 bb hb).1.2.2.2.2.2⟩
      have nC : J5 t3.heap.objs.size = none := by
        have z : J5 ev.locals = none := V6.free
        rw [cLo] at z
        exact z
      obtain ⟨mm, hn, _⟩ := V6.loc
      have hn : t6.heap.Ns ev.locals mm := hn
      rw [cLo] at hn
      exact back Dz t3.heap.objs.size t6 mm J5 V7 qq hn (V3.fpOk (Nat.le_refl _) nC)
    · have tin := Tn.item (X.blk t3 J3 sc ev pn) rfl rfl rfl hca ii [] t5 _ J5 (fun _ _ => False) V5 (stt V5 n5) st5 goo
      refine thnF tin fun r t6 ⟨u, hr, h6⟩ => ?_
      subst hr
      refine thnF h6 fun _ t7 ⟨x, J7, V7, r7, y7, st7, n7⟩ => ?_
      have V7' := V7.pinned (stt V7 n7) (Tn.obj _ _ st7)
      refine thnF (pgx.run _ t7 _ J7 x u _ V7' r7 (stp x J7 y7)) fun _ t8 ⟨τ8, J8, V8, hw8, qa8⟩ => ?_
      refine thnF (ptx.run _ t8 τ8 J8 _ V8 qa8) fun bb t9 ⟨J9, V9, qa9⟩ => ?_
      -- the turn's end
      have fini : ∀ {s'0 : Shared} {H'0 : Hp}, Inv (X.blk t3 J3 sc ev pn) ([] ++ pinsAt pn t7.heap) τ8 H'0 s'0 → Nx H'0 → ∃ mm, mm < nn ∧ ∃ ii H'0, Inv (X.blk t3 J3 sc ev pn) [] (wipe τ (ow.map (·.2))) H'0 s'0 ∧ tn ii s'0.heap ∧ (∀ bb ∈ pn, H'0 bb = none) ∧ Wx ii mm H'0 := fun {s'0 H'0} I' nx => by
        obtain ⟨m', hm, w'⟩ := hNx H'0 nx
        have pinx : ∀ bb ∈ pn, ∀ oo, t7.heap.get? bb = some oo → s'0.heap.get? bb = some oo ∧ H'0 bb = none := fun bb hb oo ee =>
          let z := I'.pin (bb, oo) (List.mem_append_right _ (List.mem_append_right _ (mem_pinsAt hb ee)))
          ⟨z.1, z.2.1⟩
        have hll : (wipe τ (ow.map (·.2))).length = τ8.length := by rw [← hw8, wipe_length]
        refine ⟨m', hm, ii + 1, H'0, (I'.unpinned (pins := [])).weak hll (fun j v ee => ?_), Tn.keep _ _ _ st7 fun bb hb oo ee => (pinx bb hb oo ee).1, fun bb hb => ?_, w'⟩
        · rw [← hw8] at ee
          exact (wipe_some ee).1
        · obtain ⟨oo, ee, _⟩ := Tn.obj _ _ st7 bb hb
          exact (pinx bb hb oo ee).2
      cases bb with
      | false =>
        simp only [Bool.false_eq_true, if_false] at qa9 ⊢
        exact fini V9 qa9
      | true =>
        simp only [if_true] at qa9 ⊢
        refine thnF (pkx.run _ t9 τ8 J9 _ V9 qa9) fun z t10 ⟨yk, J10, V10, r10, q10⟩ => ?_
        refine thnF (pex.run _ t10 τ8 J10 _ V10 q10) fun z2 t11 ⟨yv, J11, V11, r11, nx⟩ => ?_
        exact d_dictSetE (X := X.blk t3 J3 sc ev pn) hu V11 r10 r11 nx fun t12 J12 V12 nx2 => fini V12 nx2
  exact codeAny_compStart_dict lop (Tn.self X.A 0 _ _ _ sa4 lop)
theorem pe_dcE {kq vq gt itx : Expr} {fs : List Expr} {sc : Scope} {ow : List (Str × Nat)} {po : Pos} {wI : TI} {gG : TG} {tT : TT} {tK tV : TE} (hca : X.calm = true) (hu : X.A.units + 64 < cLine) (hNo : X.N.Nodup) (hit : PI X gt itx wI) (ok : BlkOk X.N X.env.scope sc ow)
    (hgt : ∀ (s0 : Shared) (H0 : Hp) (Cz : Addr) (cs : List (Str × Addr)) (pn : List Addr), PG (X.blk s0 H0 sc (compEnvC sc cs Cz X.env) pn) gt gG) (htt : ∀ (s0 : Shared) (H0 : Hp) (Cz : Addr) (cs : List (Str × Addr)) (pn : List Addr), PTs (X.blk s0 H0 sc (compEnvC sc cs Cz X.env) pn) fs tT)
    (hkt : ∀ (s0 : Shared) (H0 : Hp) (Cz : Addr) (cs : List (Str × Addr)) (pn : List Addr), PE (X.blk s0 H0 sc (compEnvC sc cs Cz X.env) pn) kq tK)
    (het : ∀ (s0 : Shared) (H0 : Hp) (Cz : Addr) (cs : List (Str × Addr)) (pn : List Addr), PE (X.blk s0 H0 sc (compEnvC sc cs Cz X.env) pn) vq tV) (hst : ∀ x, foldedSetIterable itx X.env x = pure x := by intro _; rfl) :
    PE X (.DictComp kq vq [⟨gt, itx, fs, 0⟩] sc po) (tDcE (cn X) wI gG tT tK tV (ow.map (·.2))) := by
  refine ⟨fun pns s0 τ H0 Qx Ix hh => ?_⟩
  rw [arm_eval_DictComp]
  refine dcE_core hca hu hNo Ix hit ok hgt htt hkt het hst hh fun Dz Cz s'0 mm H'0 I' q hn f => ⟨mm, hn, fun h'' sb => ?_⟩
  obtain ⟨f00, f01, f02, fa3, f04, f05⟩ := f
  exact ⟨.ref Dz, H'0, I'.turned (t' := s'0.toks) (fun bb oo hb ee => (sb.2 bb hb).trans ee) f00 f01 fa3 f04 f05, rfl, q⟩
end
section
variable {C : Cn} {wi : TI} {I : IF} {g : TG} {G : GF} {tt : TT} {T : TF} {tk tv : TE} {KE VE : EF} {vs : List Nat}
def dcL (vs : List Nat) (G : GF) (T : TF) (KE VE : EF) : List D → List (D × D) → En → Option (List (D × D) × En)
  | [], acc, ρ => some (acc, ρ)
  | d :: ds, acc, ρ => (G d ρ).bind fun ρ1 => (T ρ1).bind fun p => if p.1 then (KE p.2).bind fun q => (VE q.2).bind fun r => (keyN q.1).bind fun n => if acc.length < 1000000 ∧ noIo vs r.2 then dcL vs G T KE VE ds (putK' acc q.1 n r.1) (kill vs r.2) else none
    else if noIo vs p.2 then dcL vs G T KE VE ds acc (kill vs p.2) else none
def eDc (vs : List Nat) (I : IF) (G : GF) (T : TF) (KE VE : EF) : EF := fun ρ => (I ρ).bind fun p => if noIo vs p.2 then (dcL vs G T KE VE p.1 [] (kill vs p.2)).bind fun q => some (.dict q.1, q.2) else none
theorem eo_dc (hi : EI C wi I) (hg : EGv C vs g G) (ht : ET C tt T) (hk : EE C tk KE) (hv : EE C tv VE) : EO C (tDcE C wi g tt tk tv vs) (eDc vs I G T KE VE) := fun f B σ H ρ d ρ' Q S e k => by
  obtain ⟨⟨ds, ρ1⟩, e1, z1⟩ := Option.bind_eq_some_iff.mp e
  simp only at z1
  split at z1
  · rename_i hn
    obtain ⟨⟨out, ρ2⟩, e2, z2⟩ := Option.bind_eq_some_iff.mp z1
    cases z2
    refine hi f B σ H ρ ds ρ1 _ S e1 fun J B1 H1 eb S1 it Dl ep0 hD => ?_
    have h0 := S1.h0_free hD
    have htm := S1.tm_free hD
    have hb1 := S1.bh.free hD
    refine ⟨fun i m H2 => m = ds.length - i ∧ i ≤ ds.length ∧ ∃ B2 ρ3 acc xs ep, Ex B1 B2 ∧ noIo vs ρ3 = true ∧ Stt C f B2 (wipe σ vs) H2 (kill vs ρ3) ∧ H2 Dl = some (dicO C Dl xs ep) ∧ Ents C B2 xs acc ∧ B2 Dl = none ∧
      (∀ j : Nat, Sl.own (kill vs ρ3)[j]? → (wipe σ vs)[j]? ≠ some (some (V.ref Dl))) ∧ dcL vs G T KE VE (ds.drop i) acc (kill vs ρ3) = some (out, ρ2),
      ⟨ds.length, rfl, Nat.zero_le _, B1, ρ1, [], [], ep0, Ex.refl B1, hn, (S1.wiped hn).allocO hD, upd_same, .nil, hb1, fun j hj z => ?_, e2⟩, ?_⟩
    · obtain ⟨u, hu⟩ := (S1.wiped hn).own_there hj z
      rw [hD] at hu
      cases hu
    rintro i m H2 ⟨rfl, hil, B2, ρ3, acc, xs, ep, eb2, hn3, S2, hDl, hus, hbD, hown, e3⟩
    obtain ⟨it1, it2⟩ := it f B2 H2 _ _ i (BoEx.refl _) eb2 S2
    by_cases hlt : i < ds.length
    · rw [List.drop_eq_getElem_cons hlt] at e3
      obtain ⟨ρ4, e4, z4⟩ := Option.bind_eq_some_iff.mp e3
      obtain ⟨⟨b, ρ5⟩, e5, z5⟩ := Option.bind_eq_some_iff.mp z4
      obtain ⟨go, _⟩ := it1 ds[i] (List.getElem?_eq_getElem hlt)
      refine .inr ⟨go, fun H4 => i + 1 ≤ ds.length ∧ ∃ B4 ρ3 acc xs ep, Ex B1 B4 ∧ noIo vs ρ3 = true ∧ Stt C f B4 (wipe σ vs) H4 (kill vs ρ3) ∧ H4 Dl = some (dicO C Dl xs ep) ∧ Ents C B4 xs acc ∧ B4 Dl = none ∧
        (∀ j : Nat, Sl.own (kill vs ρ3)[j]? → (wipe σ vs)[j]? ≠ some (some (V.ref Dl))) ∧ dcL vs G T KE VE (ds.drop (i + 1)) acc (kill vs ρ3) = some (out, ρ2), fun H4 h => ⟨ds.length - (i + 1), by omega, rfl, h⟩, fun x H3 y => ?_⟩
      have S2t := S2.tell hDl hbD hown
      obtain ⟨it1', _⟩ := it { f with tmp := upd f.tmp Dl (dicO C Dl xs ep) } B2 H2 _ _ i (BoEx.of rfl (Ex.new htm)) eb2 S2t
      obtain ⟨_, step⟩ := it1' ds[i] (List.getElem?_eq_getElem hlt)
      obtain ⟨B3, eb3, S3, hx⟩ := step x H3 y
      refine hg _ B3 _ H3 _ x ds[i] ρ4 _ S3 hx e4 fun σ4 w4 S4 => ⟨by rw [w4, wipe_wipe], ?_⟩
      have w4' : wipe σ4 vs = wipe σ vs := by rw [w4, wipe_wipe]
      refine ht _ B3 σ4 H3 ρ4 b ρ5 _ S4 e5 fun B5 H5 eb5 S5 => ?_
      simp only at z5
      have out_of : ∀ {B6 H6 : Hp} {ρ6 : En}, noIo vs ρ6 = true → Stt C { f with tmp := upd f.tmp Dl (dicO C Dl xs ep) } B6 σ4 H6 ρ6 → Stt C f B6 (wipe σ vs) H6 (kill vs ρ6) ∧ H6 Dl = some (dicO C Dl xs ep) ∧ B6 Dl = none ∧ ∀ j : Nat, Sl.own (kill vs ρ6)[j]? → (wipe σ vs)[j]? ≠ some (some (V.ref Dl)) := fun {B6 H6 ρ6} hn6 S6 => by
        have S7 := S6.wiped hn6
        rw [w4'] at S7
        obtain ⟨q1, q2, q3⟩ := S7.tm Dl _ upd_same
        exact ⟨S7.untell (Ex.new htm) S2.bs, q1, q2, q3⟩
      cases b with
      | true =>
        rw [if_pos rfl] at z5 ⊢
        obtain ⟨⟨ky, ρ6⟩, e6, z6⟩ := Option.bind_eq_some_iff.mp z5
        obtain ⟨⟨yv, ρ7⟩, e7, z7⟩ := Option.bind_eq_some_iff.mp z6
        obtain ⟨n, e8, z8⟩ := Option.bind_eq_some_iff.mp z7
        simp only at z8 e8
        split at z8
        · rename_i hc
          refine hk _ B5 σ4 H5 ρ5 ky ρ6 _ S5 e6 fun kv B6 H6 eb6 S6 hkv => hv _ B6 σ4 H6 ρ6 yv ρ7 _ S6 e7 fun v B7 H7 eb7 S7 hvv => ?_
          obtain ⟨S8, q1, q2, q3⟩ := out_of hc.2 S7
          obtain ⟨⟨as, rfl⟩, kn, kd⟩ := keyN_inv e8
          have eb67 := ((eb3.trans eb5).trans eb6).trans eb7
          cases hkv with
          | @tup a us _ g1 g2 =>
            have hK : Dn C B7 (V.ref a) (.tuple as) := (Dn.tup g1 g2).mono eb7
            have hE := hus.mono eb67
            exact ⟨Dl, a, xs, ep, n, rfl, rfl, q1, hE.keys S8.bh, ⟨_, hK.dpk S8.bh kn, kn, kd⟩, lim_lt (by rw [hE.length]; exact hc.1), fun ep2 =>
              ⟨hlt, B7, ρ7, putK' acc (.tuple as) n yv, putE xs n a v, ep2, eb2.trans eb67, hc.2, S8.touch h0 htm q2 q3, upd_same, hE.put hK kn kd hvv, q2, q3, z8⟩⟩
        · cases z8
      | false =>
        rw [if_neg Bool.false_ne_true] at z5 ⊢
        split at z5
        · rename_i hc
          obtain ⟨S7, q1, q2, q3⟩ := out_of hc S5
          have eb25 := eb3.trans eb5
          exact ⟨hlt, B5, ρ5, acc, xs, ep, eb2.trans eb25, hc, S7, q1, hus.mono eb25, q2, q3, z5⟩
        · cases z5
    · have e4 : i = ds.length := by omega
      refine .inl ⟨it2 e4, ?_⟩
      subst e4
      rw [List.drop_length] at e3
      cases e3
      have S3 := S2.unwiped hn3
      refine k Dl B2 H2 (eb.trans eb2) S3 h0 htm hbD (fun j hj z => ?_) (show ∃ us ep, _ from ⟨xs, ep, hDl, hus⟩)
      by_cases hm : j ∈ vs
      · cases q : (kill vs ρ3)[j]? with
        | none => rw [q] at hj; exact hj.elim
        | some s =>
          have := kill_em vs ρ3 j s hn3 hm q
          subst this
          rw [q] at hj
          exact hj.elim
      · exact hown j hj (by rw [wipe_get, if_neg hm]; exact z)
  · cases z1
end
end Fc
set_option Elab.async false
set_option linter.all false
set_option maxRecDepth 100000
set_option maxHeartbeats 1000000
/-! Fc: d.pop(k), the key there. -/
namespace Fc
open PySem L2 PyProof.Rows
def dropE (xs : List DE) (n : NestedKey) : List DE := xs.filter fun e => decide (e.1 ≠ n)
theorem EU.drop (n : NestedKey) : ∀ {xs : List DE} {us : List (NestedKey × Addr × Value)}, EU xs us → EU (dropE xs n) (withoutH us n)
  | _, _, .nil => .nil
  | _, _, .cons (a := e) (b := b) q r => by
    have ih := EU.drop n r
    unfold dropE withoutH at ih ⊢
    by_cases h : e.1 = n
    · have h2 : b.1 = n := q.1.symm.trans h
      rw [List.filter_cons_of_neg (by simp [h]), List.filter_cons_of_neg (by simp [h2])]
      exact ih
    · have h2 : ¬ b.1 = n := fun z => h (q.1.trans z)
      rw [List.filter_cons_of_pos (by simp [h]), List.filter_cons_of_pos (by simp [h2])]
      exact .cons q ih
def rPopE (C : Cn) : V → List V → Hp → VK → Prop := fun x vs H Q => ∃ p a xs ep n v, x = V.ref p ∧ vs = [V.ref a] ∧ H p = some (dicO C p xs ep) ∧ KeysV C.K H xs ∧ KeyV C.K H n a ∧ getE xs n = some v ∧ ∀ ep2, Q v (upd H p (dicO C p (dropE xs n) ep2))
section
variable {X : Cx}
theorem mt_popE (hu : X.A.units + 64 < cLine) : MtM X "dict.pop" (rPopE (cn X)) := by
  intro ps t τ J x vs v us Q I rx rv h
  obtain ⟨p, a, xs, ep, n, w, rfl, rfl, hp, hk, hn, hg, z⟩ := h
  cases rx
  obtain ⟨u, rfl, ru⟩ := rv.one
  cases ru
  obtain ⟨us, r, dd, hz, hd⟩ := dic_of I hp hk
  have hu' : us.length = xs.length := (Paired.length r).symm
  have ro := r.get n
  rw [hg] at ro
  cases hq : atKey us n with
  | none => rw [hq] at ro; exact ro.elim
  | some y =>
    rw [hq] at ro
    refine call_pop_heap (knd := nestedKind X.prog X.w) (hsz := by omega) (.inl rfl) (PySem.F.args_dict_pop_2 _ _) (by show X.A.units + 1 + 8 < cLine; omega) (hn.is I) hd dd hq fun h' dd' hs => ?_
    have he : ∃ w, h'.get? p = some w := let ⟨w, _, _, hw, _⟩ := dd'; ⟨w, hw⟩
    obtain ⟨ep2, ok⟩ := dic_new (C := cn X) (H := upd J p (dicO (cn X) p (dropE xs n) 0)) (r.drop n) dd' (by have : (dropE xs n).length ≤ xs.length := List.length_filter_le _ _; omega) hd
    exact ⟨w, _, (d_write (t' := t.toks) I (by rw [hp]; exact True.intro) hs he ok).tok _, ro, z ep2⟩
end
section
variable {C : Cn} {f : Fr0} {B H : Hp} {te : TE} {E : EF}
def dropD (kvs : List (D × D)) (n : NestedKey) : List (D × D) := kvs.filter fun e => decide (keyOf e.1 ≠ some n)
theorem Ents.drop (n : NestedKey) : ∀ {xs : List DE} {kvs : List (D × D)}, Ents C B xs kvs → Ents C B (dropE xs n) (dropD kvs n)
  | _, _, .nil => .nil
  | _, _, .cons (n := m) (k := k) hk kn kd hv r => by
    have ih := Ents.drop n r
    unfold dropE dropD at ih ⊢
    by_cases h : m = n
    · rw [List.filter_cons_of_neg (by simp [h]), List.filter_cons_of_neg (by simp [kn, h])]
      exact ih
    · rw [List.filter_cons_of_pos (by simp [h]), List.filter_cons_of_pos (by simp [kn, h])]
      exact .cons hk kn kd hv ih
def popD (y : D) : D → Option (D × D)
  | .dict kvs => (keyN y).bind fun n => (getK kvs n).bind fun v => if (scrOf kvs).isNone then some (v, .dict (dropD kvs n)) else none
  | _ => none
def ePopK (i : Nat) (E : EF) : EF := fun ρ => (ownD ρ[i]?).bind fun d0 => if isDic d0 = true then (E ρ).bind fun p => (ownD p.2[i]?).bind fun d => (popD p.1 d).bind fun z => some (z.1, put1 i z.2 p.2) else none
theorem ee_popK {i : Nat} (h : EE C te E) : EE C (tBE C (rPopE C) (tVar i) (tCons te tNil)) (ePopK i E) := fun f B σ H ρ d ρ' Q S e k => by
  obtain ⟨d0, e0, z0⟩ := Option.bind_eq_some_iff.mp e
  split at z0
  · rename_i hd0
    obtain ⟨⟨x, ρ1⟩, e1, z1⟩ := Option.bind_eq_some_iff.mp z0
    obtain ⟨dd, e2, z2⟩ := Option.bind_eq_some_iff.mp z1
    obtain ⟨z, e3, z3⟩ := Option.bind_eq_some_iff.mp z2
    cases z3
    obtain ⟨p0, s0, _, _, ev, _, ho0⟩ := S.owned e0
    refine ⟨_, ev, isDic_at hd0 ho0, h f B σ H ρ _ ρ1 _ S e1 fun v B1 H1 eb S1 hv => ?_⟩
    obtain ⟨p, s, hs, hw, ev1, hb, ho⟩ := S1.owned e2
    rw [ev] at ev1
    cases ev1
    cases dd with
    | dict kvs =>
      obtain ⟨n, e4, e5⟩ := Option.bind_eq_some_iff.mp e3
      obtain ⟨y, e6, e7⟩ := Option.bind_eq_some_iff.mp e5
      split at e7
      · cases e7
        obtain ⟨⟨as, rfl⟩, kn, kd⟩ := keyN_inv e4
        obtain ⟨a, rfl⟩ : ∃ a, v = V.ref a := by cases hv with | tup _ _ => exact ⟨_, rfl⟩
        obtain ⟨xs, ep, hxs, hE⟩ := ho
        have hg := hE.get n
        rw [e6] at hg
        cases q : getE xs n with
        | none => rw [q] at hg; exact hg.elim
        | some w =>
          rw [q] at hg
          refine ⟨p0, a, xs, ep, n, w, rfl, rfl, hxs, hE.keys S1.bh, ⟨_, hv.dpk S1.bh kn, kn, kd⟩, q, fun ep2 => ?_⟩
          exact k w B1 _ eb (S1.put (d := .dict (dropD kvs n)) hs hw ev (show ∃ us ep, _ from ⟨_, _, upd_same, hE.drop n⟩)) hg
      · cases e7
    | _ => cases e3
  · cases z0
end
end Fc
set_option Elab.async false
set_option linter.all false
set_option maxRecDepth 100000
set_option maxHeartbeats 1000000
/-! Fc: d = {k: v for ..}. -/
namespace Fc
open PySem L2 PySem.Spec PyProof.Rows
section
variable {X : Cx}
theorem ps_setDc {ix : Nat} {yy : Str} {pyy : Pos} {kq vq gt itx : Expr} {fs : List Expr} {sc : Scope} {ow : List (Str × Nat)} {po sp : Pos} {wI : TI} {gG : TG} {tT : TT} {tK tV : TE} (hca : X.calm = true) (hu : X.A.units + 64 < cLine) (hNo : X.N.Nodup) (hyy : X.N[ix]? = some yy) (hll : X.env.scope.names.lookup yy = some .local)
    (hsv : swapsWith (.DictComp kq vq [⟨gt, itx, fs, 0⟩] sc po) (some (.Name yy pyy)) sp.line X.env = pure true) (hit : PI X gt itx wI) (ok : BlkOk X.N X.env.scope sc ow)
    (hgt : ∀ (s0 : Shared) (H0 : Hp) (Cz : Addr) (cs : List (Str × Addr)) (pn : List Addr), PG (X.blk s0 H0 sc (compEnvC sc cs Cz X.env) pn) gt gG) (htt : ∀ (s0 : Shared) (H0 : Hp) (Cz : Addr) (cs : List (Str × Addr)) (pn : List Addr), PTs (X.blk s0 H0 sc (compEnvC sc cs Cz X.env) pn) fs tT)
    (hkt : ∀ (s0 : Shared) (H0 : Hp) (Cz : Addr) (cs : List (Str × Addr)) (pn : List Addr), PE (X.blk s0 H0 sc (compEnvC sc cs Cz X.env) pn) kq tK)
    (het : ∀ (s0 : Shared) (H0 : Hp) (Cz : Addr) (cs : List (Str × Addr)) (pn : List Addr), PE (X.blk s0 H0 sc (compEnvC sc cs Cz X.env) pn) vq tV) (hst : ∀ x, foldedSetIterable itx X.env x = pure x := by intro _; rfl) :
    PS X (.Assign [.Name yy pyy] (.DictComp kq vq [⟨gt, itx, fs, 0⟩] sc po) sp) (tAsg (tDcE (cn X) wI gG tT tK tV (ow.map (·.2))) (gName ix)) := by
  refine ⟨fun pns s0 τ H0 Dv Ix hh => ?_⟩
  rw [exec_Assign_Name_used _ _ _ _ hsv]
  refine wpAny_bind (wpAny_standAt (wpAny_bind ?_))
  show wpAny _ X.A (do let _ ← comprehension (.DictComp kq vq [⟨gt, itx, fs, 0⟩] sc po) sc X.env (firstIterPos [⟨gt, itx, fs, 0⟩] po) newDict false (eval itx X.env) (some (assign (.Name yy pyy) X.env))) _ _ s0
  have hh : tDcE (cn X) wI gG tT tK tV (ow.map (·.2)) τ H0 (fun x H1 => gName ix x τ H1 Dv.nx) := hh
  refine wpAny_bind (thn (dcE_core (Qv := fun _ s'0 => SP X pns Dv .next s'0) hca hu hNo Ix hit ok hgt htt hkt het hst hh fun Lz Cz s'0 mm H'0 I' qq hnn ff => ?_) fun _ s'0 hqq => wpAny_pure (wpAny_pure hqq))
  show wpAny _ _ (assign (.Name yy pyy) X.env (.ref Lz)) _ _ _
  refine wpAny_assign_Name (store_ok2 (v := V.ref Lz) I' hNo hyy (.inl hll) rfl (fun t2 V2 ⟨aa, sbb, haa⟩ => ?_) (.inr hll))
  obtain ⟨f00, f01, f02, f03, f04, f05⟩ := ff
  have haz : Cz ≠ aa := by
    rcases haa with zz | zz
    · rw [zz]; exact f01
    · exact fun ee => f04 yy aa zz ee.symm
  refine ⟨mm, hnn.sameBut sbb haz, fun hh3 sbb3 => ?_⟩
  exact ⟨_, H'0, V2.turned (t' := t2.toks) (fun bb oo hb ee => (sbb3.2 bb hb).trans ee) f00 f01 f03 f04 f05, qq⟩
theorem sw_trueD {kq vq : Expr} {gz : List Comprehension} {sc : Scope} {po pyy : Pos} {yy : Str} {lz : Nat} {en : Env} (hkt : en.scope.kind = .function) (hyy : en.scope.names.lookup yy = some .local) (hlz : (pyy.line == po.line) = true)
    (haa : (sc.names.any fun (nn, kk) => nn == yy && (kk == .local || kk == .cell)) = false) : swapsWith (.DictComp kq vq gz sc po) (some (.Name yy pyy)) lz en = pure true := by
  have kyy : en.kindOf yy = some .local := hyy
  have hb : en.blockKind = .function := by unfold Env.blockKind; rw [hkt]; rfl
  unfold swapsWith
  simp only [hb, kyy, haa, Expr.pos, hlz]
  rfl
end
end Fc
set_option Elab.async false
set_option linter.all false
set_option maxRecDepth 100000
set_option maxHeartbeats 1000000
/-! Fc: max, min of a list of ints. -/
namespace Fc
open PySem L2
section
variable {C : Cn}
def gMaxL : G1
  | .list ds => (intsOf ds).bind fun ns => ns.max?.map .int
  | _ => none
def gMinL : G1
  | .list ds => (intsOf ds).bind fun ns => ns.min?.map .int
  | _ => none
theorem ru_maxL : RU C (fun x H Q => rMax C.K [x] H Q) gMaxL := fun f B σ H ρ x a d Q S hx e k => by
  unfold gMaxL at e
  split at e
  · obtain ⟨ns, e1, e2⟩ := Option.bind_eq_some_iff.mp e
    obtain ⟨m, e3, rfl⟩ := Option.map_eq_some_iff.mp e2
    have := intsOf_eq e1
    subst this
    obtain ⟨p, vs, rfl, hv, hvs⟩ := hx.list S.bh
    rw [hvs.ints] at hv
    obtain ⟨h1, h2⟩ := List.max?_eq_some_iff.mp e3
    refine ⟨p, ns, rfl, hv, List.length_pos_of_mem h1, fun m' h3 h4 => ?_⟩
    have : m' = m := Int.le_antisymm (h2 _ h3) (h4 _ h1)
    subst this
    exact k _ B H (Ex.refl B) S (.int _)
  · cases e
theorem ru_minL : RU C (fun x H Q => rMin C.K [x] H Q) gMinL := fun f B σ H ρ x a d Q S hx e k => by
  unfold gMinL at e
  split at e
  · obtain ⟨ns, e1, e2⟩ := Option.bind_eq_some_iff.mp e
    obtain ⟨m, e3, rfl⟩ := Option.map_eq_some_iff.mp e2
    have := intsOf_eq e1
    subst this
    obtain ⟨p, vs, rfl, hv, hvs⟩ := hx.list S.bh
    rw [hvs.ints] at hv
    obtain ⟨h1, h2⟩ := List.min?_eq_some_iff.mp e3
    refine ⟨p, ns, rfl, hv, List.length_pos_of_mem h1, fun m' h3 h4 => ?_⟩
    have : m' = m := Int.le_antisymm (h4 _ h1) (h2 _ h3)
    subst this
    exact k _ B H (Ex.refl B) S (.int _)
  · cases e
end
end Fc
set_option Elab.async false
set_option linter.all false
set_option maxRecDepth 100000
set_option maxHeartbeats 1000000
/-! Fc: x is True, x is not False. -/
namespace Fc
open PySem L2 PyProof.Rows
def rIsB (neg : Bool) : R2 := fun x y H Q => ∃ p q, x = .bl p ∧ y = .bl q ∧ Q (.bl (if neg then !(p == q) else (p == q))) H
section
variable {X : Cx}
theorem op_isB : OpR X (compareOp .Is) (rIsB false) := by
  intro ps s τ J x y v u Q I rx ry h
  obtain ⟨p, q, rfl, rfl, z⟩ := h
  cases rx
  cases ry
  show wpAny _ _ ((isSame (Value.bool p) (Value.bool q)) >>= fun z => pure (Value.bool z)) _ _ s
  exact wpAny_bind (wpAny_isSame_plain rfl (wpAny_pure (fin_bl I z (by cases p <;> cases q <;> rfl))))
theorem op_notB : OpR X (compareOp .IsNot) (rIsB true) := by
  intro ps s τ J x y v u Q I rx ry h
  obtain ⟨p, q, rfl, rfl, z⟩ := h
  cases rx
  cases ry
  show wpAny _ _ ((isSame (Value.bool p) (Value.bool q)) >>= fun z => pure (Value.bool (!z))) _ _ s
  exact wpAny_bind (wpAny_isSame_plain rfl (wpAny_pure (fin_bl I z (by cases p <;> cases q <;> rfl))))
end
section
variable {C : Cn}
def gIsB (neg : Bool) : G2
  | .bool p, .bool q => some (.bool (if neg then !(p == q) else (p == q)))
  | _, _ => none
theorem rb_isB (neg : Bool) : RB C (rIsB neg) (gIsB neg) := fun f B σ H ρ x y a b d Q S hx hy e k => by
  unfold gIsB at e
  split at e
  · rename_i p q
    cases e
    exact ⟨p, q, hx.bool, hy.bool, k _ B H (Ex.refl B) S (.bl _)⟩
  · cases e
end
end Fc
set_option Elab.async false
set_option linter.all false
set_option maxRecDepth 100000
set_option maxHeartbeats 1000000
/-! Fc: t[::-1] of a tuple. -/
namespace Fc
open PySem L2 PyProof.Rows HT
theorem turned_list {α : Type} (l : List α) : (List.range l.length).filterMap (fun k : Nat => l[((l.length : Int) - 1 + (k : Int) * (-1)).toNat]?) = l.reverse := by
  have h : (List.range l.length).filterMap (fun k : Nat => l[((l.length : Int) - 1 + (k : Int) * (-1)).toNat]?) = (List.range l.length).filterMap (fun k : Nat => l.reverse[k]?) := by
    have : ∀ L : List Nat, (∀ k ∈ L, k < l.length) → L.filterMap (fun k : Nat => l[((l.length : Int) - 1 + (k : Int) * (-1)).toNat]?) = L.filterMap (fun k : Nat => l.reverse[k]?) := fun L => by
      induction L with
      | nil => intro _; rfl
      | cons k L ih =>
        intro hL
        have hk := hL k List.mem_cons_self
        have e : l[((l.length : Int) - 1 + (k : Int) * (-1)).toNat]? = l.reverse[k]? := by
          rw [List.getElem?_reverse hk]
          congr 1
          omega
        rw [List.filterMap_cons, List.filterMap_cons, e, ih fun j hj => hL j (List.mem_cons_of_mem _ hj)]
    exact this _ fun k hk => List.mem_range.mp hk
  rw [h]
  have h2 : ∀ r : List α, (List.range r.length).filterMap (fun k : Nat => r[k]?) = r := fun r => by
    induction r with
    | nil => rfl
    | cons x r ih =>
      rw [List.length_cons, List.range_succ_eq_map, List.filterMap_cons, List.filterMap_map]
      simp only [List.getElem?_cons_zero]
      congr 1
  have := h2 l.reverse
  rw [List.length_reverse] at this
  exact this
section
variable {prog : Program} {w : World} {A : Around} {E : Value → Shared → Prop} {s : Shared}
theorem back_applied {sl : Addr} {vs : Value} {n : Nat} {Q : Int × Int × Nat → Shared → Prop} (hs : s.heap.IsSliceOf sl .none .none vs) (ps : IsPart vs (some (-1)))
    (h : Q ((n : Int) - 1, -1, n) s) : wpAny (model prog w) A (Builtin.Slice.sliceApplied (.ref sl) (pure (n : Int))) Q E s := by
  obtain ⟨o, q1, q2, q3⟩ := hs
  unfold Builtin.Slice.sliceApplied
  unfold Builtin.Slice.sliceFields
  refine wpAny_bind (wpAny_bind (wpAny_field q1 q3 (x := .none) rfl (wpAny_bind (wpAny_field q1 q3 (x := .none) rfl (wpAny_bind (wpAny_field q1 q3 (x := vs) rfl (wpAny_pure ?_)))))))
  refine wpAny_bind (slicePart_ ps ?_)
  show wpAny _ _ (if ((-1 : Int) == 0) = true then _ else _) _ _ s
  rw [if_neg (by decide)]
  refine wpAny_bind (slicePart_ .none (wpAny_bind (slicePart_ .none (wpAny_bind (wpAny_pure ?_)))))
  have e : Builtin.Slice.slicePlaces ((n : Int) - 1) (-1) (-1) = n := by
    unfold Builtin.Slice.slicePlaces
    have h1 : ¬ ((-1 : Int) > 0) := by omega
    have h2 : (- -1 : Int) = 1 := by omega
    simp only [h1, if_false, h2, Int.ediv_one]
    split <;> omega
  show wpAny _ _ (pure ((n : Int) - 1, (-1 : Int), Builtin.Slice.slicePlaces ((n : Int) - 1) (-1) (-1))) _ _ s
  rw [e]
  exact wpAny_pure h
theorem back_tuple {t sl : Addr} {items : Array Value} {vs : Value} {Q : Value → Shared → Prop} (ht : IsTup s.heap t items) (hs : s.heap.IsSliceOf sl .none .none vs) (ps : IsPart vs (some (-1)))
    (h : Q (.ref s.heap.objs.size) { s with heap := s.heap.push { cls := .type "tuple", data := .seq items.toList.reverse.toArray } }) (hsz : items.size ≤ sizeLine) : wpAny (model prog w) A (getItem (.ref t) (.ref sl)) Q E s := by
  have hfit : sizeOk (.seq items.toList.reverse.toArray) := by
    show items.toList.reverse.toArray.size ≤ sizeLine
    rw [List.size_toArray, List.length_reverse, Array.length_toList]
    exact hsz
  obtain ⟨o, q1, q2, q3⟩ := id hs
  have hT : s.TypeIs (.ref sl) "slice" := ⟨o, q1, q2⟩
  unfold getItem
  (try with_reducible refine wpAny_holding ?_)
  first
    | refine wpAny_bind (wpAny_pure ?_)
    | skip
  refine wpAny_bind (wpAny_sequenceKey ht.typeIs (by decide) ?_)
  refine wpAny_bind (wpAny_callSpecial?_slot (name := Str.ofString "__getitem__") ht.typeIs PyProof.Rows.slot_tuple_getitem (wpAny_call_entry PyProof.Rows.slot_tuple_getitem ht.typeIs entry_tuple_getitem ?_ (args_tuple_getitem _ _)))
  show wpAny _ _ (Builtin.Tuple.tupleItemsOf (.ref t) >>= _) _ _ s
  refine wpAny_bind (tupleItemsOf_ ht (wpAny_bind (wpAny_typeOf hT ?_)))
  rw [if_pos (by decide)]
  refine wpAny_bind (back_applied hs ps ?_)
  have hno : ¬ ((((items.size : Nat) : Int) - 1 == 0 && (-1 : Int) == 1 && items.size == items.size) = true) := by
    intro q
    rw [Bool.and_eq_true, Bool.and_eq_true] at q
    exact absurd q.1.2 (by decide)
  show wpAny _ _ (if ((((items.size : Nat) : Int) - 1 == 0 && (-1 : Int) == 1 && items.size == items.size) = true) then _ else _) _ _ s
  have hpick : ((List.range items.size).filterMap fun (k : Nat) => items[(((items.size : Nat) : Int) - 1 + (k : Int) * (-1)).toNat]?).toArray = items.toList.reverse.toArray := by
    have := turned_list items.toList
    rw [Array.length_toList] at this
    simp only [Array.getElem?_toList] at this
    rw [this]
  rw [if_neg hno, hpick]
  first
    | exact wpAny_bind (m := Builtin.Tuple.tupleExact _) (wpAny_newObj_type (wpAny_pure ⟨_, rfl, wpAny_pure h⟩) hfit)
    | exact wpAny_bind (m := Builtin.Tuple.tupleExact _) (wpAny_newObj_type (wpAny_bind (wpAny_pure (wpAny_pure ⟨_, rfl, wpAny_pure h⟩))) hfit)
    | exact wpAny_bind (wpAny_bind (m := Builtin.Tuple.tupleExact _) (wpAny_newObj_type (wpAny_pure (wpAny_pure ⟨_, rfl, wpAny_pure h⟩)) hfit))
    | exact wpAny_bind (wpAny_bind (m := Builtin.Tuple.tupleExact _) (wpAny_newObj_type (wpAny_pure ⟨_, rfl, wpAny_pure h⟩) hfit))
end
def tRevT (K : PySem.W.Frag) (te : TE) : TE := fun σ H Q => te σ H fun x J => ∃ a ys, x = .ref a ∧ SqT K J a ys ∧ ∀ p, J p = none → Q (.ref p) (upd J p (.tup ys.reverse))
section
variable {X : Cx}
theorem pe_revT {b : Expr} {tb : TE} {k : Nat} {z1 z2 z3 z4 : Pos} (hb : PE X b tb) : PE X (.Subscript b (.Slice none none (some (.UnaryOp .USub (.Constant (.int 1) k z1) z2)) z3) z4) (tRevT X.K tb) := by
  refine ⟨fun ps s τ J Q I h => ?_⟩
  refine Subscript_ (thn (hb.run ps s τ J _ I h) fun v t ⟨x, J1, I1, r1, g⟩ => ?_)
  obtain ⟨a, ys, rfl, hy, q⟩ := g
  cases r1
  have hm : PO X (some (.UnaryOp .USub (.Constant (.int 1) k z1) z2)) (tPart (tUn (rU fun i => .int (-i)) (tC (.int 1)))) := po_some (pe_un un_neg pe_int)
  refine wpAny_Slice (thn (po_none.run ps t τ J1 (fun o G => o = none ∧ G = J1) I1 ⟨rfl, rfl⟩) fun vl t2 ⟨l, G, I2, pl, el, eG⟩ => ?_)
  cases el
  cases eG
  refine thn (po_none.run ps t2 τ J1 (fun o G => o = none ∧ G = J1) I2 ⟨rfl, rfl⟩) fun vu t3 ⟨u, G, I3, pu, eu, eG⟩ => ?_
  cases eu
  cases eG
  refine thn (hm.run ps t3 τ J1 (fun o G => o = some (-1) ∧ G = J1) I3 ⟨1, rfl, -1, rfl, rfl, rfl⟩) fun vs t4 ⟨c, G, I4, pc, ec, eG⟩ => ?_
  cases ec
  cases eG
  cases pl
  cases pu
  have I5 : Inv X ps τ J1 { t4 with heap := t4.heap.push { cls := .type "slice", data := .fields #[.none, .none, vs] } } := I4.kept (t' := t4.toks) fun p ob e => Heap.get?_push_of_some _ e
  obtain ⟨its, r, hT, hz⟩ := I5.tuple hy
  have hl := r.length
  show wpAny (model X.prog X.w) X.A (subscriptTail b (.Slice none none (some (.UnaryOp .USub (.Constant (.int 1) k z1) z2)) z3) (.ref a) (.ref t4.heap.objs.size)) (EP X ps τ Q) X.xe { t4 with heap := t4.heap.push { cls := .type "slice", data := .fields #[.none, .none, vs] } }
  refine tail_any (ops := [.ref a, .ref t4.heap.objs.size]) hT.typeIs PyProof.Rows.slot_tuple_getitem.lookup ?_ (by with_unfolding_all rfl)
  refine back_tuple hT (Heap.IsSliceOf.new _ .none .none vs) pc ?_ (by rw [List.size_toArray]; omega)
  refine ⟨.ref _, _, I5.laid (t' := t4.toks) (o := .tup ys.reverse) (fun p ob e => Heap.get?_push_of_some _ e) (Nat.le_refl _) ?_, rfl, q _ (I5.hok.fresh (Nat.le_refl _))⟩
  exact ⟨by rw [List.length_reverse]; exact hz, its.reverse, r.reverse, IsTup.new _ _⟩
end
def gRevT : G1
  | .tuple ds => some (.tuple ds.reverse)
  | _ => none
section
variable {C : Cn} {ta : TE}
theorem ee_revT {ar : Ar} (ha : ArE C ta ar) : EE C (tRevT C.K ta) (eUn gRevT ar) := fun f B σ H ρ d ρ' Q S e k => by
  obtain ⟨⟨x, ρ1⟩, e1, q⟩ := Option.bind_eq_some_iff.mp e
  obtain ⟨d', e2, q⟩ := Option.bind_eq_some_iff.mp q
  cases q
  refine ar1 ha S e1 fun v B1 H1 eb S1 hv => ?_
  cases x with
  | tuple ds =>
    cases e2
    obtain ⟨p, vs, rfl, hq, hvs⟩ := hv.tup S1.bh
    exact ⟨p, vs, rfl, hq, fun q hq' => by
      have nb := S1.bh.free hq'
      exact k _ _ _ (eb.trans (Ex.new nb)) (S1.alloc hq') (.tup (SqT.of upd_same) (hvs.reverse.mono (Ex.new nb)))⟩
  | _ => cases e2
@[simp] theorem gRevT_t (l : List D) : gRevT (.tuple l) = some (.tuple l.reverse) := rfl
end
end Fc
set_option Elab.async false
set_option linter.all false
set_option maxRecDepth 100000
set_option maxHeartbeats 1000000
/-! Fc: odd dicts, != of what holds them, // by a great number. -/
namespace PySem.SeqAt
open AutoSeq1 (wpAny_loadPart')
open MeetsSeq MeetsSeq2 MeetsSeq3 SeqRoads2
section
variable {P : Program} {w : World}
/-- what is asked of two lists that are compared -/
def Lists2 (P : Program) (w : World) (x y : Addr) (us ws : Array Value) (c1 c2 : Nat) (d1 d2 : Option Addr) (s1 s2 : Array (Option Value)) (g : Nat → Bool) (A : Around) (t : Shared) : Prop :=
  t.heap.get? x = some { cls := .type "list", dict := d1, data := .seq us c1, slots := s1 } ∧ t.heap.get? y = some { cls := .type "list", dict := d2, data := .seq ws c2, slots := s2 } ∧ ∀ j (q1 : j < us.size) (q2 : j < ws.size), EqP P w A.in1 t us[j] ws[j] (g j)
theorem ne_turns (x y : Addr) (us ws : Array Value) (c1 c2 : Nat) (d1 d2 : Option Addr) (s1 s2 : Array (Option Value)) (hz : us.size = ws.size) (g : Nat → Bool) (m : Nat) :
    ∀ i : Nat, us.size - i = m → MeetsIn P w (Builtin.«list.__eq__.loop» ⟨[.ref x, .ref y, rawInt i, rawInt 3], []⟩)
      (fun A R t => (t.heap.get? x = some { cls := .type "list", dict := d1, data := .seq us c1, slots := s1 } ∧ t.heap.get? y = some { cls := .type "list", dict := d2, data := .seq ws c2, slots := s2 } ∧ ∀ j (q1 : j < us.size) (q2 : j < ws.size), EqP P w A.in1 t us[j] ws[j] (g j)) ∧
        R (.ok (.ret (.bool (!((List.range us.size).drop i).all g)))) t) := by
  induction m with
  | zero =>
    intro i hm A R t h
    obtain ⟨t1, t2, t3, t4, t5⟩ := t
    obtain ⟨⟨hx, hy, hg⟩, h⟩ := h
    wp_walk using wpAny_loadPart' hx, wpAny_loadPart' hy
    have n1 : us[((i : Nat) : Int).toNat]? = none := by simp; omega
    have n2 : ws[((i : Nat) : Int).toNat]? = none := by simp; omega
    have n3 : (List.range us.size).drop i = [] := by simp; omega
    rw [n3] at h
    rw [n1, n2]
    wp_walk using wpAny_loadPart' hx, wpAny_loadPart' hy
    show R (.ok (.ret (.bool (us.size != ws.size)))) _
    rw [hz]
    simpa using h
  | succ m ih =>
    intro i hm A R t h
    obtain ⟨t1, t2, t3, t4, t5⟩ := t
    obtain ⟨⟨hx, hy, hg⟩, h⟩ := h
    wp_walk using wpAny_loadPart' hx, wpAny_loadPart' hy
    have l1 : i < us.size := by omega
    have l2 : i < ws.size := by omega
    have n1 : us[((i : Nat) : Int).toNat]? = some us[i] := by simp [l1]
    have n2 : ws[((i : Nat) : Int).toNat]? = some ws[i] := by simp [l2]
    have n3 : (List.range us.size).drop i = i :: (List.range us.size).drop (i + 1) := by simp [List.drop_eq_getElem_cons, l1]
    have n4 : ((i : Int) + 1) = ((i + 1 : Nat) : Int) := by push_cast; rfl
    rw [n3, List.all_cons] at h
    rw [n1, n2]
    refine wpAny_bind (hg i l1 l2 _ _ ?_)
    cases q : g i with
    | true =>
      rw [q] at h
      wp_walk
      rw [n4]
      refine ⟨plainId_quiet plain_eq_loop _, codeAny_builtin entry_eq_loop ?_⟩
      rw [Around.under_plainId plain_eq_loop _]
      exact ih (i + 1) (by omega) A R _ ⟨⟨hx, hy, hg⟩, by simpa using h⟩
    | false =>
      rw [q] at h
      wp_walk using wpAny_loadPart' hx, wpAny_loadPart' hy
      rw [n1, n2]
      wp_walk
      simpa using h
theorem ne_all (x y : Addr) (us ws : Array Value) (c1 c2 : Nat) (d1 d2 : Option Addr) (s1 s2 : Array (Option Value)) (hz : us.size = ws.size) (g : Nat → Bool) :
    MeetsIn P w (Builtin.«list.__ne__» ⟨[.ref x, .ref y], []⟩)
      (fun A R t => (t.heap.get? x = some { cls := .type "list", dict := d1, data := .seq us c1, slots := s1 } ∧ t.heap.get? y = some { cls := .type "list", dict := d2, data := .seq ws c2, slots := s2 } ∧ ∀ j (q1 : j < us.size) (q2 : j < ws.size), EqP P w A.in1 t us[j] ws[j] (g j)) ∧
        R (.ok (.ret (.bool (!(List.range us.size).all g)))) t) := by
  intro A R t h
  obtain ⟨t1, t2, t3, t4, t5⟩ := t
  obtain ⟨⟨hx, hy, hg⟩, h⟩ := h
  have f3 := AutoSeq1.sub_list_list
  have hno : ¬ (us.size != ws.size) = true := by simp [hz]
  wp_walk using wpAny_loadPart' hx, wpAny_loadPart' hy
  refine ⟨plainId_quiet plain_eq_loop _, codeAny_builtin entry_eq_loop ?_⟩
  rw [Around.under_plainId plain_eq_loop _]
  exact ne_turns x y us ws c1 c2 d1 d2 s1 s2 hz g _ 0 rfl A R _ ⟨⟨hx, hy, hg⟩, by simpa using h⟩
theorem neP_lists {A : Around} {t : Shared} {x y : Addr} {us ws : Array Value} {g : Nat → Bool} (hx : t.heap.IsList x us) (hy : t.heap.IsList y ws) (hz : us.size = ws.size) (hu : A.units < cLine)
    (hg : ∀ j (q1 : j < us.size) (q2 : j < ws.size), EqP P w A.in1 t us[j] ws[j] (g j)) (E Q : Value → Shared → Prop) (h : Q (.bool (!(List.range us.size).all g)) t) : wpAny (model P w) A (richCompare .NotEq (.ref x) (.ref y)) Q E t := by
  obtain ⟨⟨k1, d1, e1, s1⟩, o1, r1, c1, p1⟩ := id hx
  obtain ⟨⟨k2, d2, e2, s2⟩, o2, r2, c2, p2⟩ := id hy
  simp only at r1 p1 r2 p2
  subst r1 p1 r2 p2
  have tx : t.TypeIs (.ref x) "list" := ⟨_, o1, rfl⟩
  have ty : t.TypeIs (.ref y) "list" := ⟨_, o2, rfl⟩
  exact wpAny_richCompare_same_room (op := .NotEq) tx ty F.slot_list_ne (call_meetsIn F.slot_list_ne tx F.entry_list_ne (F.args_list_ne_2 _ _) (ne_all x y us ws c1 c2 d1 d2 s1 s2 hz g)
    ⟨⟨o1, o2, hg⟩, show Value.bool (!(List.range us.size).all g) ≠ Value.notImplemented ∧ Q (.bool (!(List.range us.size).all g)) t from ⟨(fun z => nomatch z), h⟩⟩) hu
end
end PySem.SeqAt
namespace Fc
open PySem L2 PyProof.Rows
/-! ### odd dicts are made -/
section
variable {C : Cn}
def eOdd0 : EF := fun ρ => some (.dict [(.int 0, .none)], ρ)
def eOdd1 : EF := fun ρ => some (.dict [(.int 1, .none)], ρ)
theorem ee_odd0 : EE C tDNewK eOdd0 := fun f B σ H ρ d ρ' Q S e k => by
  cases e
  intro p hp
  have nb := S.bh.free hp
  exact k _ _ _ (Ex.new nb) (S.alloc hp) (.odd (n := 0) upd_same)
theorem ee_odd1 : EE C (tDisp [(tC (.int 1), tC (.int 2))]) eOdd1 := fun f B σ H ρ d ρ' Q S e k => by
  cases e
  intro p hp
  have nb := S.bh.free hp
  have e2 : upd (upd H p (.dK [])) p (.dK (mergeK [] [(.inl 1, V.int 2)])) = upd H p (.dK (oddK 1)) := by
    funext a
    unfold upd
    by_cases h : a = p
    · rw [if_pos h, if_pos h]; rfl
    · rw [if_neg h, if_neg h, if_neg h]
  refine ⟨upd_same, [(.inl 1, V.int 2)], rfl, by decide, ?_⟩
  rw [e2]
  exact k _ _ _ (Ex.new nb) (S.alloc hp) (.odd (n := 1) upd_same)
end
/-! ### != of a thing and its copy -/
def SelfEq (K : PySem.W.Frag) (H : Hp) (x y : V) : Prop := (∃ d, Dp K H x d ∧ Dp K H y d ∧ SeqAt.shaped d = true ∧ PyData.eqv d d = true) ∨ EqV K H 2 x y
def rNeL (K : PySem.W.Frag) : R2 := fun x y H Q => ∃ a b xs ys, x = .ref a ∧ y = .ref b ∧ SqL K H a xs ∧ SqL K H b ys ∧ Paired (SelfEq K H) xs ys ∧ Q (.bl false) H
def rNeO (K : PySem.W.Frag) : R2 := fun x y H Q => rNeD K x y H Q ∨ rNeL K x y H Q ∨ rNeDA x y H Q
section
variable {X : Cx}
theorem self_run {pins : List (Addr × Obj)} {σ : L2.St} {H : Hp} {s : Shared} (I : Inv X pins σ H s) {A : Around} (hu : A.units + 64 < cLine) {x y : V} {v u : Value} (h : SelfEq X.K H x y) (rx : RelV x v) (ry : RelV y u) : SeqAt.EqP X.prog X.w A s v u true := by
  rcases h with ⟨d, h1, h2, h3, h4⟩ | h
  · obtain ⟨as, r1⟩ := Dp.reads I d x v h1 rx
    obtain ⟨bs, r2⟩ := Dp.reads I d y u h2 ry
    have e := SeqAt.eqAt_reads d d A s v u as bs r1 r2 (SeqAt.canLay_of_shaped h3) (SeqAt.canLay_of_shaped h3) (by have := SeqAt.depth_of_shaped h3; omega)
    rw [h4] at e
    exact e.eqP
  · exact eqV_run I 2 A (by omega) x y v u h rx ry
theorem op_neL (hu : X.A.units + 65 < cLine) : OpR X (compareOp .NotEq) (rNeL X.K) := by
  intro ps s τ J x y v u Q I rx ry h
  obtain ⟨a, b, xs, ys, rfl, rfl, ha, hb, hp, q⟩ := h
  cases (show v = Value.ref a from rx)
  cases (show u = Value.ref b from ry)
  obtain ⟨us, r1, p1, _⟩ := I.list ha
  obtain ⟨ws, r2, p2, _⟩ := I.list hb
  have hz : us.toArray.size = ws.toArray.size := by
    rw [List.size_toArray, List.size_toArray, ← r1.length, ← r2.length]
    exact Paired.length hp
  refine SeqAt.neP_lists (g := fun _ => true) p1.isList p2.isList hz (by omega) (fun j h1 h2 => ?_) _ _ ?_
  · have k := items_run (fun x y v u h rx ry => self_run I (A := X.A.in1) (by show X.A.units + 1 + 64 < cLine; omega) h rx ry) hp r1 r2 j (by simpa using h1) (by simpa using h2)
    simpa using k
  · rw [show ((List.range us.toArray.size).all fun _ => true) = true from List.all_eq_true.mpr fun _ _ => rfl]
    exact fin_bl I q rfl
theorem op_neO (hu : X.A.units + 65 < cLine) : OpR X (compareOp .NotEq) (rNeO X.K) := (op_neD (by omega)).or ((op_neL hu).or (op_ne_dictA (by omega)))
end
section
variable {C : Cn} {B H : Hp} {v u : V} {d : D}
def okO : D → Bool
  | .dict kvs => isOdd kvs
  | d => okD d && PyData.eqv d d
open Classical in
noncomputable def gNeO : G2 := fun a b => if okD a && okD b then gNe a b else match a, b with
  | .list xs, .list ys => if xs = ys ∧ xs.all okO = true then some (.bool false) else none
  | .dict xs, .dict ys => if xs = ys ∧ isOdd xs = true then some (.bool false) else none
  | _, _ => none
theorem odd_dn {n : Int} (h : Dn C B v (.dict [(.int n, .none)])) : ∃ a, v = V.ref a ∧ B a = some (.dK (oddK n)) := by
  cases h with
  | odd h => exact ⟨_, rfl, h⟩
  | dic _ h => exact (ents_no_odd h).elim
theorem odd_keys (n : Int) : ∀ p ∈ oddK n, valV (oddK n) p.1 = some p.2 ∧ flatB p.2 = true := fun p hp => by
  unfold oddK at hp ⊢
  split
  · rename_i h
    rw [if_pos h] at hp
    exact absurd hp List.not_mem_nil
  · rename_i h
    rw [if_neg h] at hp
    rw [List.mem_singleton] at hp
    subst hp
    exact ⟨rfl, rfl⟩
theorem self_dn (e : Ex B H) (hd : okO d = true) (h1 : Dn C B v d) (h2 : Dn C B u d) : SelfEq C.K H v u := by
  have flat : (okD d && PyData.eqv d d) = true → SelfEq C.K H v u := fun q => by
    obtain ⟨q1, q2⟩ := Bool.and_eq_true_iff.mp q
    exact .inl ⟨d, h1.dp e (okD_lay q1), h2.dp e (okD_lay q1), q1, q2⟩
  cases d with
  | dict kvs =>
    obtain ⟨n, rfl⟩ := isOdd_eq hd
    obtain ⟨a, rfl, ha⟩ := odd_dn h1
    obtain ⟨b, rfl, hb⟩ := odd_dn h2
    exact .inr (.inr (.inr (.inr ⟨a, b, _, _, rfl, rfl, e _ _ ha, e _ _ hb, rfl, fun p hp => ⟨p.2, (odd_keys n p hp).1, .inl ⟨rfl, (odd_keys n p hp).2⟩⟩⟩)))
  | none => exact flat hd
  | bool _ => exact flat hd
  | int _ => exact flat hd
  | str _ => exact flat hd
  | list _ => exact flat hd
  | tuple _ => exact flat hd
theorem self_dns (e : Ex B H) : ∀ {ds : List D} {vs us : List V}, ds.all okO = true → Dns C B vs ds → Dns C B us ds → Paired (SelfEq C.K H) vs us
  | [], _, _, _, .nil, .nil => .nil
  | d :: ds, _, _, hd, .cons h1 t1, .cons h2 t2 => by
    rw [List.all_cons, Bool.and_eq_true] at hd
    exact .cons (self_dn e hd.1 h1 h2) (self_dns e hd.2 t1 t2)
theorem rb_neO : RB C (rNeO C.K) gNeO := fun f B σ H ρ x y a b d Q S hx hy e k => by
  unfold gNeO at e
  split at e
  · exact .inl (rb_ne f B σ H ρ x y a b d Q S hx hy e k)
  · split at e
    · split at e
      · rename_i h
        obtain ⟨rfl, hd⟩ := h
        cases e
        obtain ⟨p, vs, rfl, hp, hvs⟩ := hx.list S.bh
        obtain ⟨q, us, rfl, hq, hus⟩ := hy.list S.bh
        exact .inr (.inl ⟨p, q, vs, us, rfl, rfl, hp, hq, self_dns S.bh hd hvs hus, k _ B H (Ex.refl B) S (.bl _)⟩)
      · cases e
    · split at e
      · rename_i h
        obtain ⟨rfl, hd⟩ := h
        cases e
        obtain ⟨n, rfl⟩ := isOdd_eq hd
        have get : ∀ {z : V}, Dv C B H z (.dict [(.int n, .none)]) → ∃ a, z = V.ref a ∧ H a = some (.dK (oddK n)) := fun {z} hz => by
          rcases hz with hz | ⟨p, rfl, xs, ep, _, hz⟩
          · obtain ⟨a, e1, e2⟩ := odd_dn hz
            exact ⟨a, e1, S.bh _ _ e2⟩
          · exact (ents_no_odd hz).elim
        obtain ⟨p, rfl, hp⟩ := get hx
        obtain ⟨q, rfl, hq⟩ := get hy
        exact .inr (.inr ⟨p, q, _, _, rfl, rfl, hp, hq, rfl, odd_keys n, k _ B H (Ex.refl B) S (.bl _)⟩)
      · cases e
    · cases e
end
/-! ### // by a number of up to two hundred bits -/
def CDivW (i j : Int) : Prop := 0 < j ∧ j < 10 ^ 60
theorem op_fdivW {X : Cx} : OpR X (binaryOp .FloorDiv) (rI CDivW fun i j => .int (i / j)) := opI fun i j _ _ _ _ _ hc q => by
  have h1 : (0 : Int) < j := hc.1
  have h2 : j < 10 ^ 60 := hc.2
  have h3 : j.natAbs.log2 < 9000 := (Nat.log2_lt (by omega)).mpr (Nat.lt_of_lt_of_le (show j.natAbs < 10 ^ 60 by omega) (by decide +kernel))
  exact floordiv_int (by omega) (by rw [Int.fdiv_eq_ediv_of_nonneg i (by omega)]; exact q) (.inl (PyProof.noPylong_of_log2 h3))
noncomputable abbrev gDivW : G2 := gIC (hide fun i j => decide (0 < j ∧ j < 10 ^ 60)) fun i j => .int (i / j)
theorem rb_divW {C : Cn} : RB C (rI CDivW fun i j => .int (i / j)) gDivW := rb_ic (fun i j h => by have h' := of_decide_eq_true ((hide_ap _ _ _).symm.trans h); exact h') fun i j B => .int _
end Fc
set_option Elab.async false
set_option linter.all false
set_option maxRecDepth 100000
set_option maxHeartbeats 1000000
/-! Fc: xs == [], xs != []. -/
namespace Fc
open PySem L2 PyProof.Rows
def rNil (K : PySem.W.Frag) (neg : Bool) : R2 := fun x y H Q => ∃ a b xs, x = .ref a ∧ y = .ref b ∧ SqL K H a xs ∧ SqL K H b ([] : List V) ∧ Q (.bl (if neg then !xs.isEmpty else xs.isEmpty)) H
section
variable {X : Cx}
theorem op_eqNil (hu : X.A.units + 65 < cLine) : OpR X (compareOp .Eq) (rNil X.K false) := by
  intro ps s τ J x y v u Q I rx ry h
  obtain ⟨a, b, xs, rfl, rfl, ha, hb, q⟩ := h
  cases (show v = Value.ref a from rx)
  cases (show u = Value.ref b from ry)
  obtain ⟨us, r1, p1, _⟩ := I.list ha
  obtain ⟨ws, r2, p2, _⟩ := I.list hb
  cases r2
  cases r1 with
  | nil => exact SeqAt.rcP_lists (e := fun _ => true) p1.isList p2.isList rfl (by omega) (fun j h1 h2 => absurd h1 (Nat.not_lt_zero _)) _ _ (fin_bl I q rfl)
  | cons _ _ => exact SeqAt.RcAt.lists_lengths p1.isList p2.isList (by simp) (by omega) _ _ _ _ (fin_bl I q rfl)
theorem op_neNil (hu : X.A.units + 65 < cLine) : OpR X (compareOp .NotEq) (rNil X.K true) := by
  intro ps s τ J x y v u Q I rx ry h
  obtain ⟨a, b, xs, rfl, rfl, ha, hb, q⟩ := h
  cases (show v = Value.ref a from rx)
  cases (show u = Value.ref b from ry)
  obtain ⟨us, r1, p1, _⟩ := I.list ha
  obtain ⟨ws, r2, p2, _⟩ := I.list hb
  cases r2
  cases r1 with
  | nil => exact SeqAt.neP_lists (g := fun _ => true) p1.isList p2.isList rfl (by omega) (fun j h1 h2 => absurd h1 (Nat.not_lt_zero _)) _ _ (fin_bl I q rfl)
  | cons _ _ => exact SeqAt.RcNeAt.lists_lengths p1.isList p2.isList (by simp) (by omega) _ _ _ _ (fin_bl I q rfl)
end
def gNil (neg : Bool) : G2
  | .list ds, .list [] => some (.bool (if neg then !ds.isEmpty else ds.isEmpty))
  | _, _ => none
section
variable {C : Cn}
theorem rb_nil {neg : Bool} : RB C (rNil C.K neg) (gNil neg) := fun f B σ H ρ x y a b d Q S hx hy e k => by
  unfold gNil at e
  split at e
  · rename_i ds
    cases e
    obtain ⟨p, vs, rfl, hp, hvs⟩ := hx.list S.bh
    obtain ⟨q, us, rfl, hq, hus⟩ := hy.list S.bh
    cases hus
    refine ⟨p, q, vs, rfl, rfl, hp, hq, ?_⟩
    have e : vs.isEmpty = ds.isEmpty := by cases hvs <;> rfl
    rw [e]
    exact k _ B H (Ex.refl B) S (.bl _)
  · cases e
@[simp] theorem gNil_ap (neg : Bool) (ds : List D) : gNil neg (.list ds) (.list []) = some (.bool (if neg then !ds.isEmpty else ds.isEmpty)) := by cases neg <;> rfl
end
end Fc
set_option maxHeartbeats 4000000
set_option Elab.async false
set_option linter.all false
set_option maxRecDepth 100000
namespace Fc
open PySem L2
noncomputable section
def D_DEEDS : D := .tuple [.str "group", .str "single", .str "part", .str "go"]
def D_MOST_ROWS : D := .int 8
def D_START : D := .tuple [.int 0, .tuple [], .int 0, .int 0]
def F_L_deck : SF := sSeq (sAsg (eC (.int 0)) (gNm 2)) (sSeq (sIf (tOf (eOp (gLt) (.v 1) (.e (eUn gLenA (.v 0))))) (sAsg (eUn gAbs (.e (eOp gIxA (.v 0) (.v 1)))) (gNm 2)) (sNext)) (sRetO (eLst [eOp gMax (.e (eC (.int 0))) (.e (eOp gMinus (.v 2) (.e (eOp gPow (.e (eC (.int 10))) (.e (eC (.int 18))))))), eOp gAdd (.e (eOp gMod (.e (eUn gToInt (.e (eOp gAdd (.v 2) (.e (eOp gMulA (.e (eC (.int 7919))) (.v 1))))))) (.e (eC (.int 2147483629))))) (.e (eC (.int 1)))])))
def fn_L_deck : List D -> Option (Rs × List D) := fnR [false, false] 1 F_L_deck
def F_L_take : SF := sSeq (sIf (tOf (eOp (gGt) (.e (eOp gIxA (.v 0) (.e (eC (.int 0))))) (.e (eC (.int 0))))) (sSeq (sAsg (eOp gMod (.e (eUn gToInt (.e (eOp gIxA (.v 0) (.e (eC (.int 0))))))) (.v 1)) (gNm 2)) (sSeq (sSetA 0 (eOp gDiv (.e (eOp gIxA (.v 0) (.e (eC (.int 0))))) (.v 1)) (eC (.int 0))) (sRet (eVar 2)))) (sNext)) (sSeq (sSetA 0 (eOp gMod (.e (eUn gToInt (.e (eOp gMulA (.e (eOp gIxA (.v 0) (.e (eC (.int 1))))) (.e (eC (.int 48271))))))) (.e (eC (.int 2147483647)))) (eC (.int 1))) (sSeq (sAsg (eOp gMod (.e (eUn gToInt (.e (eOp gMulA (.e (eOp gIxA (.v 0) (.e (eC (.int 1))))) (.e (eOp gIxA (.v 0) (.e (eC (.int 1))))))))) (.e (eC (.int 2147483629)))) (gNm 3)) (sRet (eOp gMod (.e (eOp gDiv (.e (eOp gMod (.e (eUn gToInt (.e (eOp gMulA (.v 3) (.e (eC (.int 40692))))))) (.e (eC (.int 2147483399))))) (.e (eC (.int 8))))) (.v 1)))))
def fn_L_take : List D -> Option (Rs × List D) := fnR [true, false] 2 F_L_take
def F_L_sizes_c1 : TF := tOf (eOp (gEq) (.e (eCall [.io 0, .e (eC (.int 2))] [] fn_L_take)) (.e (eC (.int 1))))
def F_L_sizes : SF := sSeq (sAsg (eLc [4] (Fc.iRng2 (eC (.int 1)) (eOp gAdd (.v 1) (.e (eC (.int 1))))) (gNm 4) F_L_sizes_c1 (eVar 4)) (gNm 3)) (sSeq (sIf (tOf (eOp (gEq) (.v 3) (.e (eLst [])))) (sAsg (eLst [eOp gAdd (.e (eC (.int 1))) (.e (eCall [.io 0, .e (eVar 1)] [] fn_L_take))]) (gNm 3)) (sNext)) (sRet (eUn gTuple (.e (eSl (.v 3) (oNone) (oSome (eVar 2)))))))
def fn_L_sizes : List D -> Option (Rs × List D) := fnR [true, false, false] 2 F_L_sizes
def F_L_small_setup_e1 : EF := eOp gAdd (.e (eC (.int 1))) (.e (eCall [.io 0, .e (eC (.int 3))] [] fn_L_take))
def F_L_small_setup : SF := sSeq (sAsg (eUn gTuple (.e (eLc [4] (iRng (eOp gAdd (.e (eC (.int 1))) (.e (eOp gDiv (.e (eCall [.io 0, .e (eC (.int 4))] [] fn_L_take)) (.e (eC (.int 3))))))) (gNm 4) (tfYes) F_L_small_setup_e1))) (gNm 1)) (sSeq (sAsg (eCall [.io 0, .e (eC (.int 3)), .e (eC (.int 2))] [] fn_L_sizes) (gNm 2)) (sSeq (sAsg (eTup [eOp gAdd (.e (eC (.int 1))) (.e (eCall [.io 0, .e (eC (.int 2))] [] fn_L_take)), eCall [.io 0, .e (eC (.int 3))] [] fn_L_take]) (gNm 3)) (sRet (eTup [eVar 1, eVar 2, eVar 3, eTup [eOp gMinus (.e (eC (.int 2))) (.e (eCall [.io 0, .e (eC (.int 3))] [] fn_L_take)), eOp gIxA (.e (eLst [eC (.int 1), eC (.int 1), eC (.int 0), eC (.int 2)])) (.e (eCall [.io 0, .e (eC (.int 4))] [] fn_L_take))]]))))
def fn_L_small_setup : List D -> Option (Rs × List D) := fnR [true] 4 F_L_small_setup
def F_L_range : SF := sSeq (sAsg (eCall [.io 0, .e (eC (.int 3))] [] fn_L_take) (gNm 1)) (sSeq (sIf (tOf (eOp (gEq) (.v 1) (.e (eC (.int 0))))) (sRet (eTup [eC (.int 0), eC (.int 9)])) (sNext)) (sSeq (sAsg (eCall [.io 0, .e (eC (.int 6))] [] fn_L_take) (gNm 2)) (sSeq (sIf (tOf (eOp (gEq) (.v 1) (.e (eC (.int 1))))) (sRet (eTup [eVar 2, eVar 2])) (sNext)) (sRet (eTup [eVar 2, eOp gAdd (.v 2) (.e (eCall [.io 0, .e (eOp gMinus (.e (eC (.int 10))) (.v 2))] [] fn_L_take))])))))
def fn_L_range : List D -> Option (Rs × List D) := fnR [true] 2 F_L_range
def F_L_rule_e1 : EF := eCall [.io 0] [] fn_L_range
def F_L_rule_b1 : SF := sSeq (sAsg (eLc [12] (iRng (eC (.int 3))) (gNm 12) (tfYes) F_L_rule_e1) (gNm 7)) (sSeq (sAsg (eOp gIxA (.v 4) (.e (eCall [.io 0, .e (eUn gLenA (.v 4))] [] fn_L_take))) (gNm 8)) (sDrop (eApp 5 (eTup [eCall [.io 0, .e (eVar 2)] [] fn_L_take, eOp gIxA (.v 7) (.e (eC (.int 0))), eOp gIxA (.v 7) (.e (eC (.int 1))), eOp gIxA (.v 7) (.e (eC (.int 2))), eVar 8, eCall [.io 0, .e (eVar 2)] [] fn_L_take]))))
def F_L_rule_b2 : SF := sSeq (sAsg (eOp gIxA (.e (eLst [eTup [eC (.int 0), eC (.int 9)], eTup [eC (.int 0), eC (.int 9)], eTup [eC (.int 0), eC (.int 9)], eCall [.io 0] [] fn_L_range])) (.e (eCall [.io 0, .e (eC (.int 4))] [] fn_L_take))) (gNm 11)) (sDrop (eApp 5 (eTup [eVar 9, eTup [eC (.int 0), eC (.int 9)], eVar 11, eTup [eC (.int 0), eC (.int 9)], eVar 8, eCall [.io 0, .e (eVar 2)] [] fn_L_take])))
def F_L_rule_b3 : SF := sSeq (sAsg (eOp gIxA (.e (eLst [eLst [eC (.str "group"), eC (.str "single")], eLst [eC (.str "single"), eC (.str "group")], eLst [eC (.str "group")], eLst [eC (.str "single")]])) (.e (eCall [.io 0, .e (eC (.int 4))] [] fn_L_take))) (gNm 10)) (sSeq (sIf (fAnd (tOf (eOp (gEq) (.v 3) (.e (eC (.int 1))))) (tOf (eOp (gEq) (.e (eCall [.io 0, .e (eC (.int 3))] [] fn_L_take)) (.e (eC (.int 1)))))) (sAsg (eOp gAdd (.v 10) (.e (eLst [eC (.str "part")]))) (gNm 10)) (sNext)) (sFor (iOf (eVar 10)) (gNm 8) F_L_rule_b2 [8, 11]))
def F_L_rule : SF := sSeq (sAsg (eSl (.e (eLst [eC (.str "group"), eC (.str "single"), eC (.str "go"), eC (.str "group"), eC (.str "single"), eC (.str "part")])) (oNone) (oSome (eOp gAdd (.e (eC (.int 5))) (.v 3)))) (gNm 4)) (sSeq (sAsgO (eLst []) 5) (sSeq (sIf (tOf (eOp (gEq) (.e (eCall [.io 0, .e (eC (.int 2))] [] fn_L_take)) (.e (eC (.int 1))))) (sSeq (sFor (iRng (eCall [.io 0, .e (eOp gAdd (.v 1) (.e (eC (.int 1))))] [] fn_L_take)) (gNm 6) F_L_rule_b1 [6, 7, 8]) (sRet (eUn gTuple (.v 5)))) (sNext)) (sSeq (sFor (iRng (eVar 2)) (gNm 9) F_L_rule_b3 [8, 9, 10, 11]) (sRet (eUn gTuple (.e (eSl (.v 5) (oNone) (oSome (eC (.int 8))))))))))
def fn_L_rule : List D -> Option (Rs × List D) := fnR [true, false, false, false] 9 F_L_rule
def F_L_case : SF := sSeq (sAsg (eCall [.io 0] [] fn_L_small_setup) (gNm 2)) (sSeq (sAsg (eCall [.io 0, .e (eC (.int 8))] [] fn_L_take) (gNm 3)) (sSeq (sIf (tOf (eOp (gEq) (.v 3) (.e (eC (.int 7))))) (sRet (eTup [eTup [eSl (.e (eOp gIxA (.v 2) (.e (eC (.int 0))))) (oNone) (oSome (eC (.int 1))), eOp gIxA (.v 2) (.e (eC (.int 1))), eOp gIxA (.v 2) (.e (eC (.int 2))), eOp gIxA (.v 2) (.e (eC (.int 3)))], eCall [.io 0, .e (eVar 1), .e (eC (.int 3)), .e (eC (.int 1))] [] fn_L_rule])) (sNext)) (sSeq (sIf (tOf (eOp (gEq) (.v 3) (.e (eC (.int 6))))) (sAsg (eTup [eTup [eOp gAdd (.e (eC (.int 4))) (.e (eCall [.io 0, .e (eC (.int 2))] [] fn_L_take))], eCall [.io 0, .e (eC (.int 5)), .e (eC (.int 3))] [] fn_L_sizes, eTup [eOp gAdd (.e (eC (.int 1))) (.e (eCall [.io 0, .e (eC (.int 3))] [] fn_L_take)), eC (.int 0)], eTup [eC (.int 1), eC (.int 0)]]) (gNm 2)) (sNext)) (sRet (eTup [eVar 2, eCall [.io 0, .e (eVar 1), .e (eC (.int 2)), .e (eC (.int 1))] [] fn_L_rule])))))
def fn_L_case : List D -> Option (Rs × List D) := fnR [true, false] 2 F_L_case
def F_L_comers_e1 : EF := eOp gIxA (.e (eOp gIxA (.v 1) (.e (eC (.int 1))))) (.e (eCall [.io 0, .e (eUn gLenA (.e (eOp gIxA (.v 1) (.e (eC (.int 1))))))] [] fn_L_take))
def F_L_comers : SF := sSeq (sAsg (eLc [3] (iRng (eCall [.io 0, .e (eOp gAdd (.e (eOp gIxA (.e (eOp gIxA (.v 1) (.e (eC (.int 3))))) (.e (eC (.int 0))))) (.e (eC (.int 1))))] [] fn_L_take)) (gNm 3) (tfYes) F_L_comers_e1) (gNm 2)) (sRet (eTup [eUn gTuple (.v 2), eCall [.io 0, .e (eOp gAdd (.e (eOp gIxA (.e (eOp gIxA (.v 1) (.e (eC (.int 3))))) (.e (eC (.int 1))))) (.e (eC (.int 1))))] [] fn_L_take]))
def fn_L_comers : List D -> Option (Rs × List D) := fnR [true, false] 2 F_L_comers
def F_L_row_e1 : EF := eCall [.io 0, .e (eVar 1)] [] fn_L_comers
def F_L_row : SF := sRet (eLc [3] (iRng (eVar 2)) (gNm 3) (tfYes) F_L_row_e1)
def fn_L_row : List D -> Option (Rs × List D) := fnR [true, false, false] 1 F_L_row
def F_L_fits : SF := sSeq (sIf (fOr (tOf (eOp (gNe) (.e (eOp gIxA (.v 0) (.e (eC (.int 0))))) (.v 1))) (fNot (tOf (eChain (fun i j => decide (i ≤ j)) (fun i j => decide (i ≤ j)) (eOp gIxA (.e (eOp gIxA (.v 0) (.e (eC (.int 1))))) (.e (eC (.int 0)))) (eVar 2) (eOp gIxA (.e (eOp gIxA (.v 0) (.e (eC (.int 1))))) (.e (eC (.int 1)))))))) (sRet (eC (.bool false))) (sNext)) (sSeq (sIf (fOr (fNot (tOf (eChain (fun i j => decide (i ≤ j)) (fun i j => decide (i ≤ j)) (eOp gIxA (.e (eOp gIxA (.v 0) (.e (eC (.int 2))))) (.e (eC (.int 0)))) (eVar 3) (eOp gIxA (.e (eOp gIxA (.v 0) (.e (eC (.int 2))))) (.e (eC (.int 1))))))) (fNot (tOf (eChain (fun i j => decide (i ≤ j)) (fun i j => decide (i ≤ j)) (eOp gIxA (.e (eOp gIxA (.v 0) (.e (eC (.int 3))))) (.e (eC (.int 0)))) (eVar 4) (eOp gIxA (.e (eOp gIxA (.v 0) (.e (eC (.int 3))))) (.e (eC (.int 1)))))))) (sRet (eC (.bool false))) (sNext)) (sSeq (sIf (tOf (eOp (gEq) (.e (eOp gIxA (.v 0) (.e (eC (.int 4))))) (.e (eC (.str "group"))))) (sRet (eChain (fun i j => decide (i < j)) (fun i j => decide (i ≤ j)) (eC (.int 0)) (eVar 2) (eVar 3))) (sNext)) (sSeq (sIf (tOf (eOp (gEq) (.e (eOp gIxA (.v 0) (.e (eC (.int 4))))) (.e (eC (.str "single"))))) (sRet (eAnd (eOp (gGt) (.v 4) (.e (eC (.int 0)))) (eOp (gGt) (.v 3) (.e (eC (.int 0)))))) (sNext)) (sRet (eOr (eOp (gEq) (.e (eOp gIxA (.v 0) (.e (eC (.int 4))))) (.e (eC (.str "go")))) (eChain (fun i j => decide (j < i)) (fun i j => decide (j < i)) (eVar 2) (eVar 3) (eC (.int 0))))))))
def fn_L_fits : List D -> Option (Rs × List D) := fnR [false, false, false, false, false] 0 F_L_fits
def F_L_filled_c1 : TF := tOf (eCall [.e (eVar 9), .e (eVar 4), .e (eVar 7), .e (eVar 3), .e (eVar 2)] [] fn_L_fits)
def F_L_filled_b1 : SF := sSeq (sAsg (eOp gIxA (.e (eOp gAdd (.v 1) (.e (eLst [eC (.int 0)])))) (.e (eC (.int 0)))) (gNm 7)) (sSeq (sAsg (eLc [9] (iOf (eVar 0)) (gNm 9) F_L_filled_c1 (eVar 9)) (gNm 8)) (sSeq (sIf (tOf (eOp (gEq) (.v 8) (.e (eLst [])))) (sRet (eTup [eUn gTuple (.v 5), eVar 3, eUn gTuple (.v 1), eVar 2, eVar 4])) (sNext)) (sSeq (sAsg (eOp gIxA (.e (eOp gIxA (.v 8) (.e (eC (.int 0))))) (.e (eC (.int 5)))) (gNm 4)) (sSeq (sIf (tOf (eOp (gEq) (.e (eOp gIxA (.e (eOp gIxA (.v 8) (.e (eC (.int 0))))) (.e (eC (.int 4))))) (.e (eC (.str "go"))))) (sRet (eTup [eUn gTuple (.v 5), eVar 3, eUn gTuple (.v 1), eVar 2, eVar 4])) (sNext)) (sIf (tOf (eOp (gEq) (.e (eOp gIxA (.e (eOp gIxA (.v 8) (.e (eC (.int 0))))) (.e (eC (.int 4))))) (.e (eC (.str "group"))))) (sSeq (sDrop (eApp 5 (eTup [eC (.str "group"), eVar 7]))) (sSeq (sAsg (eOp gMinus (.v 3) (.v 7)) (gNm 3)) (sAsg (eSl (.v 1) (oSome (eC (.int 1))) (oNone)) (gNm 1)))) (sIf (tOf (eOp (gEq) (.e (eOp gIxA (.e (eOp gIxA (.v 8) (.e (eC (.int 0))))) (.e (eC (.int 4))))) (.e (eC (.str "single"))))) (sSeq (sDrop (eApp 5 (eTup [eC (.str "single"), eC (.int 1)]))) (sSeq (sAsg (eOp gMinus (.v 3) (.e (eC (.int 1)))) (gNm 3)) (sAsg (eOp gMinus (.v 2) (.e (eC (.int 1)))) (gNm 2)))) (sSeq (sDrop (eApp 5 (eTup [eC (.str "part"), eVar 3]))) (sSeq (sAsg (eOp gAdd (.e (eLst [eOp gMinus (.v 7) (.v 3)])) (.e (eSl (.v 1) (oSome (eC (.int 1))) (oNone)))) (gNm 1)) (sAsg (eC (.int 0)) (gNm 3))))))))))
def F_L_filled : SF := sSeq (sAsgO (eLst []) 5) (sSeq (sFor (iRng (eC (.int 7))) (gNm 6) F_L_filled_b1 [6, 7, 8]) (sRet (eTup [eUn gTuple (.v 5), eVar 3, eUn gTuple (.v 1), eVar 2, eVar 4])))
def fn_L_filled : List D -> Option (Rs × List D) := fnR [false, false, false, false, false] 5 F_L_filled
def F_L_beat_b1 : SF := sIf (tOf (eOp (gLt) (.e (eUn gLenA (.v 5))) (.e (eOp gIxA (.e (eOp gIxA (.v 0) (.e (eC (.int 2))))) (.e (eC (.int 0))))))) (sDrop (eApp 5 (eVar 9))) (sAugA 8 (eC (.int 0)) (eC (.int 1)) (fun i j => i + j))
def F_L_beat_b2 : SF := sIf (tOf (eOp (gLt) (.v 6) (.e (eOp gIxA (.e (eOp gIxA (.v 0) (.e (eC (.int 2))))) (.e (eC (.int 1))))))) (sAsg (eOp gAdd (.v 6) (.e (eC (.int 1)))) (gNm 6)) (sAugA 8 (eC (.int 1)) (eC (.int 1)) (fun i j => i + j))
def F_L_beat : SF := sSeq (sAsg (eVar 2) (gTp 4 (gsCons (gNm 4) (gsCons (gNm 5) (gsCons (gNm 6) (gsCons (gNm 7) (gsNil))))))) (sSeq (sAsgO (eUn gList (.v 5)) 5) (sSeq (sAsgO (eLst [eC (.int 0), eC (.int 0)]) 8) (sSeq (sFor (iOf (eOp gIxA (.v 3) (.e (eC (.int 0))))) (gNm 9) F_L_beat_b1 [9]) (sSeq (sFor (iRng (eOp gIxA (.v 3) (.e (eC (.int 1))))) (gNm 10) F_L_beat_b2 [10]) (sSeq (sFrz 5 (sAsg (eCall [.e (eVar 1), .e (eVar 5), .e (eVar 6), .e (eOp gIxA (.e (eOp gIxA (.v 0) (.e (eC (.int 0))))) (.v 4)), .e (eVar 7)] [] fn_L_filled) (gTp 5 (gsCons (gNm 11) (gsCons (gNm 12) (gsCons (gNm 5) (gsCons (gNm 6) (gsCons (gNm 7) (gsNil))))))))) (sSeq (sAsg (eC (.int 0)) (gNm 13)) (sSeq (sIf (fOr (tOf (eOp (gNe) (.v 5) (.e (eTup [])))) (tOf (eOp (gGt) (.v 6) (.e (eC (.int 0)))))) (sAsg (eVar 12) (gNm 13)) (sNext)) (sFrz 5 (sRet (eTup [eTup [eVar 11, eVar 12, eVar 13, eUn gTuple (.v 8)], eTup [eOp gMod (.e (eOp gAdd (.v 4) (.e (eC (.int 1))))) (.e (eUn gLenA (.e (eOp gIxA (.v 0) (.e (eC (.int 0))))))), eVar 5, eVar 6, eVar 7]]))))))))))
def fn_L_beat : List D -> Option (Rs × List D) := fnR [false, false, false, false] 10 F_L_beat
def F_L_run_b1 : SF := sSeq (sAsg (eCall [.e (eVar 0), .e (eVar 1), .e (eVar 2), .e (eVar 5)] [] fn_L_beat) (gTp 2 (gsCons (gNm 6) (gsCons (gNm 2) (gsNil))))) (sDrop (eApp 4 (eVar 6)))
def F_L_run : SF := sSeq (sAsgO (eLst []) 4) (sSeq (sFor (iOf (eVar 3)) (gNm 5) F_L_run_b1 [5, 6]) (sFrz 4 (sRet (eTup [eVar 4, eVar 2]))))
def fn_L_run : List D -> Option (Rs × List D) := fnR [false, false, false, false] 3 F_L_run
def F_L_true_ring_b1 : SF := sIf (tOf (eOp (gEq) (.e (eOp gIxA (.v 5) (.v 8))) (.v 7))) (sRet (eTup [eOp gAdd (.v 3) (.e (eOp gMulA (.v 4) (.v 8))), eOp gMulA (.v 4) (.e (eOp gMinus (.e (eUn gLenA (.v 5))) (.v 8)))])) (sNext)
def F_L_true_ring_b2 : SF := sSeq (sAsg (eOp gIxA (.e (eCall [.e (eVar 1), .e (eVar 2), .e (eOp gIxA (.v 5) (.e (eUn gNeg (.e (eC (.int 1)))))), .e (eVar 4)] [] fn_L_run)) (.e (eC (.int 1)))) (gNm 7)) (sSeq (sFor (iRng (eUn gLenA (.v 5))) (gNm 8) F_L_true_ring_b1 [8]) (sDrop (eApp 5 (eVar 7))))
def F_L_true_ring : SF := sSeq (sAsg (eCall [.io 0, .e (eVar 1), .e (eCall [.io 0, .e (eC (.int 5))] [] fn_L_take)] [] fn_L_row) (gNm 3)) (sSeq (sAsg (eCall [.io 0, .e (eVar 1), .e (eOp gAdd (.e (eC (.int 1))) (.e (eCall [.io 0, .e (eC (.int 4))] [] fn_L_take)))] [] fn_L_row) (gNm 4)) (sSeq (sAsgO (eLst [eOp gIxA (.e (eCall [.e (eVar 1), .e (eVar 2), .e (eTup [eC (.int 0), eTup [], eC (.int 0), eC (.int 0)]), .e (eVar 3)] [] fn_L_run)) (.e (eC (.int 1)))]) 5) (sSeq (sFor (iRng (eC (.int 400))) (gNm 6) F_L_true_ring_b2 [6, 7, 8]) (sRet (eTup [eVar 3, eVar 4])))))
def fn_L_true_ring : List D -> Option (Rs × List D) := fnR [true, false, false] 6 F_L_true_ring
def F_L_whole : SF := sRet (eAnd (eUn (gIsi "int") (.v 0)) (eAnd (eNot (eUn (gIsi "bool") (.v 0))) (eChain (fun i j => decide (i ≤ j)) (fun i j => decide (i ≤ j)) (eVar 1) (eVar 0) (eVar 2))))
def fn_L_whole : List D -> Option (Rs × List D) := fnR [false, false, false] 0 F_L_whole
def F_L_is_comers_c1 : TF := fOr (fNot (tOf (eCall [.e (eVar 2), .e (eC (.int 1)), .e (eC (.int 5))] [] fn_L_whole))) (tOf (eOp (gInA true) (.v 2) (.e (eOp gIxA (.v 0) (.e (eC (.int 1)))))))
def F_L_is_comers : SF := sSeq (sIf (fOr (fNot (tOf (eUn (gIsi "tuple") (.v 1)))) (fOr (tOf (eOp (gNe) (.e (eUn gLenA (.v 1))) (.e (eC (.int 2))))) (fNot (tOf (eUn (gIsi "tuple") (.e (eOp gIxA (.v 1) (.e (eC (.int 0)))))))))) (sRet (eC (.bool false))) (sNext)) (sSeq (sIf (fOr (tOf (eOp (gGt) (.e (eUn gLenA (.e (eOp gIxA (.v 1) (.e (eC (.int 0))))))) (.e (eOp gIxA (.e (eOp gIxA (.v 0) (.e (eC (.int 3))))) (.e (eC (.int 0))))))) (fNot (tOf (eCall [.e (eOp gIxA (.v 1) (.e (eC (.int 1)))), .e (eC (.int 0)), .e (eOp gIxA (.e (eOp gIxA (.v 0) (.e (eC (.int 3))))) (.e (eC (.int 1))))] [] fn_L_whole)))) (sRet (eC (.bool false))) (sNext)) (sRet (eOp ((gNil false)) (.e (eLc [2] (iOf (eOp gIxA (.v 1) (.e (eC (.int 0))))) (gNm 2) F_L_is_comers_c1 (eVar 2))) (.e (eLst [])))))
def fn_L_is_comers : List D -> Option (Rs × List D) := fnR [false, false] 1 F_L_is_comers
def F_L_ring_right_c1 : TF := fNot (tOf (eCall [.e (eVar 0), .e (eVar 8)] [] fn_L_is_comers))
def F_L_ring_right_e1 : EF := eOp gIxA (.v 9) (.e (eC (.int 2)))
def F_L_ring_right : SF := sSeq (sIf (fOr (fNot (tOf (eUn (gIsi "tuple") (.v 2)))) (tOf (eOp (gNe) (.e (eUn gLenA (.v 2))) (.e (eC (.int 2)))))) (sRet (eC .none)) (sNext)) (sSeq (sAsg (eVar 2) (gTp 2 (gsCons (gNm 3) (gsCons (gNm 4) (gsNil))))) (sSeq (sIf (fOr (fNot (tOf (eUn (gIsi "list") (.v 3)))) (fOr (fNot (tOf (eUn (gIsi "list") (.v 4)))) (tOf (eOp ((gNil false)) (.v 4) (.e (eLst [])))))) (sRet (eC .none)) (sNext)) (sSeq (sIf (tOf (eOp ((gNil true)) (.e (eLc [8] (iOf (eOp gAdd (.v 3) (.v 4))) (gNm 8) F_L_ring_right_c1 (eVar 8))) (.e (eLst [])))) (sRet (eC .none)) (sNext)) (sSeq (sAsg (eOp gIxA (.e (eCall [.e (eVar 0), .e (eVar 1), .e (eTup [eC (.int 0), eTup [], eC (.int 0), eC (.int 0)]), .e (eVar 3)] [] fn_L_run)) (.e (eC (.int 1)))) (gNm 5)) (sSeq (sAsg (eCall [.e (eVar 0), .e (eVar 1), .e (eVar 5), .e (eVar 4)] [] fn_L_run) (gTp 2 (gsCons (gNm 6) (gsCons (gNm 7) (gsNil))))) (sSeq (sIf (tOf (eOp (gNe) (.v 7) (.v 5))) (sRet (eC .none)) (sNext)) (sRet (eTup [eUn gSum (.e (eLc [9] (iOf (eVar 6)) (gNm 9) (tfYes) F_L_ring_right_e1)), eUn gLenA (.v 4)]))))))))
def fn_L_ring_right : List D -> Option (Rs × List D) := fnR [false, false, false] 7 F_L_ring_right
def F_L_odd : SF := sSeq (sAsg (eLst [eC .none, eC (.bool true), eC (.bool false), eC (.str ""), eC (.str "2"), eTup [], eLst [], eOdd0, eTup [eC (.int 1)], eLst [eC (.int 1)], eUn gNeg (.e (eC (.int 1))), eC (.str "group"), eTup [eC (.int 0), eC (.int 0)], eLst [eTup [eC (.int 1), eC (.int 2)]], eOdd1, eTup [eTup []]]) (gNm 1)) (sRet (eOp gIxA (.v 1) (.e (eCall [.io 0, .e (eUn gLenA (.v 1))] [] fn_L_take))))
def fn_L_odd : List D -> Option (Rs × List D) := fnR [true] 1 F_L_odd
def F_L_bad_comers_s1 : SF := sAsg (eCall [.io 0, .e (eVar 1)] [] fn_L_comers) (gTp 2 (gsCons (gNm 2) (gsCons (gNm 3) (gsNil))))
def F_L_bad_comers_s2 : SF := sAsg (eCall [.io 0, .e (eC (.int 8))] [] fn_L_take) (gNm 4)
def F_L_bad_comers_s3 : SF := sIf (tOf (eOp (gEq) (.v 4) (.e (eC (.int 0))))) (sRet (eOp gIxA (.e (eLst [eTup [eUn gList (.v 2), eVar 3], eLst [eVar 2, eVar 3], eTup [eVar 2], eTup [eVar 2, eVar 3, eC (.int 0)]])) (.e (eCall [.io 0, .e (eC (.int 4))] [] fn_L_take)))) (sNext)
def F_L_bad_comers_s4 : SF := sIf (tOf (eOp (gEq) (.v 4) (.e (eC (.int 1))))) (sRet (eTup [eVar 2, eOp gIxA (.e (eLst [eUn gNeg (.e (eC (.int 1))), eC (.bool true), eC .none, eC (.str "1"), eOp gAdd (.e (eOp gIxA (.e (eOp gIxA (.v 1) (.e (eC (.int 3))))) (.e (eC (.int 1))))) (.e (eC (.int 1))), eTup [eC (.int 1)]])) (.e (eCall [.io 0, .e (eC (.int 6))] [] fn_L_take))])) (sNext)
def F_L_bad_comers_s5 : SF := sIf (tOf (eOp (gEq) (.v 4) (.e (eC (.int 2))))) (sRet (eTup [eOp gAdd (.v 2) (.e (eOp gMulA (.e (eTup [eOp gIxA (.e (eOp gIxA (.v 1) (.e (eC (.int 1))))) (.e (eC (.int 0)))])) (.e (eOp gMinus (.e (eOp gAdd (.e (eC (.int 1))) (.e (eOp gIxA (.e (eOp gIxA (.v 1) (.e (eC (.int 3))))) (.e (eC (.int 0))))))) (.e (eUn gLenA (.v 2))))))), eVar 3])) (sNext)
def F_L_bad_comers_s6 : SF := sIf (tOf (eOp (gEq) (.v 4) (.e (eC (.int 3))))) (sRet (eCall [.io 0] [] fn_L_odd)) (sNext)
def F_L_bad_comers_s7 : SF := sIf (tOf (eOp (gEq) (.v 4) (.e (eC (.int 4))))) (sRet (eTup [eVar 3, eVar 2])) (sNext)
def F_L_bad_comers_s8 : SF := sAsg (eCall [.io 0, .e (eOp gAdd (.e (eUn gLenA (.v 2))) (.e (eC (.int 1))))] [] fn_L_take) (gNm 5)
def F_L_bad_comers_s9 : SF := sAsg (eOp gIxA (.e (eLst [eCall [.io 0, .e (eC (.int 8))] [] fn_L_take, eC (.bool true), eC (.str "1"), eC .none, eOp gIxA (.e (eOp gIxA (.v 1) (.e (eC (.int 1))))) (.e (eC (.int 0)))])) (.e (eCall [.io 0, .e (eC (.int 5))] [] fn_L_take))) (gNm 6)
def F_L_bad_comers_s10 : SF := sRet (eTup [eOp gAdd (.e (eOp gAdd (.e (eSl (.v 2) (oNone) (oSome (eVar 5)))) (.e (eTup [eVar 6])))) (.e (eSl (.v 2) (oSome (eOp gAdd (.v 5) (.e (eC (.int 1))))) (oNone))), eVar 3])
def F_L_bad_comers : SF := sSeq (F_L_bad_comers_s1) (sSeq (F_L_bad_comers_s2) (sSeq (F_L_bad_comers_s3) (sSeq (F_L_bad_comers_s4) (sSeq (F_L_bad_comers_s5) (sSeq (F_L_bad_comers_s6) (sSeq (F_L_bad_comers_s7) (sSeq (F_L_bad_comers_s8) (sSeq (F_L_bad_comers_s9) (F_L_bad_comers_s10)))))))))
def fn_L_bad_comers : List D -> Option (Rs × List D) := fnR [true, false] 5 F_L_bad_comers
def F_L_spoiled_ring_s1 : SF := sAsg (eVar 2) (gTp 2 (gsCons (gNm 3) (gsCons (gNm 4) (gsNil))))
def F_L_spoiled_ring_s2 : SF := sAsg (eCall [.io 0, .e (eC (.int 8))] [] fn_L_take) (gNm 5)
def F_L_spoiled_ring_s3 : SF := sAsg (eCall [.io 0, .e (eOp gAdd (.e (eUn gLenA (.v 4))) (.e (eC (.int 1))))] [] fn_L_take) (gNm 6)
def F_L_spoiled_ring_s4 : SF := sIf (tOf (eOp (gEq) (.v 5) (.e (eC (.int 0))))) (sSeq (sAsg (eLst [eUn gList (.v 2), eTup [eVar 3], eTup [eVar 4, eVar 3], eTup [eVar 3, eVar 4, eVar 4]]) (gNm 7)) (sRet (eOp gIxA (.e (eOp gAdd (.v 7) (.e (eLst [eCall [.io 0] [] fn_L_odd])))) (.e (eCall [.io 0, .e (eC (.int 5))] [] fn_L_take))))) (sNext)
def F_L_spoiled_ring_s5 : SF := sIf (tOf (eOp (gEq) (.v 5) (.e (eC (.int 1))))) (sSeq (sAsg (eLst [eTup [eVar 3, eLst []], eTup [eUn gTuple (.v 3), eVar 4], eTup [eC .none, eVar 4]]) (gNm 7)) (sRet (eOp gIxA (.e (eOp gAdd (.v 7) (.e (eLst [eTup [eVar 3, eUn gTuple (.v 4)]])))) (.e (eCall [.io 0, .e (eC (.int 4))] [] fn_L_take))))) (sNext)
def F_L_spoiled_ring_s6 : SF := sIf (tOf (eOp (gEq) (.v 5) (.e (eC (.int 2))))) (sRet (eTup [eVar 3, eOp gAdd (.e (eSl (.v 4) (oNone) (oSome (eVar 6)))) (.e (eSl (.v 4) (oSome (eOp gAdd (.v 6) (.e (eC (.int 1))))) (oNone)))])) (sNext)
def F_L_spoiled_ring_s7 : SF := sIf (tOf (eOp (gEq) (.v 5) (.e (eC (.int 3))))) (sRet (eTup [eVar 3, eOp gAdd (.e (eOp gAdd (.e (eSl (.v 4) (oNone) (oSome (eVar 6)))) (.e (eLst [eCall [.io 0, .e (eVar 1)] [] fn_L_comers])))) (.e (eSl (.v 4) (oSome (eVar 6)) (oNone)))])) (sNext)
def F_L_spoiled_ring_s8 : SF := sIf (tOf (eOp (gEq) (.v 5) (.e (eC (.int 4))))) (sRet (eTup [eVar 3, eOp gAdd (.e (eOp gAdd (.e (eSl (.v 4) (oNone) (oSome (eVar 6)))) (.e (eLst [eCall [.io 0, .e (eVar 1)] [] fn_L_bad_comers])))) (.e (eSl (.v 4) (oSome (eOp gAdd (.v 6) (.e (eC (.int 1))))) (oNone)))])) (sNext)
def F_L_spoiled_ring_s9 : SF := sIf (tOf (eOp (gEq) (.v 5) (.e (eC (.int 5))))) (sRet (eTup [eOp gAdd (.v 3) (.e (eLst [eCall [.io 0, .e (eVar 1)] [] fn_L_comers])), eVar 4])) (sNext)
def F_L_spoiled_ring_s10 : SF := sIf (tOf (eOp (gEq) (.v 5) (.e (eC (.int 6))))) (sRet (eTup [eOp gAdd (.v 3) (.e (eLst [eCall [.io 0, .e (eVar 1)] [] fn_L_bad_comers])), eVar 4])) (sNext)
def F_L_spoiled_ring_s11 : SF := sRet (eTup [eVar 3, eOp gAdd (.v 4) (.v 4)])
def F_L_spoiled_ring : SF := sSeq (F_L_spoiled_ring_s1) (sSeq (F_L_spoiled_ring_s2) (sSeq (F_L_spoiled_ring_s3) (sSeq (F_L_spoiled_ring_s4) (sSeq (F_L_spoiled_ring_s5) (sSeq (F_L_spoiled_ring_s6) (sSeq (F_L_spoiled_ring_s7) (sSeq (F_L_spoiled_ring_s8) (sSeq (F_L_spoiled_ring_s9) (sSeq (F_L_spoiled_ring_s10) (F_L_spoiled_ring_s11))))))))))
def fn_L_spoiled_ring : List D -> Option (Rs × List D) := fnR [true, false, false] 5 F_L_spoiled_ring
def F_is_integer : SF := sRet (eAnd (eUn (gIsi "int") (.v 0)) (eNot (eUn (gIsi "bool") (.v 0))))
def fn_is_integer : List D -> Option (Rs × List D) := fnR [false] 0 F_is_integer
def F_is_number : SF := sRet (eAnd (eCall [.e (eVar 0)] [] fn_is_integer) (eChain (fun i j => decide (i ≤ j)) (fun i j => decide (i ≤ j)) (eVar 1) (eVar 0) (eVar 2)))
def fn_is_number : List D -> Option (Rs × List D) := fnR [false, false, false] 0 F_is_number
def F_are_numbers_e1 : EF := eCall [.e (eVar 5), .e (eVar 3), .e (eVar 4)] [] fn_is_number
def F_are_numbers : SF := sSeq (sIf (fOr (fNot (tOf (eUn (gIsi "tuple") (.v 0)))) (fNot (tOf (eChain (fun i j => decide (i ≤ j)) (fun i j => decide (i ≤ j)) (eVar 1) (eUn gLenA (.v 0)) (eVar 2))))) (sRet (eC (.bool false))) (sNext)) (sRet (eUn gAll (.e (eLc [5] (iOf (eVar 0)) (gNm 5) (tfYes) F_are_numbers_e1))))
def fn_are_numbers : List D -> Option (Rs × List D) := fnR [false, false, false, false, false] 1 F_are_numbers
def F_are_most : SF := sSeq (sIf (fNot (tOf (eCall [.e (eVar 0), .e (eC (.int 2)), .e (eC (.int 2)), .e (eC (.int 0)), .e (eC (.int 9))] [] fn_are_numbers))) (sRet (eC (.bool false))) (sNext)) (sRet (eAnd (eChain (fun i j => decide (i ≤ j)) (fun i j => decide (i ≤ j)) (eVar 1) (eOp gIxA (.v 0) (.e (eC (.int 0)))) (eVar 2)) (eOp (gLe) (.e (eOp gIxA (.v 0) (.e (eC (.int 1))))) (.v 3))))
def fn_are_most : List D -> Option (Rs × List D) := fnR [false, false, false, false] 0 F_are_most
def F_is_setup_e1 : EF := eOp (gLt) (.v 5) (.v 6)
def F_is_setup : SF := sSeq (sIf (fOr (fNot (tOf (eUn (gIsi "tuple") (.v 0)))) (tOf (eOp (gNe) (.e (eUn gLenA (.v 0))) (.e (eC (.int 4)))))) (sRet (eC (.bool false))) (sNext)) (sSeq (sAsg (eVar 0) (gTp 4 (gsCons (gNm 1) (gsCons (gNm 2) (gsCons (gNm 3) (gsCons (gNm 4) (gsNil))))))) (sSeq (sIf (fOr (fNot (tOf (eCall [.e (eVar 1), .e (eC (.int 1)), .e (eC (.int 2)), .e (eC (.int 1)), .e (eC (.int 5))] [] fn_are_numbers))) (fNot (tOf (eCall [.e (eVar 2), .e (eC (.int 1)), .e (eC (.int 3)), .e (eC (.int 1)), .e (eC (.int 5))] [] fn_are_numbers)))) (sRet (eC (.bool false))) (sNext)) (sSeq (sIf (fNot (tOf (eUn gAll (.e (eLc [5, 6] (iZp (eVar 2) (eSl (.v 2) (oSome (eC (.int 1))) (oNone))) (gTp 2 (gsCons (gNm 5) (gsCons (gNm 6) (gsNil)))) (tfYes) F_is_setup_e1))))) (sRet (eC (.bool false))) (sNext)) (sRet (eAnd (eCall [.e (eVar 3), .e (eC (.int 1)), .e (eC (.int 3)), .e (eC (.int 4))] [] fn_are_most) (eCall [.e (eVar 4), .e (eC (.int 0)), .e (eC (.int 2)), .e (eC (.int 2))] [] fn_are_most))))))
def fn_is_setup : List D -> Option (Rs × List D) := fnR [false] 6 F_is_setup
def F_check_setup : SF := sIf (fNot (tOf (eCall [.e (eVar 0)] [] fn_is_setup))) (sNever) (sNext)
def fn_check_setup : List D -> Option (Rs × List D) := fnR [false] 0 F_check_setup
def F_is_range : SF := sRet (eAnd (eCall [.e (eVar 0), .e (eC (.int 2)), .e (eC (.int 2)), .e (eC (.int 0)), .e (eC (.int 9))] [] fn_are_numbers) (eOp (gLe) (.e (eOp gIxA (.v 0) (.e (eC (.int 0))))) (.e (eOp gIxA (.v 0) (.e (eC (.int 1)))))))
def fn_is_range : List D -> Option (Rs × List D) := fnR [false] 0 F_is_range
def F_is_rule_row : SF := sSeq (sIf (fOr (fNot (tOf (eUn (gIsi "tuple") (.v 0)))) (tOf (eOp (gNe) (.e (eUn gLenA (.v 0))) (.e (eC (.int 6)))))) (sRet (eC (.bool false))) (sNext)) (sSeq (sAsg (eVar 0) (gTp 6 (gsCons (gNm 1) (gsCons (gNm 2) (gsCons (gNm 3) (gsCons (gNm 4) (gsCons (gNm 5) (gsCons (gNm 6) (gsNil))))))))) (sSeq (sIf (fOr (fNot (tOf (eCall [.e (eVar 1), .e (eC (.int 0)), .e (eC (.int 2))] [] fn_is_number))) (fNot (tOf (eCall [.e (eVar 6), .e (eC (.int 0)), .e (eC (.int 2))] [] fn_is_number)))) (sRet (eC (.bool false))) (sNext)) (sSeq (sIf (fOr (fNot (tOf (eCall [.e (eVar 2)] [] fn_is_range))) (fOr (fNot (tOf (eCall [.e (eVar 3)] [] fn_is_range))) (fNot (tOf (eCall [.e (eVar 4)] [] fn_is_range))))) (sRet (eC (.bool false))) (sNext)) (sRet (eAnd (eUn (gIsi "str") (.v 5)) (eOp (gInA false) (.v 5) (.e (eC D_DEEDS))))))))
def fn_is_rule_row : List D -> Option (Rs × List D) := fnR [false] 6 F_is_rule_row
def F_is_rule_e1 : EF := eCall [.e (eVar 1)] [] fn_is_rule_row
def F_is_rule : SF := sSeq (sIf (fOr (fNot (tOf (eUn (gIsi "tuple") (.v 0)))) (tOf (eOp (gGt) (.e (eUn gLenA (.v 0))) (.e (eC D_MOST_ROWS))))) (sRet (eC (.bool false))) (sNext)) (sRet (eUn gAll (.e (eLc [1] (iOf (eVar 0)) (gNm 1) (tfYes) F_is_rule_e1))))
def fn_is_rule : List D -> Option (Rs × List D) := fnR [false] 1 F_is_rule
def F_check_both : SF := sSeq (sDrop (eCall [.e (eVar 0)] [] fn_check_setup)) (sIf (fNot (tOf (eCall [.e (eVar 1)] [] fn_is_rule))) (sNever) (sNext))
def fn_check_both : List D -> Option (Rs × List D) := fnR [false, false] 0 F_check_both
def F_check_fraction : SF := sIf (fOr (fNot (tOf (eCall [.e (eVar 0)] [] fn_is_integer))) (fOr (fNot (tOf (eCall [.e (eVar 1)] [] fn_is_integer))) (fOr (tOf (eOp (gLt) (.v 0) (.e (eC (.int 0))))) (tOf (eOp (gLt) (.v 1) (.e (eC (.int 1)))))))) (sNever) (sNext)
def fn_check_fraction : List D -> Option (Rs × List D) := fnR [false, false] 0 F_check_fraction
def F_let_in : SF := sSeq (sAsg (eVar 3) (gTp 2 (gsCons (gNm 4) (gsCons (gNm 5) (gsNil))))) (sSeq (sAsg (eSl (.e (eOp gAdd (.v 1) (.v 4))) (oNone) (oSome (eOp gMax (.e (eOp gIxA (.e (eOp gIxA (.v 0) (.e (eC (.int 2))))) (.e (eC (.int 0))))) (.e (eUn gLenA (.v 1)))))) (gNm 6)) (sSeq (sAsg (eOp gMin (.e (eOp gMax (.e (eOp gIxA (.e (eOp gIxA (.v 0) (.e (eC (.int 2))))) (.e (eC (.int 1))))) (.v 2))) (.e (eOp gAdd (.v 2) (.v 5)))) (gNm 7)) (sRet (eTup [eVar 6, eVar 7, eTup [eOp gMinus (.e (eOp gAdd (.e (eUn gLenA (.v 1))) (.e (eUn gLenA (.v 4))))) (.e (eUn gLenA (.v 6))), eOp gMinus (.e (eOp gAdd (.v 2) (.v 5))) (.v 7)]]))))
def fn_let_in : List D -> Option (Rs × List D) := fnR [false, false, false, false] 4 F_let_in
def F_front_of : SF := sSeq (sIf (tOf (eOp (gEq) (.v 0) (.e (eTup [])))) (sRet (eC (.int 0))) (sNext)) (sRet (eOp gIxA (.v 0) (.e (eC (.int 0)))))
def fn_front_of : List D -> Option (Rs × List D) := fnR [false] 0 F_front_of
def F_can_be_done : SF := sSeq (sIf (tOf (eOp (gEq) (.v 0) (.e (eC (.str "group"))))) (sRet (eChain (fun i j => decide (i < j)) (fun i j => decide (i ≤ j)) (eC (.int 0)) (eVar 1) (eVar 2))) (sNext)) (sSeq (sIf (tOf (eOp (gEq) (.v 0) (.e (eC (.str "single"))))) (sRet (eAnd (eOp (gGt) (.v 3) (.e (eC (.int 0)))) (eOp (gGt) (.v 2) (.e (eC (.int 0)))))) (sNext)) (sSeq (sIf (tOf (eOp (gEq) (.v 0) (.e (eC (.str "part"))))) (sRet (eChain (fun i j => decide (j < i)) (fun i j => decide (j < i)) (eVar 1) (eVar 2) (eC (.int 0)))) (sNext)) (sRet (eC (.bool true)))))
def fn_can_be_done : List D -> Option (Rs × List D) := fnR [false, false, false, false] 0 F_can_be_done
def F_fitting_row_b1 : SF := sSeq (sAsg (eAnd (eChain (fun i j => decide (i ≤ j)) (fun i j => decide (i ≤ j)) (eOp gIxA (.e (eOp gIxA (.v 6) (.e (eC (.int 1))))) (.e (eC (.int 0)))) (eVar 5) (eOp gIxA (.e (eOp gIxA (.v 6) (.e (eC (.int 1))))) (.e (eC (.int 1))))) (eChain (fun i j => decide (i ≤ j)) (fun i j => decide (i ≤ j)) (eOp gIxA (.e (eOp gIxA (.v 6) (.e (eC (.int 2))))) (.e (eC (.int 0)))) (eVar 4) (eOp gIxA (.e (eOp gIxA (.v 6) (.e (eC (.int 2))))) (.e (eC (.int 1)))))) (gNm 7)) (sIf (fAnd (tOf (eOp (gEq) (.e (eOp gIxA (.v 6) (.e (eC (.int 0))))) (.v 1))) (fAnd (tOf (eVar 7)) (tOf (eChain (fun i j => decide (i ≤ j)) (fun i j => decide (i ≤ j)) (eOp gIxA (.e (eOp gIxA (.v 6) (.e (eC (.int 3))))) (.e (eC (.int 0)))) (eVar 3) (eOp gIxA (.e (eOp gIxA (.v 6) (.e (eC (.int 3))))) (.e (eC (.int 1)))))))) (sIf (tOf (eCall [.e (eOp gIxA (.v 6) (.e (eC (.int 4)))), .e (eVar 5), .e (eVar 4), .e (eVar 3)] [] fn_can_be_done)) (sRet (eVar 6)) (sNext)) (sNext))
def F_fitting_row : SF := sSeq (sAsg (eCall [.e (eVar 2)] [] fn_front_of) (gNm 5)) (sSeq (sFor (iOf (eVar 0)) (gNm 6) F_fitting_row_b1 [6, 7]) (sRet (eC .none)))
def fn_fitting_row : List D -> Option (Rs × List D) := fnR [false, false, false, false, false] 3 F_fitting_row
def F_seated : SF := sSeq (sIf (tOf (eOp (gEq) (.v 0) (.e (eC (.str "group"))))) (sRet (eTup [eTup [eC (.str "group"), eOp gIxA (.v 1) (.e (eC (.int 0)))], eSl (.v 1) (oSome (eC (.int 1))) (oNone), eVar 2, eOp gMinus (.v 3) (.e (eOp gIxA (.v 1) (.e (eC (.int 0)))))])) (sNext)) (sSeq (sIf (tOf (eOp (gEq) (.v 0) (.e (eC (.str "single"))))) (sRet (eTup [eTup [eC (.str "single"), eC (.int 1)], eVar 1, eOp gMinus (.v 2) (.e (eC (.int 1))), eOp gMinus (.v 3) (.e (eC (.int 1)))])) (sNext)) (sRet (eTup [eTup [eC (.str "part"), eVar 3], eOp gAdd (.e (eTup [eOp gMinus (.e (eOp gIxA (.v 1) (.e (eC (.int 0))))) (.v 3)])) (.e (eSl (.v 1) (oSome (eC (.int 1))) (oNone))), eVar 2, eC (.int 0)])))
def fn_seated : List D -> Option (Rs × List D) := fnR [false, false, false, false] 0 F_seated
def F_fill_t1 : TF := fAnd (tOf (eOp (gNotN) (.v 7) (.e (eC .none)))) (tOf (eOp (gNe) (.e (eOp gIxA (.v 7) (.e (eC (.int 4))))) (.e (eC (.str "go")))))
def F_fill_b1 : SF := sSeq (sAsg (eCall [.e (eOp gIxA (.v 7) (.e (eC (.int 4)))), .e (eVar 1), .e (eVar 2), .e (eVar 5)] [] fn_seated) (gTp 4 (gsCons (gNm 8) (gsCons (gNm 1) (gsCons (gNm 2) (gsCons (gNm 5) (gsNil))))))) (sSeq (sDrop (eApp 6 (eVar 8))) (sSeq (sAsg (eOp gIxA (.v 7) (.e (eC (.int 5)))) (gNm 4)) (sAsg (eCall [.e (eVar 0), .e (eVar 4), .e (eVar 1), .e (eVar 2), .e (eVar 5)] [] fn_fitting_row) (gNm 7))))
def F_fill : SF := sSeq (sAsg (eVar 3) (gNm 5)) (sSeq (sAsgO (eLst []) 6) (sSeq (sAsg (eCall [.e (eVar 0), .e (eVar 4), .e (eVar 1), .e (eVar 2), .e (eVar 5)] [] fn_fitting_row) (gNm 7)) (sSeq (sWhile F_fill_t1 F_fill_b1) (sSeq (sIf (tOf (eOp (gNotN) (.v 7) (.e (eC .none)))) (sAsg (eOp gIxA (.v 7) (.e (eC (.int 5)))) (gNm 4)) (sNext)) (sRet (eTup [eUn gTuple (.v 6), eVar 5, eVar 1, eVar 2, eVar 4]))))))
def fn_fill : List D -> Option (Rs × List D) := fnR [false, false, false, false, false] 4 F_fill
def F_beat : SF := sSeq (sAsg (eVar 2) (gTp 4 (gsCons (gNm 4) (gsCons (gNm 5) (gsCons (gNm 6) (gsCons (gNm 7) (gsNil))))))) (sSeq (sAsg (eCall [.e (eVar 0), .e (eVar 5), .e (eVar 6), .e (eVar 3)] [] fn_let_in) (gTp 3 (gsCons (gNm 5) (gsCons (gNm 6) (gsCons (gNm 8) (gsNil)))))) (sSeq (sAsg (eCall [.e (eVar 1), .e (eVar 5), .e (eVar 6), .e (eOp gIxA (.e (eOp gIxA (.v 0) (.e (eC (.int 0))))) (.v 4)), .e (eVar 7)] [] fn_fill) (gTp 5 (gsCons (gNm 9) (gsCons (gNm 10) (gsCons (gNm 5) (gsCons (gNm 6) (gsCons (gNm 7) (gsNil)))))))) (sSeq (sAsg (eC (.int 0)) (gNm 11)) (sSeq (sIf (fOr (tOf (eOp (gNe) (.v 5) (.e (eTup [])))) (tOf (eOp (gGt) (.v 6) (.e (eC (.int 0)))))) (sAsg (eVar 10) (gNm 11)) (sNext)) (sRet (eTup [eTup [eVar 9, eVar 10, eVar 11, eVar 8], eTup [eOp gMod (.e (eOp gAdd (.v 4) (.e (eC (.int 1))))) (.e (eUn gLenA (.e (eOp gIxA (.v 0) (.e (eC (.int 0))))))), eVar 5, eVar 6, eVar 7]]))))))
def fn_beat : List D -> Option (Rs × List D) := fnR [false, false, false, false] 8 F_beat
def F_run_b1 : SF := sSeq (sAsg (eCall [.e (eVar 0), .e (eVar 1), .e (eVar 2), .e (eVar 5)] [] fn_beat) (gTp 2 (gsCons (gNm 6) (gsCons (gNm 2) (gsNil))))) (sDrop (eApp 4 (eVar 6)))
def F_run : SF := sSeq (sAsgO (eLst []) 4) (sSeq (sFor (iOf (eVar 3)) (gNm 5) F_run_b1 [5, 6]) (sFrz 4 (sRet (eTup [eVar 4, eVar 2]))))
def fn_run : List D -> Option (Rs × List D) := fnR [false, false, false, false] 3 F_run
def F_is_size : SF := sRet (eAnd (eCall [.e (eVar 1), .e (eC (.int 1)), .e (eC (.int 5))] [] fn_is_number) (eOp (gInA false) (.v 1) (.e (eOp gIxA (.v 0) (.e (eC (.int 1)))))))
def fn_is_size : List D -> Option (Rs × List D) := fnR [false, false] 0 F_is_size
def F_is_comers_e1 : EF := eCall [.e (eVar 0), .e (eVar 4)] [] fn_is_size
def F_is_comers : SF := sSeq (sIf (fOr (fNot (tOf (eUn (gIsi "tuple") (.v 1)))) (tOf (eOp (gNe) (.e (eUn gLenA (.v 1))) (.e (eC (.int 2)))))) (sRet (eC (.bool false))) (sNext)) (sSeq (sAsg (eVar 1) (gTp 2 (gsCons (gNm 2) (gsCons (gNm 3) (gsNil))))) (sSeq (sIf (fOr (fNot (tOf (eUn (gIsi "tuple") (.v 2)))) (tOf (eOp (gGt) (.e (eUn gLenA (.v 2))) (.e (eOp gIxA (.e (eOp gIxA (.v 0) (.e (eC (.int 3))))) (.e (eC (.int 0)))))))) (sRet (eC (.bool false))) (sNext)) (sRet (eAnd (eUn gAll (.e (eLc [4] (iOf (eVar 2)) (gNm 4) (tfYes) F_is_comers_e1))) (eCall [.e (eVar 3), .e (eC (.int 0)), .e (eOp gIxA (.e (eOp gIxA (.v 0) (.e (eC (.int 3))))) (.e (eC (.int 1))))] [] fn_is_number)))))
def fn_is_comers : List D -> Option (Rs × List D) := fnR [false, false] 3 F_is_comers
def F_row_fault_b1 : SF := sIf (fNot (tOf (eCall [.e (eVar 0), .e (eVar 4)] [] fn_is_comers))) (sRet (eVar 3)) (sNext)
def F_row_fault : SF := sSeq (sIf (fNot (tOf (eUn (gIsi "list") (.v 1)))) (sRet (eUn gNeg (.e (eC (.int 1))))) (sNext)) (sSeq (sFor (iEn (eSl (.v 1) (oNone) (oSome (eVar 2)))) (gTp 2 (gsCons (gNm 3) (gsCons (gNm 4) (gsNil)))) F_row_fault_b1 [3, 4]) (sSeq (sIf (tOf (eOp (gGt) (.e (eUn gLenA (.v 1))) (.v 2))) (sRet (eVar 2)) (sNext)) (sRet (eC .none))))
def fn_row_fault : List D -> Option (Rs × List D) := fnR [false, false, false] 2 F_row_fault
def F_first_state : SF := sRet (eC D_START)
def fn_first_state : List D -> Option (Rs × List D) := fnR [] 0 F_first_state
def F_is_ring : SF := sSeq (sIf (fOr (fNot (tOf (eUn (gIsi "tuple") (.v 2)))) (tOf (eOp (gNe) (.e (eUn gLenA (.v 2))) (.e (eC (.int 2)))))) (sRet (eC (.bool false))) (sNext)) (sSeq (sAsg (eVar 2) (gTp 2 (gsCons (gNm 3) (gsCons (gNm 4) (gsNil))))) (sSeq (sIf (fOr (fNot (tOf (eUn (gIsi "list") (.v 3)))) (fOr (fNot (tOf (eUn (gIsi "list") (.v 4)))) (tOf (eOp ((gNil false)) (.v 4) (.e (eLst [])))))) (sRet (eC (.bool false))) (sNext)) (sSeq (sIf (fOr (tOf (eOp (gNotN) (.e (eCall [.e (eVar 0), .e (eVar 3), .e (eUn gLenA (.v 3))] [] fn_row_fault)) (.e (eC .none)))) (tOf (eOp (gNotN) (.e (eCall [.e (eVar 0), .e (eVar 4), .e (eUn gLenA (.v 4))] [] fn_row_fault)) (.e (eC .none))))) (sRet (eC (.bool false))) (sNext)) (sSeq (sAsg (eOp gIxA (.e (eCall [.e (eVar 0), .e (eVar 1), .e (eCall [] [] fn_first_state), .e (eVar 3)] [] fn_run)) (.e (eC (.int 1)))) (gNm 5)) (sRet (eOp (gEq) (.e (eOp gIxA (.e (eCall [.e (eVar 0), .e (eVar 1), .e (eVar 5), .e (eVar 4)] [] fn_run)) (.e (eC (.int 1))))) (.v 5)))))))
def fn_is_ring : List D -> Option (Rs × List D) := fnR [false, false, false] 3 F_is_ring
def F_ring_holds_e1 : EF := eOp gIxA (.v 7) (.e (eC (.int 2)))
def F_ring_holds : SF := sSeq (sDrop (eCall [.e (eVar 0), .e (eVar 1)] [] fn_check_both)) (sSeq (sDrop (eCall [.e (eVar 2), .e (eVar 3)] [] fn_check_fraction)) (sSeq (sIf (fNot (tOf (eCall [.e (eVar 0), .e (eVar 1), .e (eVar 4)] [] fn_is_ring))) (sRet (eC (.bool false))) (sNext)) (sSeq (sAsg (eOp gIxA (.e (eCall [.e (eVar 0), .e (eVar 1), .e (eCall [] [] fn_first_state), .e (eOp gIxA (.v 4) (.e (eC (.int 0))))] [] fn_run)) (.e (eC (.int 1)))) (gNm 5)) (sSeq (sAsg (eUn gSum (.e (eLc [7] (iOf (eOp gIxA (.e (eCall [.e (eVar 0), .e (eVar 1), .e (eVar 5), .e (eOp gIxA (.v 4) (.e (eC (.int 1))))] [] fn_run)) (.e (eC (.int 0))))) (gNm 7) (tfYes) F_ring_holds_e1))) (gNm 6)) (sRet (eOp (gEq) (.e (eOp gMulA (.v 6) (.v 3))) (.e (eOp gMulA (.v 2) (.e (eUn gLenA (.e (eOp gIxA (.v 4) (.e (eC (.int 1)))))))))))))))
def fn_ring_holds : List D -> Option (Rs × List D) := fnR [false, false, false, false, false] 3 F_ring_holds
def F_L_same : SF := sRet (eAnd (eUn (gIsi "bool") (.v 0)) (eOp (gEq) (.v 0) (.v 1)))
def fn_L_same : List D -> Option (Rs × List D) := fnR [false, false] 0 F_L_same
def F_L_long_right_b1 : SF := sSeq (sAsg (eCall [.e (eVar 1), .e (eVar 2), .e (eVar 10)] [] fn_L_ring_right) (gNm 11)) (sSeq (sAsg (eAnd (eOp (gNotN) (.v 11) (.e (eC .none))) (eOp (gEq) (.e (eOp gMulA (.e (eOp gIxA (.v 11) (.e (eC (.int 0))))) (.v 5))) (.e (eOp gMulA (.v 4) (.e (eOp gIxA (.v 11) (.e (eC (.int 1))))))))) (gNm 12)) (sIf (fNot (tOf (eCall [.e (eCall [.e (eVar 1), .e (eVar 2), .e (eVar 4), .e (eVar 5), .e (eVar 10)] [] fn_ring_holds), .e (eVar 12)] [] fn_L_same))) (sRet (eC (.bool false))) (sNext)))
def F_L_long_right : SF := sSeq (sAsg (eVar 3) (gTp 2 (gsCons (gNm 6) (gsCons (gNm 7) (gsNil))))) (sSeq (sAsg (eOp gAdd (.e (eC (.int 1))) (.e (eOp gDiv (.e (eC (.int 300))) (.e (eUn gLenA (.v 7)))))) (gNm 8)) (sSeq (sAsg (eTup [eVar 6, eOp gAdd (.e (eOp gMulA (.v 7) (.v 8))) (.e (eLst [eCall [.io 0, .e (eVar 1)] [] fn_L_bad_comers]))]) (gNm 9)) (sSeq (sFor (iOf (eLst [eTup [eVar 6, eOp gMulA (.v 7) (.v 8)], eTup [eOp gAdd (.v 6) (.e (eOp gMulA (.v 7) (.v 8))), eVar 7], eVar 9])) (gNm 10) F_L_long_right_b1 [10, 11, 12]) (sRet (eC (.bool true))))))
def fn_L_long_right : List D -> Option (Rs × List D) := fnR [true, false, false, false, false, false] 7 F_L_long_right
def F_law_b1 : SF := sSeq (sAsg (eCall [.io 2, .e (eVar 3), .e (eVar 5)] [] fn_L_spoiled_ring) (gNm 12)) (sSeq (sAsg (eOp gMax (.e (eC (.int 0))) (.e (eOp gAdd (.e (eOp gMulA (.e (eOp gIxA (.v 6) (.e (eC (.int 0))))) (.v 7))) (.e (eOp gIxA (.e (eLst [eC (.int 0), eC (.int 0), eC (.int 1), eUn gNeg (.e (eC (.int 1)))])) (.e (eCall [.io 2, .e (eC (.int 4))] [] fn_L_take))))))) (gNm 9)) (sSeq (sAsg (eOp gAdd (.e (eOp gMulA (.e (eOp gIxA (.v 6) (.e (eC (.int 1))))) (.v 7))) (.e (eOp gIxA (.e (eLst [eC (.int 0), eC (.int 0), eC (.int 0), eC (.int 1)])) (.e (eCall [.io 2, .e (eC (.int 4))] [] fn_L_take))))) (gNm 10)) (sSeq (sAsg (eCall [.e (eVar 3), .e (eVar 4), .e (eVar 12)] [] fn_L_ring_right) (gNm 13)) (sSeq (sAsg (eAnd (eOp (gNotN) (.v 13) (.e (eC .none))) (eOp (gEq) (.e (eOp gMulA (.e (eOp gIxA (.v 13) (.e (eC (.int 0))))) (.v 10))) (.e (eOp gMulA (.v 9) (.e (eOp gIxA (.v 13) (.e (eC (.int 1))))))))) (gNm 14)) (sIf (fNot (tOf (eCall [.e (eCall [.e (eVar 3), .e (eVar 4), .e (eVar 9), .e (eVar 10), .e (eVar 12)] [] fn_ring_holds), .e (eVar 14)] [] fn_L_same))) (sRet (eC (.bool false))) (sNext))))))
def F_law_b2 : SF := sSeq (sAsgO (eCallO [.e (eVar 0), .e (eVar 1)] [] fn_L_deck) 2) (sSeq (sAsg (eCall [.io 2, .e (eC (.int 6))] [] fn_L_case) (gTp 2 (gsCons (gNm 3) (gsCons (gNm 4) (gsNil))))) (sSeq (sAsg (eCall [.io 2, .e (eVar 3), .e (eVar 4)] [] fn_L_true_ring) (gNm 5)) (sSeq (sAsg (eCall [.e (eVar 3), .e (eVar 4), .e (eVar 5)] [] fn_L_ring_right) (gNm 6)) (sSeq (sAsg (eOp gAdd (.e (eC (.int 1))) (.e (eCall [.io 2, .e (eC (.int 9))] [] fn_L_take))) (gNm 7)) (sSeq (sAsg (eTup [eUn gList (.e (eOp gIxA (.v 5) (.e (eC (.int 0))))), eUn gList (.e (eOp gIxA (.v 5) (.e (eC (.int 1)))))]) (gNm 8)) (sSeq (sAsg (eOp gMulA (.e (eOp gIxA (.v 6) (.e (eC (.int 0))))) (.v 7)) (gNm 9)) (sSeq (sAsg (eOp gMulA (.e (eOp gIxA (.v 6) (.e (eC (.int 1))))) (.v 7)) (gNm 10)) (sSeq (sIf (fOr (tOf (eOp ((gIsB true)) (.e (eCall [.e (eVar 3), .e (eVar 4), .e (eVar 9), .e (eVar 10), .e (eVar 5)] [] fn_ring_holds)) (.e (eC (.bool true))))) (tOf (eOp (gNe) (.v 5) (.v 8)))) (sRet (eC (.bool false))) (sNext)) (sSeq (sIf (fAnd (tOf (eOp (gEq) (.v 1) (.e (eC (.int 0))))) (fNot (tOf (eCall [.io 2, .e (eVar 3), .e (eVar 4), .e (eVar 5), .e (eVar 9), .e (eVar 10)] [] fn_L_long_right)))) (sRet (eC (.bool false))) (sNext)) (sFor (iRng (eC (.int 4))) (gNm 11) F_law_b1 [9, 10, 11, 12, 13, 14]))))))))))
def F_law : SF := sSeq (sFor (iRng (eOp gMax (.e (eC (.int 1))) (.e (eOp gMin (.e (eC (.int 3))) (.e (eUn gLenA (.v 0))))))) (gNm 1) F_law_b2 [1, 2, 3, 4, 5, 6, 7, 8, 9, 10, 11, 12, 13, 14]) (sRet (eC (.bool true)))
def fn_law : List D -> Option (Rs × List D) := fnR [false] 14 F_law
end
end Fc
set_option maxHeartbeats 4000000
set_option Elab.async false
set_option linter.all false
set_option maxRecDepth 100000
namespace Fc
open PySem L2 PyProof.Rows
def CoAt (C : Cn) (mg : Str → Option Value) (x : Str) (d : D) : Prop := ∃ v u, mg x = some u ∧ RelV v u ∧ ∀ B, Dn C B v d
theorem ar_v {C : Cn} {i : Nat} : ArE C (tVar i) (.v i) := rfl
theorem ar_e {C : Cn} {te : TE} {E : EF} (h : EE C te E) : ArE C te (.e E) := h
theorem hu64 {A : Around} {k : Nat} (hr : Room k A) : A.units + 64 < cLine := by have := hr.un; omega
theorem hu65 {A : Around} {k : Nat} (hr : Room k A) : A.units + 65 < cLine := by have := hr.un; omega
def topS (i : Nat) : Stmt := PySem.Challenge.pw_fillchairs_k23_whole_rings_judged.main.body.getD i (.Pass ⟨0, 0, 0, 0⟩)
abbrev s_L_deck : Stmt := topS 37
abbrev N_L_deck : List Str := ["script", "k", "cell"]
theorem sc_L_deck : FnScope N_L_deck ["script", "k"] (defScope s_L_deck) := ⟨rfl, rfl, rfl, by decide +kernel, rfl, by decide +kernel, by decide +kernel⟩
abbrev s_L_take : Stmt := topS 38
abbrev N_L_take : List Str := ["deck", "many", "one", "stir"]
theorem sc_L_take : FnScope N_L_take ["deck", "many"] (defScope s_L_take) := ⟨rfl, rfl, rfl, by decide +kernel, rfl, by decide +kernel, by decide +kernel⟩
abbrev s_L_sizes : Stmt := topS 40
abbrev N_L_sizes : List Str := ["deck", "most", "many", "sizes", "size"]
theorem sc_L_sizes : FnScope N_L_sizes ["deck", "most", "many"] (defScope s_L_sizes) := ⟨rfl, rfl, rfl, by decide +kernel, rfl, by decide +kernel, by decide +kernel⟩
abbrev s_L_small_setup : Stmt := topS 41
abbrev N_L_small_setup : List Str := ["deck", "seats", "sizes", "rooms", "k"]
theorem sc_L_small_setup : FnScope N_L_small_setup ["deck"] (defScope s_L_small_setup) := ⟨rfl, rfl, rfl, by decide +kernel, rfl, by decide +kernel, by decide +kernel⟩
abbrev s_L_range : Stmt := topS 42
abbrev N_L_range : List Str := ["deck", "kind", "low"]
theorem sc_L_range : FnScope N_L_range ["deck"] (defScope s_L_range) := ⟨rfl, rfl, rfl, by decide +kernel, rfl, by decide +kernel, by decide +kernel⟩
abbrev s_L_rule : Stmt := topS 43
abbrev N_L_rule : List Str := ["deck", "most", "moods", "parts", "deeds", "rows", "k", "ranges", "deed", "mood", "order", "left", "part"]
theorem sc_L_rule : FnScope N_L_rule ["deck", "most", "moods", "parts"] (defScope s_L_rule) := ⟨rfl, rfl, rfl, by decide +kernel, rfl, by decide +kernel, by decide +kernel⟩
abbrev s_L_case : Stmt := topS 55
abbrev N_L_case : List Str := ["deck", "most", "setup", "way"]
theorem sc_L_case : FnScope N_L_case ["deck", "most"] (defScope s_L_case) := ⟨rfl, rfl, rfl, by decide +kernel, rfl, by decide +kernel, by decide +kernel⟩
abbrev s_L_comers : Stmt := topS 44
abbrev N_L_comers : List Str := ["deck", "setup", "groups", "k"]
theorem sc_L_comers : FnScope N_L_comers ["deck", "setup"] (defScope s_L_comers) := ⟨rfl, rfl, rfl, by decide +kernel, rfl, by decide +kernel, by decide +kernel⟩
abbrev s_L_row : Stmt := topS 45
abbrev N_L_row : List Str := ["deck", "setup", "beats", "k"]
theorem sc_L_row : FnScope N_L_row ["deck", "setup", "beats"] (defScope s_L_row) := ⟨rfl, rfl, rfl, by decide +kernel, rfl, by decide +kernel, by decide +kernel⟩
abbrev s_L_fits : Stmt := topS 46
abbrev N_L_fits : List Str := ["row", "mood", "front", "left", "singles"]
theorem sc_L_fits : FnScope N_L_fits ["row", "mood", "front", "left", "singles"] (defScope s_L_fits) := ⟨rfl, rfl, rfl, by decide +kernel, rfl, by decide +kernel, by decide +kernel⟩
abbrev s_L_filled : Stmt := topS 47
abbrev N_L_filled : List Str := ["rule", "line", "singles", "left", "mood", "deeds", "step", "front", "fitting", "row"]
theorem sc_L_filled : FnScope N_L_filled ["rule", "line", "singles", "left", "mood"] (defScope s_L_filled) := ⟨rfl, rfl, rfl, by decide +kernel, rfl, by decide +kernel, by decide +kernel⟩
abbrev s_L_beat : Stmt := topS 48
abbrev N_L_beat : List Str := ["setup", "rule", "state", "comers", "turn", "line", "singles", "mood", "away", "size", "k", "deeds", "left", "lost"]
theorem sc_L_beat : FnScope N_L_beat ["setup", "rule", "state", "comers"] (defScope s_L_beat) := ⟨rfl, rfl, rfl, by decide +kernel, rfl, by decide +kernel, by decide +kernel⟩
abbrev s_L_run : Stmt := topS 49
abbrev N_L_run : List Str := ["setup", "rule", "state", "row", "chairs", "comers", "chair"]
theorem sc_L_run : FnScope N_L_run ["setup", "rule", "state", "row"] (defScope s_L_run) := ⟨rfl, rfl, rfl, by decide +kernel, rfl, by decide +kernel, by decide +kernel⟩
abbrev s_L_true_ring : Stmt := topS 56
abbrev N_L_true_ring : List Str := ["deck", "setup", "rule", "ahead", "again", "states", "turn", "after", "at"]
theorem sc_L_true_ring : FnScope N_L_true_ring ["deck", "setup", "rule"] (defScope s_L_true_ring) := ⟨rfl, rfl, rfl, by decide +kernel, rfl, by decide +kernel, by decide +kernel⟩
abbrev s_L_whole : Stmt := topS 39
abbrev N_L_whole : List Str := ["thing", "low", "high"]
theorem sc_L_whole : FnScope N_L_whole ["thing", "low", "high"] (defScope s_L_whole) := ⟨rfl, rfl, rfl, by decide +kernel, rfl, by decide +kernel, by decide +kernel⟩
abbrev s_L_is_comers : Stmt := topS 51
abbrev N_L_is_comers : List Str := ["setup", "thing", "size"]
theorem sc_L_is_comers : FnScope N_L_is_comers ["setup", "thing"] (defScope s_L_is_comers) := ⟨rfl, rfl, rfl, by decide +kernel, rfl, by decide +kernel, by decide +kernel⟩
abbrev s_L_ring_right : Stmt := topS 53
abbrev N_L_ring_right : List Str := ["setup", "rule", "ring", "ahead", "again", "state", "chairs", "after", "comers", "chair"]
theorem sc_L_ring_right : FnScope N_L_ring_right ["setup", "rule", "ring"] (defScope s_L_ring_right) := ⟨rfl, rfl, rfl, by decide +kernel, rfl, by decide +kernel, by decide +kernel⟩
abbrev s_L_odd : Stmt := topS 50
abbrev N_L_odd : List Str := ["deck", "odd"]
theorem sc_L_odd : FnScope N_L_odd ["deck"] (defScope s_L_odd) := ⟨rfl, rfl, rfl, by decide +kernel, rfl, by decide +kernel, by decide +kernel⟩
abbrev s_L_bad_comers : Stmt := topS 52
abbrev N_L_bad_comers : List Str := ["deck", "setup", "groups", "singles", "kind", "at", "size"]
theorem sc_L_bad_comers : FnScope N_L_bad_comers ["deck", "setup"] (defScope s_L_bad_comers) := ⟨rfl, rfl, rfl, by decide +kernel, rfl, by decide +kernel, by decide +kernel⟩
abbrev s_L_spoiled_ring : Stmt := topS 57
abbrev N_L_spoiled_ring : List Str := ["deck", "setup", "ring", "ahead", "again", "kind", "at", "things"]
theorem sc_L_spoiled_ring : FnScope N_L_spoiled_ring ["deck", "setup", "ring"] (defScope s_L_spoiled_ring) := ⟨rfl, rfl, rfl, by decide +kernel, rfl, by decide +kernel, by decide +kernel⟩
abbrev s_is_integer : Stmt := topS 8
abbrev N_is_integer : List Str := ["thing"]
theorem sc_is_integer : FnScope N_is_integer ["thing"] (defScope s_is_integer) := ⟨rfl, rfl, rfl, by decide +kernel, rfl, by decide +kernel, by decide +kernel⟩
abbrev s_is_number : Stmt := topS 9
abbrev N_is_number : List Str := ["thing", "low", "high"]
theorem sc_is_number : FnScope N_is_number ["thing", "low", "high"] (defScope s_is_number) := ⟨rfl, rfl, rfl, by decide +kernel, rfl, by decide +kernel, by decide +kernel⟩
abbrev s_are_numbers : Stmt := topS 10
abbrev N_are_numbers : List Str := ["thing", "least", "most", "low", "high", "number"]
theorem sc_are_numbers : FnScope N_are_numbers ["thing", "least", "most", "low", "high"] (defScope s_are_numbers) := ⟨rfl, rfl, rfl, by decide +kernel, rfl, by decide +kernel, by decide +kernel⟩
abbrev s_are_most : Stmt := topS 11
abbrev N_are_most : List Str := ["thing", "groups_low", "groups_high", "singles_high"]
theorem sc_are_most : FnScope N_are_most ["thing", "groups_low", "groups_high", "singles_high"] (defScope s_are_most) := ⟨rfl, rfl, rfl, by decide +kernel, rfl, by decide +kernel, by decide +kernel⟩
abbrev s_is_setup : Stmt := topS 12
abbrev N_is_setup : List Str := ["thing", "seats", "sizes", "rooms", "comers", "one", "other"]
theorem sc_is_setup : FnScope N_is_setup ["thing"] (defScope s_is_setup) := ⟨rfl, rfl, rfl, by decide +kernel, rfl, by decide +kernel, by decide +kernel⟩
abbrev s_check_setup : Stmt := topS 16
abbrev N_check_setup : List Str := ["setup"]
theorem sc_check_setup : FnScope N_check_setup ["setup"] (defScope s_check_setup) := ⟨rfl, rfl, rfl, by decide +kernel, rfl, by decide +kernel, by decide +kernel⟩
abbrev s_is_range : Stmt := topS 13
abbrev N_is_range : List Str := ["thing"]
theorem sc_is_range : FnScope N_is_range ["thing"] (defScope s_is_range) := ⟨rfl, rfl, rfl, by decide +kernel, rfl, by decide +kernel, by decide +kernel⟩
abbrev s_is_rule_row : Stmt := topS 14
abbrev N_is_rule_row : List Str := ["thing", "mood", "front", "left", "waiting", "deed", "after"]
theorem sc_is_rule_row : FnScope N_is_rule_row ["thing"] (defScope s_is_rule_row) := ⟨rfl, rfl, rfl, by decide +kernel, rfl, by decide +kernel, by decide +kernel⟩
abbrev s_is_rule : Stmt := topS 15
abbrev N_is_rule : List Str := ["thing", "row"]
theorem sc_is_rule : FnScope N_is_rule ["thing"] (defScope s_is_rule) := ⟨rfl, rfl, rfl, by decide +kernel, rfl, by decide +kernel, by decide +kernel⟩
abbrev s_check_both : Stmt := topS 17
abbrev N_check_both : List Str := ["setup", "rule"]
theorem sc_check_both : FnScope N_check_both ["setup", "rule"] (defScope s_check_both) := ⟨rfl, rfl, rfl, by decide +kernel, rfl, by decide +kernel, by decide +kernel⟩
abbrev s_check_fraction : Stmt := topS 33
abbrev N_check_fraction : List Str := ["above", "below"]
theorem sc_check_fraction : FnScope N_check_fraction ["above", "below"] (defScope s_check_fraction) := ⟨rfl, rfl, rfl, by decide +kernel, rfl, by decide +kernel, by decide +kernel⟩
abbrev s_let_in : Stmt := topS 29
abbrev N_let_in : List Str := ["setup", "line", "singles", "comers", "groups", "more", "here", "waiting"]
theorem sc_let_in : FnScope N_let_in ["setup", "line", "singles", "comers"] (defScope s_let_in) := ⟨rfl, rfl, rfl, by decide +kernel, rfl, by decide +kernel, by decide +kernel⟩
abbrev s_front_of : Stmt := topS 25
abbrev N_front_of : List Str := ["line"]
theorem sc_front_of : FnScope N_front_of ["line"] (defScope s_front_of) := ⟨rfl, rfl, rfl, by decide +kernel, rfl, by decide +kernel, by decide +kernel⟩
abbrev s_can_be_done : Stmt := topS 24
abbrev N_can_be_done : List Str := ["deed", "front", "left", "singles"]
theorem sc_can_be_done : FnScope N_can_be_done ["deed", "front", "left", "singles"] (defScope s_can_be_done) := ⟨rfl, rfl, rfl, by decide +kernel, rfl, by decide +kernel, by decide +kernel⟩
abbrev s_fitting_row : Stmt := topS 26
abbrev N_fitting_row : List Str := ["rule", "mood", "line", "singles", "left", "front", "row", "seen"]
theorem sc_fitting_row : FnScope N_fitting_row ["rule", "mood", "line", "singles", "left"] (defScope s_fitting_row) := ⟨rfl, rfl, rfl, by decide +kernel, rfl, by decide +kernel, by decide +kernel⟩
abbrev s_seated : Stmt := topS 27
abbrev N_seated : List Str := ["deed", "line", "singles", "left"]
theorem sc_seated : FnScope N_seated ["deed", "line", "singles", "left"] (defScope s_seated) := ⟨rfl, rfl, rfl, by decide +kernel, rfl, by decide +kernel, by decide +kernel⟩
abbrev s_fill : Stmt := topS 28
abbrev N_fill : List Str := ["rule", "line", "singles", "seats", "mood", "left", "deeds", "row", "deed"]
theorem sc_fill : FnScope N_fill ["rule", "line", "singles", "seats", "mood"] (defScope s_fill) := ⟨rfl, rfl, rfl, by decide +kernel, rfl, by decide +kernel, by decide +kernel⟩
abbrev s_beat : Stmt := topS 30
abbrev N_beat : List Str := ["setup", "rule", "state", "comers", "turn", "line", "singles", "mood", "away", "deeds", "left", "lost"]
theorem sc_beat : FnScope N_beat ["setup", "rule", "state", "comers"] (defScope s_beat) := ⟨rfl, rfl, rfl, by decide +kernel, rfl, by decide +kernel, by decide +kernel⟩
abbrev s_run : Stmt := topS 31
abbrev N_run : List Str := ["setup", "rule", "state", "row", "chairs", "comers", "chair"]
theorem sc_run : FnScope N_run ["setup", "rule", "state", "row"] (defScope s_run) := ⟨rfl, rfl, rfl, by decide +kernel, rfl, by decide +kernel, by decide +kernel⟩
abbrev s_is_size : Stmt := topS 18
abbrev N_is_size : List Str := ["setup", "thing"]
theorem sc_is_size : FnScope N_is_size ["setup", "thing"] (defScope s_is_size) := ⟨rfl, rfl, rfl, by decide +kernel, rfl, by decide +kernel, by decide +kernel⟩
abbrev s_is_comers : Stmt := topS 19
abbrev N_is_comers : List Str := ["setup", "thing", "groups", "singles", "size"]
theorem sc_is_comers : FnScope N_is_comers ["setup", "thing"] (defScope s_is_comers) := ⟨rfl, rfl, rfl, by decide +kernel, rfl, by decide +kernel, by decide +kernel⟩
abbrev s_row_fault : Stmt := topS 20
abbrev N_row_fault : List Str := ["setup", "row", "most", "place", "comers"]
theorem sc_row_fault : FnScope N_row_fault ["setup", "row", "most"] (defScope s_row_fault) := ⟨rfl, rfl, rfl, by decide +kernel, rfl, by decide +kernel, by decide +kernel⟩
abbrev s_first_state : Stmt := topS 23
abbrev N_first_state : List Str := []
theorem sc_first_state : FnScope N_first_state [] (defScope s_first_state) := ⟨rfl, rfl, rfl, by decide +kernel, rfl, by decide +kernel, by decide +kernel⟩
abbrev s_is_ring : Stmt := topS 34
abbrev N_is_ring : List Str := ["setup", "rule", "thing", "ahead", "again", "state"]
theorem sc_is_ring : FnScope N_is_ring ["setup", "rule", "thing"] (defScope s_is_ring) := ⟨rfl, rfl, rfl, by decide +kernel, rfl, by decide +kernel, by decide +kernel⟩
abbrev s_ring_holds : Stmt := topS 35
abbrev N_ring_holds : List Str := ["setup", "rule", "above", "below", "ring", "state", "lost", "chair"]
theorem sc_ring_holds : FnScope N_ring_holds ["setup", "rule", "above", "below", "ring"] (defScope s_ring_holds) := ⟨rfl, rfl, rfl, by decide +kernel, rfl, by decide +kernel, by decide +kernel⟩
abbrev s_L_same : Stmt := topS 54
abbrev N_L_same : List Str := ["told", "due"]
theorem sc_L_same : FnScope N_L_same ["told", "due"] (defScope s_L_same) := ⟨rfl, rfl, rfl, by decide +kernel, rfl, by decide +kernel, by decide +kernel⟩
abbrev s_L_long_right : Stmt := topS 58
abbrev N_L_long_right : List Str := ["deck", "setup", "rule", "ring", "above", "below", "ahead", "again", "many", "wrong", "thing", "told", "due"]
theorem sc_L_long_right : FnScope N_L_long_right ["deck", "setup", "rule", "ring", "above", "below"] (defScope s_L_long_right) := ⟨rfl, rfl, rfl, by decide +kernel, rfl, by decide +kernel, by decide +kernel⟩
abbrev s_law : Stmt := topS 59
abbrev N_law : List Str := ["script", "k", "deck", "setup", "rule", "ring", "shown", "times", "kept", "above", "below", "turn", "thing", "told", "due"]
theorem sc_law : FnScope N_law ["script"] (defScope s_law) := ⟨rfl, rfl, rfl, by decide +kernel, rfl, by decide +kernel, by decide +kernel⟩
structure Top (C : Cn) (mg : Str → Option Value) : Prop where
  d_L_deck : FunAt C.K mg "_law_deck" s_L_deck ["script", "k"]
  d_L_take : FunAt C.K mg "_law_take" s_L_take ["deck", "many"]
  d_L_sizes : FunAt C.K mg "_law_sizes" s_L_sizes ["deck", "most", "many"]
  d_L_small_setup : FunAt C.K mg "_law_small_setup" s_L_small_setup ["deck"]
  d_L_range : FunAt C.K mg "_law_range" s_L_range ["deck"]
  d_L_rule : FunAt C.K mg "_law_rule" s_L_rule ["deck", "most", "moods", "parts"]
  d_L_case : FunAt C.K mg "_law_case" s_L_case ["deck", "most"]
  d_L_comers : FunAt C.K mg "_law_comers" s_L_comers ["deck", "setup"]
  d_L_row : FunAt C.K mg "_law_row" s_L_row ["deck", "setup", "beats"]
  d_L_fits : FunAt C.K mg "_law_fits" s_L_fits ["row", "mood", "front", "left", "singles"]
  d_L_filled : FunAt C.K mg "_law_filled" s_L_filled ["rule", "line", "singles", "left", "mood"]
  d_L_beat : FunAt C.K mg "_law_beat" s_L_beat ["setup", "rule", "state", "comers"]
  d_L_run : FunAt C.K mg "_law_run" s_L_run ["setup", "rule", "state", "row"]
  d_L_true_ring : FunAt C.K mg "_law_true_ring" s_L_true_ring ["deck", "setup", "rule"]
  d_L_whole : FunAt C.K mg "_law_whole" s_L_whole ["thing", "low", "high"]
  d_L_is_comers : FunAt C.K mg "_law_is_comers" s_L_is_comers ["setup", "thing"]
  d_L_ring_right : FunAt C.K mg "_law_ring_right" s_L_ring_right ["setup", "rule", "ring"]
  d_L_odd : FunAt C.K mg "_law_odd" s_L_odd ["deck"]
  d_L_bad_comers : FunAt C.K mg "_law_bad_comers" s_L_bad_comers ["deck", "setup"]
  d_L_spoiled_ring : FunAt C.K mg "_law_spoiled_ring" s_L_spoiled_ring ["deck", "setup", "ring"]
  d_is_integer : FunAt C.K mg "is_integer" s_is_integer ["thing"]
  d_is_number : FunAt C.K mg "is_number" s_is_number ["thing", "low", "high"]
  d_are_numbers : FunAt C.K mg "are_numbers" s_are_numbers ["thing", "least", "most", "low", "high"]
  d_are_most : FunAt C.K mg "are_most" s_are_most ["thing", "groups_low", "groups_high", "singles_high"]
  d_is_setup : FunAt C.K mg "is_setup" s_is_setup ["thing"]
  d_check_setup : FunAt C.K mg "check_setup" s_check_setup ["setup"]
  d_is_range : FunAt C.K mg "is_range" s_is_range ["thing"]
  d_is_rule_row : FunAt C.K mg "is_rule_row" s_is_rule_row ["thing"]
  d_is_rule : FunAt C.K mg "is_rule" s_is_rule ["thing"]
  d_check_both : FunAt C.K mg "check_both" s_check_both ["setup", "rule"]
  d_check_fraction : FunAt C.K mg "check_fraction" s_check_fraction ["above", "below"]
  d_let_in : FunAt C.K mg "let_in" s_let_in ["setup", "line", "singles", "comers"]
  d_front_of : FunAt C.K mg "front_of" s_front_of ["line"]
  d_can_be_done : FunAt C.K mg "can_be_done" s_can_be_done ["deed", "front", "left", "singles"]
  d_fitting_row : FunAt C.K mg "fitting_row" s_fitting_row ["rule", "mood", "line", "singles", "left"]
  d_seated : FunAt C.K mg "seated" s_seated ["deed", "line", "singles", "left"]
  d_fill : FunAt C.K mg "fill" s_fill ["rule", "line", "singles", "seats", "mood"]
  d_beat : FunAt C.K mg "beat" s_beat ["setup", "rule", "state", "comers"]
  d_run : FunAt C.K mg "run" s_run ["setup", "rule", "state", "row"]
  d_is_size : FunAt C.K mg "is_size" s_is_size ["setup", "thing"]
  d_is_comers : FunAt C.K mg "is_comers" s_is_comers ["setup", "thing"]
  d_row_fault : FunAt C.K mg "row_fault" s_row_fault ["setup", "row", "most"]
  d_first_state : FunAt C.K mg "first_state" s_first_state []
  d_is_ring : FunAt C.K mg "is_ring" s_is_ring ["setup", "rule", "thing"]
  d_ring_holds : FunAt C.K mg "ring_holds" s_ring_holds ["setup", "rule", "above", "below", "ring"]
  d_L_same : FunAt C.K mg "_law_same" s_L_same ["told", "due"]
  d_L_long_right : FunAt C.K mg "_law_long_right" s_L_long_right ["deck", "setup", "rule", "ring", "above", "below"]
  z_abs : mg "abs" = none
  z_all : mg "all" = none
  z_bool : mg "bool" = none
  z_enumerate : mg "enumerate" = none
  z_int : mg "int" = none
  z_isinstance : mg "isinstance" = none
  z_len : mg "len" = none
  z_list : mg "list" = none
  z_max : mg "max" = none
  z_min : mg "min" = none
  z_range : mg "range" = none
  z_str : mg "str" = none
  z_sum : mg "sum" = none
  z_tuple : mg "tuple" = none
  z_zip : mg "zip" = none
  c_DEEDS : CoAt C mg "DEEDS" D_DEEDS
  c_MOST_ROWS : CoAt C mg "MOST_ROWS" D_MOST_ROWS
  c_START : CoAt C mg "START" D_START
theorem ok_L_deck {P : Program} {w : World} {K : PySem.W.Frag} {mg : Str → Option Value} {base : Heap} (T : Top ⟨P, w, K⟩ mg) : FnT P w K mg base 1 "_law_deck" ["script", "k"] [] (spD ⟨P, w, K⟩ [false, false] fn_L_deck) := by
  refine T.d_L_deck.ok sc_L_deck (fun vs H Q E h => sp_len h) (fun f cdv A outer s H vs Q E hr h => ?_)
  exact ⟨_, pss_cons (ps_set (i := 2) sc_L_deck.nd rfl (.inl rfl) (pe_int)) (pss_cons (ps_if (pt_cmpR op_lt (pv 1) (pe_callB call_lenB rfl T.z_len boot_len (pa_cons (pv 0) pa_nil)) (nomark _)) (pss_one (ps_set (i := 2) sc_L_deck.nd rfl (.inl rfl) (pe_callB call_absF rfl T.z_abs boot_abs (pa_cons (pe_ix (ix_B (hu65 hr)) (pv 0) (pv 1) (fun _ _ => rfl)) pa_nil)))) (pss_nil)) (pss_one (ps_ret (pe_lst (pa_cons (pe_callB (call_max2F rfl) rfl T.z_max boot_max (pa_cons (pe_int) (pa_cons (pe_op op_sub (pv 2) (pe_op op_pow (pe_int) (pe_int))) pa_nil))) (pa_cons (pe_op op_addAny (pe_op op_mod (pe_callTy call_int1F rfl T.z_int boot_int (pa_cons (pe_op op_addAny (pv 2) (pe_op op_mulA (pe_int) (pv 1))) pa_nil)) (pe_int)) (pe_int)) (pa_nil))))))),
    fn_ok (es_seq (es_asg (ee_int) eg_nm) (es_seq (es_if (et_test (ee_op rb_lt (ar_v) (ar_e (ee_call1 ru_lenB (ar_v))))) (es_asg (ee_call1 ru_abs (ar_e (ee_op rb_ixB (ar_v) (ar_v)))) eg_nm) (es_next)) (es_retO (eo_lst (ees_cons (ee_call2 rb_max (ar_e (ee_int)) (ar_e (ee_op rb_sub (ar_v) (ar_e (ee_op rb_pow (ar_e (ee_int)) (ar_e (ee_int))))))) (ees_cons (ee_op rb_add (ar_e (ee_op rb_mod (ar_e (ee_call1 ru_int (ar_e (ee_op rb_add (ar_v) (ar_e (ee_op rb_mulA (ar_e (ee_int)) (ar_v))))))) (ar_e (ee_int)))) (ar_e (ee_int))) (ees_nil))))))) rfl h⟩
theorem ok_L_take {P : Program} {w : World} {K : PySem.W.Frag} {mg : Str → Option Value} {base : Heap} (T : Top ⟨P, w, K⟩ mg) : FnT P w K mg base 1 "_law_take" ["deck", "many"] [] (spD ⟨P, w, K⟩ [true, false] fn_L_take) := by
  refine T.d_L_take.ok sc_L_take (fun vs H Q E h => sp_len h) (fun f cdv A outer s H vs Q E hr h => ?_)
  exact ⟨_, pss_cons (ps_if (pt_cmpR op_gt (pe_ix (ix_B (hu65 hr)) (pv 0) (pe_int) (fun _ _ => rfl)) (pe_int) (nomark _)) (pss_cons (ps_set (i := 2) sc_L_take.nd rfl (.inl rfl) (pe_op op_mod (pe_callTy call_int1F rfl T.z_int boot_int (pa_cons (pe_ix (ix_B (hu65 hr)) (pv 0) (pe_int) (fun _ _ => rfl)) pa_nil)) (pv 1))) (pss_cons (ps_asg (pe_op op_fdiv (pe_ix (ix_B (hu65 hr)) (pv 0) (pe_int) (fun _ _ => rfl)) (pv 1)) (pg_sub (pv 0) (pe_int) (set_B (hu65 hr)) (fun _ => rfl))) (pss_one (ps_ret (pv 2))))) (pss_nil)) (pss_cons (ps_asg (pe_op op_mod (pe_callTy call_int1F rfl T.z_int boot_int (pa_cons (pe_op op_mulA (pe_ix (ix_B (hu65 hr)) (pv 0) (pe_int) (fun _ _ => rfl)) (pe_int)) pa_nil)) (pe_int)) (pg_sub (pv 0) (pe_int) (set_B (hu65 hr)) (fun _ => rfl))) (pss_cons (ps_set (i := 3) sc_L_take.nd rfl (.inl rfl) (pe_op op_mod (pe_callTy call_int1F rfl T.z_int boot_int (pa_cons (pe_op op_mulA (pe_ix (ix_B (hu65 hr)) (pv 0) (pe_int) (fun _ _ => rfl)) (pe_ix (ix_B (hu65 hr)) (pv 0) (pe_int) (fun _ _ => rfl))) pa_nil)) (pe_int))) (pss_one (ps_ret (pe_op op_mod (pe_op op_fdiv (pe_op op_mod (pe_callTy call_int1F rfl T.z_int boot_int (pa_cons (pe_op op_mulA (pv 3) (pe_int)) pa_nil)) (pe_int)) (pe_int)) (pv 1)))))),
    fn_ok (es_seq (es_if (et_test (ee_op rb_gt (ar_e (ee_op rb_ixB (ar_v) (ar_e (ee_int)))) (ar_e (ee_int)))) (es_seq (es_asg (ee_op rb_mod (ar_e (ee_call1 ru_int (ar_e (ee_op rb_ixB (ar_v) (ar_e (ee_int)))))) (ar_v)) eg_nm) (es_seq (es_setA (ee_op rb_div (ar_e (ee_op rb_ixB (ar_v) (ar_e (ee_int)))) (ar_v)) (ee_int)) (es_ret (ee_var)))) (es_next)) (es_seq (es_setA (ee_op rb_mod (ar_e (ee_call1 ru_int (ar_e (ee_op rb_mulA (ar_e (ee_op rb_ixB (ar_v) (ar_e (ee_int)))) (ar_e (ee_int)))))) (ar_e (ee_int))) (ee_int)) (es_seq (es_asg (ee_op rb_mod (ar_e (ee_call1 ru_int (ar_e (ee_op rb_mulA (ar_e (ee_op rb_ixB (ar_v) (ar_e (ee_int)))) (ar_e (ee_op rb_ixB (ar_v) (ar_e (ee_int)))))))) (ar_e (ee_int))) eg_nm) (es_ret (ee_op rb_mod (ar_e (ee_op rb_div (ar_e (ee_op rb_mod (ar_e (ee_call1 ru_int (ar_e (ee_op rb_mulA (ar_v) (ar_e (ee_int)))))) (ar_e (ee_int)))) (ar_e (ee_int)))) (ar_v)))))) rfl h⟩
theorem ok_L_sizes {P : Program} {w : World} {K : PySem.W.Frag} {mg : Str → Option Value} {base : Heap} (T : Top ⟨P, w, K⟩ mg) : FnT P w K mg base 2 "_law_sizes" ["deck", "most", "many"] [] (spD ⟨P, w, K⟩ [true, false, false] fn_L_sizes) := by
  refine T.d_L_sizes.ok sc_L_sizes (fun vs H Q E h => sp_len h) (fun f cdv A outer s H vs Q E hr h => ?_)
  exact ⟨_, pss_cons (ps_setLc (i := 3) (own := [("size", 4)]) rfl sc_L_sizes.nd rfl rfl (sw_true rfl rfl rfl (by decide +kernel)) (pi_range2 rfl T.z_range (pa_cons (pe_int) (pa_cons (pe_op op_addAny (pv 1) (pe_int)) pa_nil))) (blkOk_by (N := N_L_sizes) (sc := defScope s_L_sizes) (by decide +kernel)) (fun _ _ _ _ _ => pg_name (i := 4) sc_L_sizes.nd rfl (.inl rfl)) (fun _ _ _ _ _ => pts_one (pt_cmpR (op_eqD hr.units) (pe_callF (ok_L_take T) (hr.mono (by decide)) rfl (pa_cons (pv 0) (pa_cons (pe_int) (pa_nil)))) (pe_int) (nomark _))) (fun _ _ _ _ _ => pv 4)) (pss_cons (ps_if (pt_cmpR (op_eqD hr.units) (pv 3) (pe_lst (pa_nil)) (nomark _)) (pss_one (ps_set (i := 3) sc_L_sizes.nd rfl (.inl rfl) (pe_lst (pa_cons (pe_op op_addAny (pe_int) (pe_callF (ok_L_take T) (hr.mono (by decide)) rfl (pa_cons (pv 0) (pa_cons (pv 1) (pa_nil))))) (pa_nil))))) (pss_nil)) (pss_one (ps_ret (pe_callTy call_tupleF rfl T.z_tuple boot_tuple (pa_cons (pe_slice sl_any (pv 3) (po_none) (po_some (pv 2))) pa_nil))))),
    fn_ok (es_seq (es_asg ((eo_lc (vs := [4]) (ei_rng2 (ee_int) (ee_op rb_add (ar_v) (ar_e (ee_int)))) (egv_nm) (et_test (ee_op rb_eq (ar_e (ee_call (fn := fn_L_take) (eac_io (eac_e (ee_int) (eac_nil))))) (ar_e (ee_int)))) (ee_var)).ee) eg_nm) (es_seq (es_if (et_test (ee_op rb_eq (ar_v) (ar_e ((eo_lst (ees_nil)).ee)))) (es_asg ((eo_lst (ees_cons (ee_op rb_add (ar_e (ee_int)) (ar_e (ee_call (fn := fn_L_take) (eac_io (eac_e (ee_var) (eac_nil)))))) (ees_nil))).ee) eg_nm) (es_next)) (es_ret (ee_call1 ru_tuple (ar_e (ee_sl (ar_v) (eop_none) (eop_some (ee_var)))))))) rfl h⟩
theorem ok_L_small_setup {P : Program} {w : World} {K : PySem.W.Frag} {mg : Str → Option Value} {base : Heap} (T : Top ⟨P, w, K⟩ mg) : FnT P w K mg base 3 "_law_small_setup" ["deck"] [] (spD ⟨P, w, K⟩ [true] fn_L_small_setup) := by
  refine T.d_L_small_setup.ok sc_L_small_setup (fun vs H Q E h => sp_len h) (fun f cdv A outer s H vs Q E hr h => ?_)
  exact ⟨_, pss_cons (ps_set (i := 1) sc_L_small_setup.nd rfl (.inl rfl) (pe_callTy call_tupleF rfl T.z_tuple boot_tuple (pa_cons (pe_lc (own := [("k", 4)]) rfl sc_L_small_setup.nd (pi_range1 rfl T.z_range (pa_cons (pe_op op_addAny (pe_int) (pe_op op_fdiv (pe_callF (ok_L_take T) (hr.mono (by decide)) rfl (pa_cons (pv 0) (pa_cons (pe_int) (pa_nil)))) (pe_int))) pa_nil)) (blkOk_by (N := N_L_small_setup) (sc := defScope s_L_small_setup) (by decide +kernel)) (fun _ _ _ _ _ => pg_name (i := 4) sc_L_small_setup.nd rfl (.inl rfl)) (fun _ _ _ _ _ => pts_nil) (fun _ _ _ _ _ => pe_op op_addAny (pe_int) (pe_callF (ok_L_take T) (hr.mono (by decide)) rfl (pa_cons (pv 0) (pa_cons (pe_int) (pa_nil)))))) pa_nil))) (pss_cons (ps_set (i := 2) sc_L_small_setup.nd rfl (.inl rfl) (pe_callF (ok_L_sizes T) (hr.mono (by decide)) rfl (pa_cons (pv 0) (pa_cons (pe_int) (pa_cons (pe_int) (pa_nil)))))) (pss_cons (ps_set (i := 3) sc_L_small_setup.nd rfl (.inl rfl) (pe_tup (pa_cons (pe_op op_addAny (pe_int) (pe_callF (ok_L_take T) (hr.mono (by decide)) rfl (pa_cons (pv 0) (pa_cons (pe_int) (pa_nil))))) (pa_cons (pe_callF (ok_L_take T) (hr.mono (by decide)) rfl (pa_cons (pv 0) (pa_cons (pe_int) (pa_nil)))) (pa_nil))))) (pss_one (ps_ret (pe_tup (pa_cons (pv 1) (pa_cons (pv 2) (pa_cons (pv 3) (pa_cons (pe_tup (pa_cons (pe_op op_sub (pe_int) (pe_callF (ok_L_take T) (hr.mono (by decide)) rfl (pa_cons (pv 0) (pa_cons (pe_int) (pa_nil))))) (pa_cons (pe_ix (ix_B (hu65 hr)) (pe_lst (pa_cons (pe_int) (pa_cons (pe_int) (pa_cons (pe_int) (pa_cons (pe_int) (pa_nil)))))) (pe_callF (ok_L_take T) (hr.mono (by decide)) rfl (pa_cons (pv 0) (pa_cons (pe_int) (pa_nil)))) (fun _ _ => rfl)) (pa_nil)))) (pa_nil)))))))))),
    fn_ok (es_seq (es_asg (ee_call1 ru_tuple (ar_e ((eo_lc (vs := [4]) (ei_rng (ee_op rb_add (ar_e (ee_int)) (ar_e (ee_op rb_div (ar_e (ee_call (fn := fn_L_take) (eac_io (eac_e (ee_int) (eac_nil))))) (ar_e (ee_int)))))) (egv_nm) (et_yes) (ee_op rb_add (ar_e (ee_int)) (ar_e (ee_call (fn := fn_L_take) (eac_io (eac_e (ee_int) (eac_nil))))))).ee))) eg_nm) (es_seq (es_asg (ee_call (fn := fn_L_sizes) (eac_io (eac_e (ee_int) (eac_e (ee_int) (eac_nil))))) eg_nm) (es_seq (es_asg (ee_tup (ees_cons (ee_op rb_add (ar_e (ee_int)) (ar_e (ee_call (fn := fn_L_take) (eac_io (eac_e (ee_int) (eac_nil)))))) (ees_cons (ee_call (fn := fn_L_take) (eac_io (eac_e (ee_int) (eac_nil)))) (ees_nil)))) eg_nm) (es_ret (ee_tup (ees_cons (ee_var) (ees_cons (ee_var) (ees_cons (ee_var) (ees_cons (ee_tup (ees_cons (ee_op rb_sub (ar_e (ee_int)) (ar_e (ee_call (fn := fn_L_take) (eac_io (eac_e (ee_int) (eac_nil)))))) (ees_cons (ee_op rb_ixB (ar_e ((eo_lst (ees_cons (ee_int) (ees_cons (ee_int) (ees_cons (ee_int) (ees_cons (ee_int) (ees_nil)))))).ee)) (ar_e (ee_call (fn := fn_L_take) (eac_io (eac_e (ee_int) (eac_nil)))))) (ees_nil)))) (ees_nil)))))))))) rfl h⟩
theorem ok_L_range {P : Program} {w : World} {K : PySem.W.Frag} {mg : Str → Option Value} {base : Heap} (T : Top ⟨P, w, K⟩ mg) : FnT P w K mg base 2 "_law_range" ["deck"] [] (spD ⟨P, w, K⟩ [true] fn_L_range) := by
  refine T.d_L_range.ok sc_L_range (fun vs H Q E h => sp_len h) (fun f cdv A outer s H vs Q E hr h => ?_)
  exact ⟨_, pss_cons (ps_set (i := 1) sc_L_range.nd rfl (.inl rfl) (pe_callF (ok_L_take T) (hr.mono (by decide)) rfl (pa_cons (pv 0) (pa_cons (pe_int) (pa_nil))))) (pss_cons (ps_if (pt_cmpR (op_eqD hr.units) (pv 1) (pe_int) (nomark _)) (pss_one (ps_ret (pe_tup (pa_cons (pe_int) (pa_cons (pe_int) (pa_nil)))))) (pss_nil)) (pss_cons (ps_set (i := 2) sc_L_range.nd rfl (.inl rfl) (pe_callF (ok_L_take T) (hr.mono (by decide)) rfl (pa_cons (pv 0) (pa_cons (pe_int) (pa_nil))))) (pss_cons (ps_if (pt_cmpR (op_eqD hr.units) (pv 1) (pe_int) (nomark _)) (pss_one (ps_ret (pe_tup (pa_cons (pv 2) (pa_cons (pv 2) (pa_nil)))))) (pss_nil)) (pss_one (ps_ret (pe_tup (pa_cons (pv 2) (pa_cons (pe_op op_addAny (pv 2) (pe_callF (ok_L_take T) (hr.mono (by decide)) rfl (pa_cons (pv 0) (pa_cons (pe_op op_sub (pe_int) (pv 2)) (pa_nil))))) (pa_nil))))))))),
    fn_ok (es_seq (es_asg (ee_call (fn := fn_L_take) (eac_io (eac_e (ee_int) (eac_nil)))) eg_nm) (es_seq (es_if (et_test (ee_op rb_eq (ar_v) (ar_e (ee_int)))) (es_ret (ee_tup (ees_cons (ee_int) (ees_cons (ee_int) (ees_nil))))) (es_next)) (es_seq (es_asg (ee_call (fn := fn_L_take) (eac_io (eac_e (ee_int) (eac_nil)))) eg_nm) (es_seq (es_if (et_test (ee_op rb_eq (ar_v) (ar_e (ee_int)))) (es_ret (ee_tup (ees_cons (ee_var) (ees_cons (ee_var) (ees_nil))))) (es_next)) (es_ret (ee_tup (ees_cons (ee_var) (ees_cons (ee_op rb_add (ar_v) (ar_e (ee_call (fn := fn_L_take) (eac_io (eac_e (ee_op rb_sub (ar_e (ee_int)) (ar_v)) (eac_nil)))))) (ees_nil))))))))) rfl h⟩
theorem ok_L_rule {P : Program} {w : World} {K : PySem.W.Frag} {mg : Str → Option Value} {base : Heap} (T : Top ⟨P, w, K⟩ mg) : FnT P w K mg base 3 "_law_rule" ["deck", "most", "moods", "parts"] [] (spD ⟨P, w, K⟩ [true, false, false, false] fn_L_rule) := by
  refine T.d_L_rule.ok sc_L_rule (fun vs H Q E h => sp_len h) (fun f cdv A outer s H vs Q E hr h => ?_)
  exact ⟨_, pss_cons (ps_set (i := 4) sc_L_rule.nd rfl (.inl rfl) (pe_slice sl_any (pe_lst (pa_cons (pe_str) (pa_cons (pe_str) (pa_cons (pe_str) (pa_cons (pe_str) (pa_cons (pe_str) (pa_cons (pe_str) (pa_nil)))))))) (po_none) (po_some (pe_op op_addAny (pe_int) (pv 3))))) (pss_cons (ps_set (i := 5) sc_L_rule.nd rfl (.inl rfl) (pe_lst (pa_nil))) (pss_cons (ps_if (pt_cmpR (op_eqD hr.units) (pe_callF (ok_L_take T) (hr.mono (by decide)) rfl (pa_cons (pv 0) (pa_cons (pe_int) (pa_nil)))) (pe_int) (nomark _)) (pss_cons (ps_for PassesOwn.never rfl (pi_range1 rfl T.z_range (pa_cons (pe_callF (ok_L_take T) (hr.mono (by decide)) rfl (pa_cons (pv 0) (pa_cons (pe_op op_addAny (pv 1) (pe_int)) (pa_nil)))) pa_nil)) (pg_name (i := 6) sc_L_rule.nd rfl (.inl rfl)) (pss_cons (ps_setLc (i := 7) (own := [("part", 12)]) rfl sc_L_rule.nd rfl rfl (sw_true rfl rfl rfl (by decide +kernel)) (pi_range1 rfl T.z_range (pa_cons (pe_int) pa_nil)) (blkOk_by (N := N_L_rule) (sc := defScope s_L_rule) (by decide +kernel)) (fun _ _ _ _ _ => pg_name (i := 12) sc_L_rule.nd rfl (.inl rfl)) (fun _ _ _ _ _ => pts_nil) (fun _ _ _ _ _ => pe_callF (ok_L_range T) (hr.mono (by decide)) rfl (pa_cons (pv 0) (pa_nil)))) (pss_cons (ps_set (i := 8) sc_L_rule.nd rfl (.inl rfl) (pe_ix (ix_B (hu65 hr)) (pv 4) (pe_callF (ok_L_take T) (hr.mono (by decide)) rfl (pa_cons (pv 0) (pa_cons (pe_callB call_lenB rfl T.z_len boot_len (pa_cons (pv 4) pa_nil)) (pa_nil)))) (fun _ _ => rfl))) (pss_one (ps_expr (pe_bm PySem.F.plainAttrs_list PySem.F.slot_list_append PySem.F.type_list_append mt_append (pv 5) (pa_cons (pe_tup (pa_cons (pe_callF (ok_L_take T) (hr.mono (by decide)) rfl (pa_cons (pv 0) (pa_cons (pv 2) (pa_nil)))) (pa_cons (pe_ix (ix_B (hu65 hr)) (pv 7) (pe_int) (fun _ _ => rfl)) (pa_cons (pe_ix (ix_B (hu65 hr)) (pv 7) (pe_int) (fun _ _ => rfl)) (pa_cons (pe_ix (ix_B (hu65 hr)) (pv 7) (pe_int) (fun _ _ => rfl)) (pa_cons (pv 8) (pa_cons (pe_callF (ok_L_take T) (hr.mono (by decide)) rfl (pa_cons (pv 0) (pa_cons (pv 2) (pa_nil)))) (pa_nil)))))))) pa_nil))))))) (pss_one (ps_ret (pe_callTy call_tupleF rfl T.z_tuple boot_tuple (pa_cons (pv 5) pa_nil))))) (pss_nil)) (pss_cons (ps_for PassesOwn.never rfl (pi_range1 rfl T.z_range (pa_cons (pv 2) pa_nil)) (pg_name (i := 9) sc_L_rule.nd rfl (.inl rfl)) (pss_cons (ps_set (i := 10) sc_L_rule.nd rfl (.inl rfl) (pe_ix (ix_B (hu65 hr)) (pe_lst (pa_cons (pe_lst (pa_cons (pe_str) (pa_cons (pe_str) (pa_nil)))) (pa_cons (pe_lst (pa_cons (pe_str) (pa_cons (pe_str) (pa_nil)))) (pa_cons (pe_lst (pa_cons (pe_str) (pa_nil))) (pa_cons (pe_lst (pa_cons (pe_str) (pa_nil))) (pa_nil)))))) (pe_callF (ok_L_take T) (hr.mono (by decide)) rfl (pa_cons (pv 0) (pa_cons (pe_int) (pa_nil)))) (fun _ _ => rfl))) (pss_cons (ps_if (PW.pt (pw_and (pt_cmpR (op_eqD hr.units) (pv 3) (pe_int) (nomark _)) (pw_and1 (pt_cmpR (op_eqD hr.units) (pe_callF (ok_L_take T) (hr.mono (by decide)) rfl (pa_cons (pv 0) (pa_cons (pe_int) (pa_nil)))) (pe_int) (nomark _))))) (pss_one (ps_set (i := 10) sc_L_rule.nd rfl (.inl rfl) (pe_op op_addAny (pv 10) (pe_lst (pa_cons (pe_str) (pa_nil)))))) (pss_nil)) (pss_one (ps_for PassesOwn.never rfl (pi_seqE (pv 10)) (pg_name (i := 8) sc_L_rule.nd rfl (.inl rfl)) (pss_cons (ps_set (i := 11) sc_L_rule.nd rfl (.inl rfl) (pe_ix (ix_B (hu65 hr)) (pe_lst (pa_cons (pe_tup (pa_cons (pe_int) (pa_cons (pe_int) (pa_nil)))) (pa_cons (pe_tup (pa_cons (pe_int) (pa_cons (pe_int) (pa_nil)))) (pa_cons (pe_tup (pa_cons (pe_int) (pa_cons (pe_int) (pa_nil)))) (pa_cons (pe_callF (ok_L_range T) (hr.mono (by decide)) rfl (pa_cons (pv 0) (pa_nil))) (pa_nil)))))) (pe_callF (ok_L_take T) (hr.mono (by decide)) rfl (pa_cons (pv 0) (pa_cons (pe_int) (pa_nil)))) (fun _ _ => rfl))) (pss_one (ps_expr (pe_bm PySem.F.plainAttrs_list PySem.F.slot_list_append PySem.F.type_list_append mt_append (pv 5) (pa_cons (pe_tup (pa_cons (pv 9) (pa_cons (pe_tup (pa_cons (pe_int) (pa_cons (pe_int) (pa_nil)))) (pa_cons (pv 11) (pa_cons (pe_tup (pa_cons (pe_int) (pa_cons (pe_int) (pa_nil)))) (pa_cons (pv 8) (pa_cons (pe_callF (ok_L_take T) (hr.mono (by decide)) rfl (pa_cons (pv 0) (pa_cons (pv 2) (pa_nil)))) (pa_nil)))))))) pa_nil)))))))))) (pss_one (ps_ret (pe_callTy call_tupleF rfl T.z_tuple boot_tuple (pa_cons (pe_slice sl_any (pv 5) (po_none) (po_some (pe_int))) pa_nil))))))),
    fn_ok (es_seq (es_asg (ee_sl (ar_e ((eo_lst (ees_cons (ee_str) (ees_cons (ee_str) (ees_cons (ee_str) (ees_cons (ee_str) (ees_cons (ee_str) (ees_cons (ee_str) (ees_nil)))))))).ee)) (eop_none) (eop_some (ee_op rb_add (ar_e (ee_int)) (ar_v)))) eg_nm) (es_seq (es_asgO (eo_lst (ees_nil))) (es_seq (es_if (et_test (ee_op rb_eq (ar_e (ee_call (fn := fn_L_take) (eac_io (eac_e (ee_int) (eac_nil))))) (ar_e (ee_int)))) (es_seq (es_for [6, 7, 8] (ei_rng (ee_call (fn := fn_L_take) (eac_io (eac_e (ee_op rb_add (ar_v) (ar_e (ee_int))) (eac_nil))))) (eg_nm) (es_seq (es_asg ((eo_lc (vs := [12]) (ei_rng (ee_int)) (egv_nm) (et_yes) (ee_call (fn := fn_L_range) (eac_io (eac_nil)))).ee) eg_nm) (es_seq (es_asg (ee_op rb_ixB (ar_v) (ar_e (ee_call (fn := fn_L_take) (eac_io (eac_e (ee_call1 ru_lenB (ar_v)) (eac_nil)))))) eg_nm) (es_drop (ee_app (ee_tup (ees_cons (ee_call (fn := fn_L_take) (eac_io (eac_e (ee_var) (eac_nil)))) (ees_cons (ee_op rb_ixB (ar_v) (ar_e (ee_int))) (ees_cons (ee_op rb_ixB (ar_v) (ar_e (ee_int))) (ees_cons (ee_op rb_ixB (ar_v) (ar_e (ee_int))) (ees_cons (ee_var) (ees_cons (ee_call (fn := fn_L_take) (eac_io (eac_e (ee_var) (eac_nil)))) (ees_nil))))))))))))) (es_ret (ee_call1 ru_tuple (ar_v)))) (es_next)) (es_seq (es_for [8, 9, 10, 11] (ei_rng (ee_var)) (eg_nm) (es_seq (es_asg (ee_op rb_ixB (ar_e ((eo_lst (ees_cons ((eo_lst (ees_cons (ee_str) (ees_cons (ee_str) (ees_nil)))).ee) (ees_cons ((eo_lst (ees_cons (ee_str) (ees_cons (ee_str) (ees_nil)))).ee) (ees_cons ((eo_lst (ees_cons (ee_str) (ees_nil))).ee) (ees_cons ((eo_lst (ees_cons (ee_str) (ees_nil))).ee) (ees_nil)))))).ee)) (ar_e (ee_call (fn := fn_L_take) (eac_io (eac_e (ee_int) (eac_nil)))))) eg_nm) (es_seq (es_if (et_and (et_test (ee_op rb_eq (ar_v) (ar_e (ee_int)))) (et_test (ee_op rb_eq (ar_e (ee_call (fn := fn_L_take) (eac_io (eac_e (ee_int) (eac_nil))))) (ar_e (ee_int))))) (es_asg (ee_op rb_add (ar_v) (ar_e ((eo_lst (ees_cons (ee_str) (ees_nil))).ee))) eg_nm) (es_next)) (es_for [8, 11] (ei_seqE (ee_var)) (eg_nm) (es_seq (es_asg (ee_op rb_ixB (ar_e ((eo_lst (ees_cons (ee_tup (ees_cons (ee_int) (ees_cons (ee_int) (ees_nil)))) (ees_cons (ee_tup (ees_cons (ee_int) (ees_cons (ee_int) (ees_nil)))) (ees_cons (ee_tup (ees_cons (ee_int) (ees_cons (ee_int) (ees_nil)))) (ees_cons (ee_call (fn := fn_L_range) (eac_io (eac_nil))) (ees_nil)))))).ee)) (ar_e (ee_call (fn := fn_L_take) (eac_io (eac_e (ee_int) (eac_nil)))))) eg_nm) (es_drop (ee_app (ee_tup (ees_cons (ee_var) (ees_cons (ee_tup (ees_cons (ee_int) (ees_cons (ee_int) (ees_nil)))) (ees_cons (ee_var) (ees_cons (ee_tup (ees_cons (ee_int) (ees_cons (ee_int) (ees_nil)))) (ees_cons (ee_var) (ees_cons (ee_call (fn := fn_L_take) (eac_io (eac_e (ee_var) (eac_nil)))) (ees_nil))))))))))))))) (es_ret (ee_call1 ru_tuple (ar_e (ee_sl (ar_v) (eop_none) (eop_some (ee_int)))))))))) rfl h⟩
theorem ok_L_case {P : Program} {w : World} {K : PySem.W.Frag} {mg : Str → Option Value} {base : Heap} (T : Top ⟨P, w, K⟩ mg) : FnT P w K mg base 4 "_law_case" ["deck", "most"] [] (spD ⟨P, w, K⟩ [true, false] fn_L_case) := by
  refine T.d_L_case.ok sc_L_case (fun vs H Q E h => sp_len h) (fun f cdv A outer s H vs Q E hr h => ?_)
  exact ⟨_, pss_cons (ps_set (i := 2) sc_L_case.nd rfl (.inl rfl) (pe_callF (ok_L_small_setup T) (hr.mono (by decide)) rfl (pa_cons (pv 0) (pa_nil)))) (pss_cons (ps_set (i := 3) sc_L_case.nd rfl (.inl rfl) (pe_callF (ok_L_take T) (hr.mono (by decide)) rfl (pa_cons (pv 0) (pa_cons (pe_int) (pa_nil))))) (pss_cons (ps_if (pt_cmpR (op_eqD hr.units) (pv 3) (pe_int) (nomark _)) (pss_one (ps_ret (pe_tup (pa_cons (pe_tup (pa_cons (pe_slice sl_any (pe_ix (ix_B (hu65 hr)) (pv 2) (pe_int) (fun _ _ => rfl)) (po_none) (po_some (pe_int))) (pa_cons (pe_ix (ix_B (hu65 hr)) (pv 2) (pe_int) (fun _ _ => rfl)) (pa_cons (pe_ix (ix_B (hu65 hr)) (pv 2) (pe_int) (fun _ _ => rfl)) (pa_cons (pe_ix (ix_B (hu65 hr)) (pv 2) (pe_int) (fun _ _ => rfl)) (pa_nil)))))) (pa_cons (pe_callF (ok_L_rule T) (hr.mono (by decide)) rfl (pa_cons (pv 0) (pa_cons (pv 1) (pa_cons (pe_int) (pa_cons (pe_int) (pa_nil)))))) (pa_nil)))))) (pss_nil)) (pss_cons (ps_if (pt_cmpR (op_eqD hr.units) (pv 3) (pe_int) (nomark _)) (pss_one (ps_set (i := 2) sc_L_case.nd rfl (.inl rfl) (pe_tup (pa_cons (pe_tup (pa_cons (pe_op op_addAny (pe_int) (pe_callF (ok_L_take T) (hr.mono (by decide)) rfl (pa_cons (pv 0) (pa_cons (pe_int) (pa_nil))))) (pa_nil))) (pa_cons (pe_callF (ok_L_sizes T) (hr.mono (by decide)) rfl (pa_cons (pv 0) (pa_cons (pe_int) (pa_cons (pe_int) (pa_nil))))) (pa_cons (pe_tup (pa_cons (pe_op op_addAny (pe_int) (pe_callF (ok_L_take T) (hr.mono (by decide)) rfl (pa_cons (pv 0) (pa_cons (pe_int) (pa_nil))))) (pa_cons (pe_int) (pa_nil)))) (pa_cons (pe_tup (pa_cons (pe_int) (pa_cons (pe_int) (pa_nil)))) (pa_nil)))))))) (pss_nil)) (pss_one (ps_ret (pe_tup (pa_cons (pv 2) (pa_cons (pe_callF (ok_L_rule T) (hr.mono (by decide)) rfl (pa_cons (pv 0) (pa_cons (pv 1) (pa_cons (pe_int) (pa_cons (pe_int) (pa_nil)))))) (pa_nil))))))))),
    fn_ok (es_seq (es_asg (ee_call (fn := fn_L_small_setup) (eac_io (eac_nil))) eg_nm) (es_seq (es_asg (ee_call (fn := fn_L_take) (eac_io (eac_e (ee_int) (eac_nil)))) eg_nm) (es_seq (es_if (et_test (ee_op rb_eq (ar_v) (ar_e (ee_int)))) (es_ret (ee_tup (ees_cons (ee_tup (ees_cons (ee_sl (ar_e (ee_op rb_ixB (ar_v) (ar_e (ee_int)))) (eop_none) (eop_some (ee_int))) (ees_cons (ee_op rb_ixB (ar_v) (ar_e (ee_int))) (ees_cons (ee_op rb_ixB (ar_v) (ar_e (ee_int))) (ees_cons (ee_op rb_ixB (ar_v) (ar_e (ee_int))) (ees_nil)))))) (ees_cons (ee_call (fn := fn_L_rule) (eac_io (eac_e (ee_var) (eac_e (ee_int) (eac_e (ee_int) (eac_nil)))))) (ees_nil))))) (es_next)) (es_seq (es_if (et_test (ee_op rb_eq (ar_v) (ar_e (ee_int)))) (es_asg (ee_tup (ees_cons (ee_tup (ees_cons (ee_op rb_add (ar_e (ee_int)) (ar_e (ee_call (fn := fn_L_take) (eac_io (eac_e (ee_int) (eac_nil)))))) (ees_nil))) (ees_cons (ee_call (fn := fn_L_sizes) (eac_io (eac_e (ee_int) (eac_e (ee_int) (eac_nil))))) (ees_cons (ee_tup (ees_cons (ee_op rb_add (ar_e (ee_int)) (ar_e (ee_call (fn := fn_L_take) (eac_io (eac_e (ee_int) (eac_nil)))))) (ees_cons (ee_int) (ees_nil)))) (ees_cons (ee_tup (ees_cons (ee_int) (ees_cons (ee_int) (ees_nil)))) (ees_nil)))))) eg_nm) (es_next)) (es_ret (ee_tup (ees_cons (ee_var) (ees_cons (ee_call (fn := fn_L_rule) (eac_io (eac_e (ee_var) (eac_e (ee_int) (eac_e (ee_int) (eac_nil)))))) (ees_nil))))))))) rfl h⟩
theorem ok_L_comers {P : Program} {w : World} {K : PySem.W.Frag} {mg : Str → Option Value} {base : Heap} (T : Top ⟨P, w, K⟩ mg) : FnT P w K mg base 2 "_law_comers" ["deck", "setup"] [] (spD ⟨P, w, K⟩ [true, false] fn_L_comers) := by
  refine T.d_L_comers.ok sc_L_comers (fun vs H Q E h => sp_len h) (fun f cdv A outer s H vs Q E hr h => ?_)
  exact ⟨_, pss_cons (ps_setLc (i := 2) (own := [("k", 3)]) rfl sc_L_comers.nd rfl rfl (sw_true rfl rfl rfl (by decide +kernel)) (pi_range1 rfl T.z_range (pa_cons (pe_callF (ok_L_take T) (hr.mono (by decide)) rfl (pa_cons (pv 0) (pa_cons (pe_op op_addAny (pe_ix (ix_B (hu65 hr)) (pe_ix (ix_B (hu65 hr)) (pv 1) (pe_int) (fun _ _ => rfl)) (pe_int) (fun _ _ => rfl)) (pe_int)) (pa_nil)))) pa_nil)) (blkOk_by (N := N_L_comers) (sc := defScope s_L_comers) (by decide +kernel)) (fun _ _ _ _ _ => pg_name (i := 3) sc_L_comers.nd rfl (.inl rfl)) (fun _ _ _ _ _ => pts_nil) (fun _ _ _ _ _ => pe_ix (ix_B (hu65 hr)) (pe_ix (ix_B (hu65 hr)) (pv 1) (pe_int) (fun _ _ => rfl)) (pe_callF (ok_L_take T) (hr.mono (by decide)) rfl (pa_cons (pv 0) (pa_cons (pe_callB call_lenB rfl T.z_len boot_len (pa_cons (pe_ix (ix_B (hu65 hr)) (pv 1) (pe_int) (fun _ _ => rfl)) pa_nil)) (pa_nil)))) (fun _ _ => rfl))) (pss_one (ps_ret (pe_tup (pa_cons (pe_callTy call_tupleF rfl T.z_tuple boot_tuple (pa_cons (pv 2) pa_nil)) (pa_cons (pe_callF (ok_L_take T) (hr.mono (by decide)) rfl (pa_cons (pv 0) (pa_cons (pe_op op_addAny (pe_ix (ix_B (hu65 hr)) (pe_ix (ix_B (hu65 hr)) (pv 1) (pe_int) (fun _ _ => rfl)) (pe_int) (fun _ _ => rfl)) (pe_int)) (pa_nil)))) (pa_nil)))))),
    fn_ok (es_seq (es_asg ((eo_lc (vs := [3]) (ei_rng (ee_call (fn := fn_L_take) (eac_io (eac_e (ee_op rb_add (ar_e (ee_op rb_ixB (ar_e (ee_op rb_ixB (ar_v) (ar_e (ee_int)))) (ar_e (ee_int)))) (ar_e (ee_int))) (eac_nil))))) (egv_nm) (et_yes) (ee_op rb_ixB (ar_e (ee_op rb_ixB (ar_v) (ar_e (ee_int)))) (ar_e (ee_call (fn := fn_L_take) (eac_io (eac_e (ee_call1 ru_lenB (ar_e (ee_op rb_ixB (ar_v) (ar_e (ee_int))))) (eac_nil))))))).ee) eg_nm) (es_ret (ee_tup (ees_cons (ee_call1 ru_tuple (ar_v)) (ees_cons (ee_call (fn := fn_L_take) (eac_io (eac_e (ee_op rb_add (ar_e (ee_op rb_ixB (ar_e (ee_op rb_ixB (ar_v) (ar_e (ee_int)))) (ar_e (ee_int)))) (ar_e (ee_int))) (eac_nil)))) (ees_nil)))))) rfl h⟩
theorem ok_L_row {P : Program} {w : World} {K : PySem.W.Frag} {mg : Str → Option Value} {base : Heap} (T : Top ⟨P, w, K⟩ mg) : FnT P w K mg base 3 "_law_row" ["deck", "setup", "beats"] [] (spD ⟨P, w, K⟩ [true, false, false] fn_L_row) := by
  refine T.d_L_row.ok sc_L_row (fun vs H Q E h => sp_len h) (fun f cdv A outer s H vs Q E hr h => ?_)
  exact ⟨_, pss_one (ps_ret (pe_lc (own := [("k", 3)]) rfl sc_L_row.nd (pi_range1 rfl T.z_range (pa_cons (pv 2) pa_nil)) (blkOk_by (N := N_L_row) (sc := defScope s_L_row) (by decide +kernel)) (fun _ _ _ _ _ => pg_name (i := 3) sc_L_row.nd rfl (.inl rfl)) (fun _ _ _ _ _ => pts_nil) (fun _ _ _ _ _ => pe_callF (ok_L_comers T) (hr.mono (by decide)) rfl (pa_cons (pv 0) (pa_cons (pv 1) (pa_nil)))))),
    fn_ok (es_ret ((eo_lc (vs := [3]) (ei_rng (ee_var)) (egv_nm) (et_yes) (ee_call (fn := fn_L_comers) (eac_io (eac_e (ee_var) (eac_nil))))).ee)) rfl h⟩
theorem ok_L_fits {P : Program} {w : World} {K : PySem.W.Frag} {mg : Str → Option Value} {base : Heap} (T : Top ⟨P, w, K⟩ mg) : FnT P w K mg base 1 "_law_fits" ["row", "mood", "front", "left", "singles"] [] (spD ⟨P, w, K⟩ [false, false, false, false, false] fn_L_fits) := by
  refine T.d_L_fits.ok sc_L_fits (fun vs H Q E h => sp_len h) (fun f cdv A outer s H vs Q E hr h => ?_)
  exact ⟨_, pss_cons (ps_if (PW.pt (pw_or (pt_cmpR (op_neD hr.units) (pe_ix (ix_B (hu65 hr)) (pv 0) (pe_int) (fun _ _ => rfl)) (pv 1) (nomark _)) (pw_or1 (pt_not (pt_chain op_le op_le (pe_ix (ix_B (hu65 hr)) (pe_ix (ix_B (hu65 hr)) (pv 0) (pe_int) (fun _ _ => rfl)) (pe_int) (fun _ _ => rfl)) (pv 2) (pe_ix (ix_B (hu65 hr)) (pe_ix (ix_B (hu65 hr)) (pv 0) (pe_int) (fun _ _ => rfl)) (pe_int) (fun _ _ => rfl))))))) (pss_one (ps_ret (pe_bl))) (pss_nil)) (pss_cons (ps_if (PW.pt (pw_or (pt_not (pt_chain op_le op_le (pe_ix (ix_B (hu65 hr)) (pe_ix (ix_B (hu65 hr)) (pv 0) (pe_int) (fun _ _ => rfl)) (pe_int) (fun _ _ => rfl)) (pv 3) (pe_ix (ix_B (hu65 hr)) (pe_ix (ix_B (hu65 hr)) (pv 0) (pe_int) (fun _ _ => rfl)) (pe_int) (fun _ _ => rfl)))) (pw_or1 (pt_not (pt_chain op_le op_le (pe_ix (ix_B (hu65 hr)) (pe_ix (ix_B (hu65 hr)) (pv 0) (pe_int) (fun _ _ => rfl)) (pe_int) (fun _ _ => rfl)) (pv 4) (pe_ix (ix_B (hu65 hr)) (pe_ix (ix_B (hu65 hr)) (pv 0) (pe_int) (fun _ _ => rfl)) (pe_int) (fun _ _ => rfl))))))) (pss_one (ps_ret (pe_bl))) (pss_nil)) (pss_cons (ps_if (pt_cmpR (op_eqD hr.units) (pe_ix (ix_B (hu65 hr)) (pv 0) (pe_int) (fun _ _ => rfl)) (pe_str) (nomark _)) (pss_one (ps_ret (pe_chain op_lt op_le (pe_int) (pv 2) (pv 3)))) (pss_nil)) (pss_cons (ps_if (pt_cmpR (op_eqD hr.units) (pe_ix (ix_B (hu65 hr)) (pv 0) (pe_int) (fun _ _ => rfl)) (pe_str) (nomark _)) (pss_one (ps_ret (pe_and (pe_cmpR op_gt (pv 4) (pe_int) (nomark _)) (pe_one (pe_cmpR op_gt (pv 3) (pe_int) (nomark _)))))) (pss_nil)) (pss_one (ps_ret (pe_or (pe_cmpR (op_eqD hr.units) (pe_ix (ix_B (hu65 hr)) (pv 0) (pe_int) (fun _ _ => rfl)) (pe_str) (nomark _)) (pe_one (pe_chain op_gt op_gt (pv 2) (pv 3) (pe_int))))))))),
    fn_ok (es_seq (es_if (et_or (et_test (ee_op rb_ne (ar_e (ee_op rb_ixB (ar_v) (ar_e (ee_int)))) (ar_v))) (et_not (et_test (ee_chain (ee_op rb_ixB (ar_e (ee_op rb_ixB (ar_v) (ar_e (ee_int)))) (ar_e (ee_int))) (ee_var) (ee_op rb_ixB (ar_e (ee_op rb_ixB (ar_v) (ar_e (ee_int)))) (ar_e (ee_int))))))) (es_ret (ee_bl)) (es_next)) (es_seq (es_if (et_or (et_not (et_test (ee_chain (ee_op rb_ixB (ar_e (ee_op rb_ixB (ar_v) (ar_e (ee_int)))) (ar_e (ee_int))) (ee_var) (ee_op rb_ixB (ar_e (ee_op rb_ixB (ar_v) (ar_e (ee_int)))) (ar_e (ee_int)))))) (et_not (et_test (ee_chain (ee_op rb_ixB (ar_e (ee_op rb_ixB (ar_v) (ar_e (ee_int)))) (ar_e (ee_int))) (ee_var) (ee_op rb_ixB (ar_e (ee_op rb_ixB (ar_v) (ar_e (ee_int)))) (ar_e (ee_int))))))) (es_ret (ee_bl)) (es_next)) (es_seq (es_if (et_test (ee_op rb_eq (ar_e (ee_op rb_ixB (ar_v) (ar_e (ee_int)))) (ar_e (ee_str)))) (es_ret (ee_chain (ee_int) (ee_var) (ee_var))) (es_next)) (es_seq (es_if (et_test (ee_op rb_eq (ar_e (ee_op rb_ixB (ar_v) (ar_e (ee_int)))) (ar_e (ee_str)))) (es_ret (ee_and (ee_op rb_gt (ar_v) (ar_e (ee_int))) (ee_op rb_gt (ar_v) (ar_e (ee_int))))) (es_next)) (es_ret (ee_or (ee_op rb_eq (ar_e (ee_op rb_ixB (ar_v) (ar_e (ee_int)))) (ar_e (ee_str))) (ee_chain (ee_var) (ee_var) (ee_int)))))))) rfl h⟩
theorem ok_L_filled {P : Program} {w : World} {K : PySem.W.Frag} {mg : Str → Option Value} {base : Heap} (T : Top ⟨P, w, K⟩ mg) : FnT P w K mg base 2 "_law_filled" ["rule", "line", "singles", "left", "mood"] [] (spD ⟨P, w, K⟩ [false, false, false, false, false] fn_L_filled) := by
  refine T.d_L_filled.ok sc_L_filled (fun vs H Q E h => sp_len h) (fun f cdv A outer s H vs Q E hr h => ?_)
  exact ⟨_, pss_cons (ps_set (i := 5) sc_L_filled.nd rfl (.inl rfl) (pe_lst (pa_nil))) (pss_cons (ps_for PassesOwn.never rfl (pi_range1 rfl T.z_range (pa_cons (pe_int) pa_nil)) (pg_name (i := 6) sc_L_filled.nd rfl (.inl rfl)) (pss_cons (ps_set (i := 7) sc_L_filled.nd rfl (.inr rfl) (pe_ix (ix_B (hu65 hr)) (pe_op op_addAny (pv 1) (pe_lst (pa_cons (pe_int) (pa_nil)))) (pe_int) (fun _ _ => rfl))) (pss_cons (ps_setLc (i := 8) (own := [("row", 9)]) rfl sc_L_filled.nd rfl rfl (sw_true rfl rfl rfl (by decide +kernel)) (pi_seqE (pv 0)) (blkOk_by (N := N_L_filled) (sc := defScope s_L_filled) (by decide +kernel)) (fun _ _ _ _ _ => pg_name (i := 9) sc_L_filled.nd rfl (.inl rfl)) (fun _ _ _ _ _ => pts_one (pt_val (pe_callF (ok_L_fits T) (hr.mono (by decide)) rfl (pa_cons (pv 9) (pa_cons (pv 4) (pa_cons (pv 7) (pa_cons (pv 3) (pa_cons (pv 2) (pa_nil))))))))) (fun _ _ _ _ _ => pv 9)) (pss_cons (ps_if (pt_cmpR (op_eqD hr.units) (pv 8) (pe_lst (pa_nil)) (nomark _)) (pss_one (ps_ret (pe_tup (pa_cons (pe_callTy call_tupleF rfl T.z_tuple boot_tuple (pa_cons (pv 5) pa_nil)) (pa_cons (pv 3) (pa_cons (pe_callTy call_tupleF rfl T.z_tuple boot_tuple (pa_cons (pv 1) pa_nil)) (pa_cons (pv 2) (pa_cons (pv 4) (pa_nil))))))))) (pss_nil)) (pss_cons (ps_set (i := 4) sc_L_filled.nd rfl (.inr rfl) (pe_ix (ix_B (hu65 hr)) (pe_ix (ix_B (hu65 hr)) (pv 8) (pe_int) (fun _ _ => rfl)) (pe_int) (fun _ _ => rfl))) (pss_cons (ps_if (pt_cmpR (op_eqD hr.units) (pe_ix (ix_B (hu65 hr)) (pe_ix (ix_B (hu65 hr)) (pv 8) (pe_int) (fun _ _ => rfl)) (pe_int) (fun _ _ => rfl)) (pe_str) (nomark _)) (pss_one (ps_ret (pe_tup (pa_cons (pe_callTy call_tupleF rfl T.z_tuple boot_tuple (pa_cons (pv 5) pa_nil)) (pa_cons (pv 3) (pa_cons (pe_callTy call_tupleF rfl T.z_tuple boot_tuple (pa_cons (pv 1) pa_nil)) (pa_cons (pv 2) (pa_cons (pv 4) (pa_nil))))))))) (pss_nil)) (pss_one (ps_if (pt_cmpR (op_eqD hr.units) (pe_ix (ix_B (hu65 hr)) (pe_ix (ix_B (hu65 hr)) (pv 8) (pe_int) (fun _ _ => rfl)) (pe_int) (fun _ _ => rfl)) (pe_str) (nomark _)) (pss_cons (ps_expr (pe_bm PySem.F.plainAttrs_list PySem.F.slot_list_append PySem.F.type_list_append mt_append (pv 5) (pa_cons (pe_tup (pa_cons (pe_str) (pa_cons (pv 7) (pa_nil)))) pa_nil))) (pss_cons (ps_set (i := 3) sc_L_filled.nd rfl (.inr rfl) (pe_op op_sub (pv 3) (pv 7))) (pss_one (ps_set (i := 1) sc_L_filled.nd rfl (.inl rfl) (pe_slice sl_any (pv 1) (po_some (pe_int)) (po_none)))))) (pss_one (ps_if (pt_cmpR (op_eqD hr.units) (pe_ix (ix_B (hu65 hr)) (pe_ix (ix_B (hu65 hr)) (pv 8) (pe_int) (fun _ _ => rfl)) (pe_int) (fun _ _ => rfl)) (pe_str) (nomark _)) (pss_cons (ps_expr (pe_bm PySem.F.plainAttrs_list PySem.F.slot_list_append PySem.F.type_list_append mt_append (pv 5) (pa_cons (pe_tup (pa_cons (pe_str) (pa_cons (pe_int) (pa_nil)))) pa_nil))) (pss_cons (ps_set (i := 3) sc_L_filled.nd rfl (.inr rfl) (pe_op op_sub (pv 3) (pe_int))) (pss_one (ps_set (i := 2) sc_L_filled.nd rfl (.inr rfl) (pe_op op_sub (pv 2) (pe_int)))))) (pss_cons (ps_expr (pe_bm PySem.F.plainAttrs_list PySem.F.slot_list_append PySem.F.type_list_append mt_append (pv 5) (pa_cons (pe_tup (pa_cons (pe_str) (pa_cons (pv 3) (pa_nil)))) pa_nil))) (pss_cons (ps_set (i := 1) sc_L_filled.nd rfl (.inl rfl) (pe_op op_addAny (pe_lst (pa_cons (pe_op op_sub (pv 7) (pv 3)) (pa_nil))) (pe_slice sl_any (pv 1) (po_some (pe_int)) (po_none)))) (pss_one (ps_set (i := 3) sc_L_filled.nd rfl (.inr rfl) (pe_int))))))))))))))) (pss_one (ps_ret (pe_tup (pa_cons (pe_callTy call_tupleF rfl T.z_tuple boot_tuple (pa_cons (pv 5) pa_nil)) (pa_cons (pv 3) (pa_cons (pe_callTy call_tupleF rfl T.z_tuple boot_tuple (pa_cons (pv 1) pa_nil)) (pa_cons (pv 2) (pa_cons (pv 4) (pa_nil)))))))))),
    fn_ok (es_seq (es_asgO (eo_lst (ees_nil))) (es_seq (es_for [6, 7, 8] (ei_rng (ee_int)) (eg_nm) (es_seq (es_asg (ee_op rb_ixB (ar_e (ee_op rb_add (ar_v) (ar_e ((eo_lst (ees_cons (ee_int) (ees_nil))).ee)))) (ar_e (ee_int))) eg_nm) (es_seq (es_asg ((eo_lc (vs := [9]) (ei_seqE (ee_var)) (egv_nm) (et_B (ee_call (fn := fn_L_fits) (eac_e (ee_var) (eac_e (ee_var) (eac_e (ee_var) (eac_e (ee_var) (eac_e (ee_var) (eac_nil)))))))) (ee_var)).ee) eg_nm) (es_seq (es_if (et_test (ee_op rb_eq (ar_v) (ar_e ((eo_lst (ees_nil)).ee)))) (es_ret (ee_tup (ees_cons (ee_call1 ru_tuple (ar_v)) (ees_cons (ee_var) (ees_cons (ee_call1 ru_tuple (ar_v)) (ees_cons (ee_var) (ees_cons (ee_var) (ees_nil)))))))) (es_next)) (es_seq (es_asg (ee_op rb_ixB (ar_e (ee_op rb_ixB (ar_v) (ar_e (ee_int)))) (ar_e (ee_int))) eg_nm) (es_seq (es_if (et_test (ee_op rb_eq (ar_e (ee_op rb_ixB (ar_e (ee_op rb_ixB (ar_v) (ar_e (ee_int)))) (ar_e (ee_int)))) (ar_e (ee_str)))) (es_ret (ee_tup (ees_cons (ee_call1 ru_tuple (ar_v)) (ees_cons (ee_var) (ees_cons (ee_call1 ru_tuple (ar_v)) (ees_cons (ee_var) (ees_cons (ee_var) (ees_nil)))))))) (es_next)) (es_if (et_test (ee_op rb_eq (ar_e (ee_op rb_ixB (ar_e (ee_op rb_ixB (ar_v) (ar_e (ee_int)))) (ar_e (ee_int)))) (ar_e (ee_str)))) (es_seq (es_drop (ee_app (ee_tup (ees_cons (ee_str) (ees_cons (ee_var) (ees_nil)))))) (es_seq (es_asg (ee_op rb_sub (ar_v) (ar_v)) eg_nm) (es_asg (ee_sl (ar_v) (eop_some (ee_int)) (eop_none)) eg_nm))) (es_if (et_test (ee_op rb_eq (ar_e (ee_op rb_ixB (ar_e (ee_op rb_ixB (ar_v) (ar_e (ee_int)))) (ar_e (ee_int)))) (ar_e (ee_str)))) (es_seq (es_drop (ee_app (ee_tup (ees_cons (ee_str) (ees_cons (ee_int) (ees_nil)))))) (es_seq (es_asg (ee_op rb_sub (ar_v) (ar_e (ee_int))) eg_nm) (es_asg (ee_op rb_sub (ar_v) (ar_e (ee_int))) eg_nm))) (es_seq (es_drop (ee_app (ee_tup (ees_cons (ee_str) (ees_cons (ee_var) (ees_nil)))))) (es_seq (es_asg (ee_op rb_add (ar_e ((eo_lst (ees_cons (ee_op rb_sub (ar_v) (ar_v)) (ees_nil))).ee)) (ar_e (ee_sl (ar_v) (eop_some (ee_int)) (eop_none)))) eg_nm) (es_asg (ee_int) eg_nm))))))))))) (es_ret (ee_tup (ees_cons (ee_call1 ru_tuple (ar_v)) (ees_cons (ee_var) (ees_cons (ee_call1 ru_tuple (ar_v)) (ees_cons (ee_var) (ees_cons (ee_var) (ees_nil)))))))))) rfl h⟩
theorem ok_L_beat {P : Program} {w : World} {K : PySem.W.Frag} {mg : Str → Option Value} {base : Heap} (T : Top ⟨P, w, K⟩ mg) : FnT P w K mg base 3 "_law_beat" ["setup", "rule", "state", "comers"] [] (spD ⟨P, w, K⟩ [false, false, false, false] fn_L_beat) := by
  refine T.d_L_beat.ok sc_L_beat (fun vs H Q E h => sp_len h) (fun f cdv A outer s H vs Q E hr h => ?_)
  exact ⟨_, pss_cons (ps_asg (pv 2) (pg_tup rfl (pgs_cons (pg_name (i := 4) sc_L_beat.nd rfl (.inl rfl)) (pgs_cons (pg_name (i := 5) sc_L_beat.nd rfl (.inl rfl)) (pgs_cons (pg_name (i := 6) sc_L_beat.nd rfl (.inl rfl)) (pgs_cons (pg_name (i := 7) sc_L_beat.nd rfl (.inl rfl)) (pgs_nil))))))) (pss_cons (ps_set (i := 5) sc_L_beat.nd rfl (.inl rfl) (pe_callTy (call_listB rfl) rfl T.z_list boot_list (pa_cons (pv 5) pa_nil))) (pss_cons (ps_set (i := 8) sc_L_beat.nd rfl (.inl rfl) (pe_lst (pa_cons (pe_int) (pa_cons (pe_int) (pa_nil))))) (pss_cons (ps_for PassesOwn.never rfl (pi_seqE (pe_ix (ix_B (hu65 hr)) (pv 3) (pe_int) (fun _ _ => rfl))) (pg_name (i := 9) sc_L_beat.nd rfl (.inl rfl)) (pss_one (ps_if (pt_cmpR op_lt (pe_callB call_lenB rfl T.z_len boot_len (pa_cons (pv 5) pa_nil)) (pe_ix (ix_B (hu65 hr)) (pe_ix (ix_B (hu65 hr)) (pv 0) (pe_int) (fun _ _ => rfl)) (pe_int) (fun _ _ => rfl)) (nomark _)) (pss_one (ps_expr (pe_bm PySem.F.plainAttrs_list PySem.F.slot_list_append PySem.F.type_list_append mt_append (pv 5) (pa_cons (pv 9) pa_nil)))) (pss_one (ps_augS (pv 8) (pe_int) (get_B (hu65 hr)) (pe_int) ip_add (set_B (hu65 hr))))))) (pss_cons (ps_for PassesOwn.never rfl (pi_range1 rfl T.z_range (pa_cons (pe_ix (ix_B (hu65 hr)) (pv 3) (pe_int) (fun _ _ => rfl)) pa_nil)) (pg_name (i := 10) sc_L_beat.nd rfl (.inl rfl)) (pss_one (ps_if (pt_cmpR op_lt (pv 6) (pe_ix (ix_B (hu65 hr)) (pe_ix (ix_B (hu65 hr)) (pv 0) (pe_int) (fun _ _ => rfl)) (pe_int) (fun _ _ => rfl)) (nomark _)) (pss_one (ps_set (i := 6) sc_L_beat.nd rfl (.inl rfl) (pe_op op_addAny (pv 6) (pe_int)))) (pss_one (ps_augS (pv 8) (pe_int) (get_B (hu65 hr)) (pe_int) ip_add (set_B (hu65 hr))))))) (pss_cons (ps_asg (pe_callF (ok_L_filled T) (hr.mono (by decide)) rfl (pa_cons (pv 1) (pa_cons (pv 5) (pa_cons (pv 6) (pa_cons (pe_ix (ix_B (hu65 hr)) (pe_ix (ix_B (hu65 hr)) (pv 0) (pe_int) (fun _ _ => rfl)) (pv 4) (fun _ _ => rfl)) (pa_cons (pv 7) (pa_nil))))))) (pg_tup rfl (pgs_cons (pg_name (i := 11) sc_L_beat.nd rfl (.inl rfl)) (pgs_cons (pg_name (i := 12) sc_L_beat.nd rfl (.inl rfl)) (pgs_cons (pg_name (i := 5) sc_L_beat.nd rfl (.inl rfl)) (pgs_cons (pg_name (i := 6) sc_L_beat.nd rfl (.inl rfl)) (pgs_cons (pg_name (i := 7) sc_L_beat.nd rfl (.inl rfl)) (pgs_nil)))))))) (pss_cons (ps_set (i := 13) sc_L_beat.nd rfl (.inl rfl) (pe_int)) (pss_cons (ps_if (PW.pt (pw_or (pt_cmpR (op_neD hr.units) (pv 5) (pe_tup (pa_nil)) (nomark _)) (pw_or1 (pt_cmpR op_gt (pv 6) (pe_int) (nomark _))))) (pss_one (ps_set (i := 13) sc_L_beat.nd rfl (.inl rfl) (pv 12))) (pss_nil)) (pss_one (ps_ret (pe_tup (pa_cons (pe_tup (pa_cons (pv 11) (pa_cons (pv 12) (pa_cons (pv 13) (pa_cons (pe_callTy call_tupleF rfl T.z_tuple boot_tuple (pa_cons (pv 8) pa_nil)) (pa_nil)))))) (pa_cons (pe_tup (pa_cons (pe_op op_mod (pe_op op_addAny (pv 4) (pe_int)) (pe_callB call_lenB rfl T.z_len boot_len (pa_cons (pe_ix (ix_B (hu65 hr)) (pv 0) (pe_int) (fun _ _ => rfl)) pa_nil))) (pa_cons (pv 5) (pa_cons (pv 6) (pa_cons (pv 7) (pa_nil)))))) (pa_nil))))))))))))),
    fn_ok (es_seq (es_asg (ee_var) (eg_tp (n := 4) (egs_cons (eg_nm) (egs_cons (eg_nm) (egs_cons (eg_nm) (egs_cons (eg_nm) (egs_nil))))))) (es_seq (es_asgO (eo_listB (ar_v))) (es_seq (es_asgO (eo_lst (ees_cons (ee_int) (ees_cons (ee_int) (ees_nil))))) (es_seq (es_for [9] (ei_seqE (ee_op rb_ixB (ar_v) (ar_e (ee_int)))) (eg_nm) (es_if (et_test (ee_op rb_lt (ar_e (ee_call1 ru_lenB (ar_v))) (ar_e (ee_op rb_ixB (ar_e (ee_op rb_ixB (ar_v) (ar_e (ee_int)))) (ar_e (ee_int)))))) (es_drop (ee_app (ee_var))) (es_augA (ee_int) (ee_int)))) (es_seq (es_for [10] (ei_rng (ee_op rb_ixB (ar_v) (ar_e (ee_int)))) (eg_nm) (es_if (et_test (ee_op rb_lt (ar_v) (ar_e (ee_op rb_ixB (ar_e (ee_op rb_ixB (ar_v) (ar_e (ee_int)))) (ar_e (ee_int)))))) (es_asg (ee_op rb_add (ar_v) (ar_e (ee_int))) eg_nm) (es_augA (ee_int) (ee_int)))) (es_seq (es_frz 5 (es_asg (ee_call (fn := fn_L_filled) (eac_e (ee_var) (eac_e (ee_var) (eac_e (ee_var) (eac_e (ee_op rb_ixB (ar_e (ee_op rb_ixB (ar_v) (ar_e (ee_int)))) (ar_v)) (eac_e (ee_var) (eac_nil))))))) (eg_tp (n := 5) (egs_cons (eg_nm) (egs_cons (eg_nm) (egs_cons (eg_nm) (egs_cons (eg_nm) (egs_cons (eg_nm) (egs_nil))))))))) (es_seq (es_asg (ee_int) eg_nm) (es_seq (es_if (et_or (et_test (ee_op rb_ne (ar_v) (ar_e (ee_tup (ees_nil))))) (et_test (ee_op rb_gt (ar_v) (ar_e (ee_int))))) (es_asg (ee_var) eg_nm) (es_next)) (es_frz 5 (es_ret (ee_tup (ees_cons (ee_tup (ees_cons (ee_var) (ees_cons (ee_var) (ees_cons (ee_var) (ees_cons (ee_call1 ru_tuple (ar_v)) (ees_nil)))))) (ees_cons (ee_tup (ees_cons (ee_op rb_mod (ar_e (ee_op rb_add (ar_v) (ar_e (ee_int)))) (ar_e (ee_call1 ru_lenB (ar_e (ee_op rb_ixB (ar_v) (ar_e (ee_int))))))) (ees_cons (ee_var) (ees_cons (ee_var) (ees_cons (ee_var) (ees_nil)))))) (ees_nil)))))))))))))) rfl h⟩
theorem ok_L_run {P : Program} {w : World} {K : PySem.W.Frag} {mg : Str → Option Value} {base : Heap} (T : Top ⟨P, w, K⟩ mg) : FnT P w K mg base 4 "_law_run" ["setup", "rule", "state", "row"] [] (spD ⟨P, w, K⟩ [false, false, false, false] fn_L_run) := by
  refine T.d_L_run.ok sc_L_run (fun vs H Q E h => sp_len h) (fun f cdv A outer s H vs Q E hr h => ?_)
  exact ⟨_, pss_cons (ps_set (i := 4) sc_L_run.nd rfl (.inl rfl) (pe_lst (pa_nil))) (pss_cons (ps_for PassesOwn.never rfl (pi_seqE (pv 3)) (pg_name (i := 5) sc_L_run.nd rfl (.inl rfl)) (pss_cons (ps_asg (pe_callF (ok_L_beat T) (hr.mono (by decide)) rfl (pa_cons (pv 0) (pa_cons (pv 1) (pa_cons (pv 2) (pa_cons (pv 5) (pa_nil)))))) (pg_tup rfl (pgs_cons (pg_name (i := 6) sc_L_run.nd rfl (.inl rfl)) (pgs_cons (pg_name (i := 2) sc_L_run.nd rfl (.inl rfl)) (pgs_nil))))) (pss_one (ps_expr (pe_bm PySem.F.plainAttrs_list PySem.F.slot_list_append PySem.F.type_list_append mt_append (pv 4) (pa_cons (pv 6) pa_nil)))))) (pss_one (ps_ret (pe_tup (pa_cons (pv 4) (pa_cons (pv 2) (pa_nil))))))),
    fn_ok (es_seq (es_asgO (eo_lst (ees_nil))) (es_seq (es_for [5, 6] (ei_seqE (ee_var)) (eg_nm) (es_seq (es_asg (ee_call (fn := fn_L_beat) (eac_e (ee_var) (eac_e (ee_var) (eac_e (ee_var) (eac_e (ee_var) (eac_nil)))))) (eg_tp (n := 2) (egs_cons (eg_nm) (egs_cons (eg_nm) (egs_nil))))) (es_drop (ee_app (ee_var))))) (es_frz 4 (es_ret (ee_tup (ees_cons (ee_var) (ees_cons (ee_var) (ees_nil)))))))) rfl h⟩
theorem ok_L_true_ring {P : Program} {w : World} {K : PySem.W.Frag} {mg : Str → Option Value} {base : Heap} (T : Top ⟨P, w, K⟩ mg) : FnT P w K mg base 5 "_law_true_ring" ["deck", "setup", "rule"] [] (spD ⟨P, w, K⟩ [true, false, false] fn_L_true_ring) := by
  refine T.d_L_true_ring.ok sc_L_true_ring (fun vs H Q E h => sp_len h) (fun f cdv A outer s H vs Q E hr h => ?_)
  exact ⟨_, pss_cons (ps_set (i := 3) sc_L_true_ring.nd rfl (.inl rfl) (pe_callF (ok_L_row T) (hr.mono (by decide)) rfl (pa_cons (pv 0) (pa_cons (pv 1) (pa_cons (pe_callF (ok_L_take T) (hr.mono (by decide)) rfl (pa_cons (pv 0) (pa_cons (pe_int) (pa_nil)))) (pa_nil)))))) (pss_cons (ps_set (i := 4) sc_L_true_ring.nd rfl (.inl rfl) (pe_callF (ok_L_row T) (hr.mono (by decide)) rfl (pa_cons (pv 0) (pa_cons (pv 1) (pa_cons (pe_op op_addAny (pe_int) (pe_callF (ok_L_take T) (hr.mono (by decide)) rfl (pa_cons (pv 0) (pa_cons (pe_int) (pa_nil))))) (pa_nil)))))) (pss_cons (ps_set (i := 5) sc_L_true_ring.nd rfl (.inl rfl) (pe_lst (pa_cons (pe_ix (ix_B (hu65 hr)) (pe_callF (ok_L_run T) (hr.mono (by decide)) rfl (pa_cons (pv 1) (pa_cons (pv 2) (pa_cons (pe_tup (pa_cons (pe_int) (pa_cons (pe_tup (pa_nil)) (pa_cons (pe_int) (pa_cons (pe_int) (pa_nil)))))) (pa_cons (pv 3) (pa_nil)))))) (pe_int) (fun _ _ => rfl)) (pa_nil)))) (pss_cons (ps_for PassesOwn.never rfl (pi_range1 rfl T.z_range (pa_cons (pe_int) pa_nil)) (pg_name (i := 6) sc_L_true_ring.nd rfl (.inl rfl)) (pss_cons (ps_set (i := 7) sc_L_true_ring.nd rfl (.inl rfl) (pe_ix (ix_B (hu65 hr)) (pe_callF (ok_L_run T) (hr.mono (by decide)) rfl (pa_cons (pv 1) (pa_cons (pv 2) (pa_cons (pe_ix (ix_B (hu65 hr)) (pv 5) (pe_un un_neg (pe_int)) (fun _ _ => rfl)) (pa_cons (pv 4) (pa_nil)))))) (pe_int) (fun _ _ => rfl))) (pss_cons (ps_for PassesOwn.never rfl (pi_range1 rfl T.z_range (pa_cons (pe_callB call_lenB rfl T.z_len boot_len (pa_cons (pv 5) pa_nil)) pa_nil)) (pg_name (i := 8) sc_L_true_ring.nd rfl (.inl rfl)) (pss_one (ps_if (pt_cmpR (op_eqD hr.units) (pe_ix (ix_B (hu65 hr)) (pv 5) (pv 8) (fun _ _ => rfl)) (pv 7) (nomark _)) (pss_one (ps_ret (pe_tup (pa_cons (pe_op op_addAny (pv 3) (pe_op op_mulA (pv 4) (pv 8))) (pa_cons (pe_op op_mulA (pv 4) (pe_op op_sub (pe_callB call_lenB rfl T.z_len boot_len (pa_cons (pv 5) pa_nil)) (pv 8))) (pa_nil)))))) (pss_nil)))) (pss_one (ps_expr (pe_bm PySem.F.plainAttrs_list PySem.F.slot_list_append PySem.F.type_list_append mt_append (pv 5) (pa_cons (pv 7) pa_nil))))))) (pss_one (ps_ret (pe_tup (pa_cons (pv 3) (pa_cons (pv 4) (pa_nil))))))))),
    fn_ok (es_seq (es_asg (ee_call (fn := fn_L_row) (eac_io (eac_e (ee_var) (eac_e (ee_call (fn := fn_L_take) (eac_io (eac_e (ee_int) (eac_nil)))) (eac_nil))))) eg_nm) (es_seq (es_asg (ee_call (fn := fn_L_row) (eac_io (eac_e (ee_var) (eac_e (ee_op rb_add (ar_e (ee_int)) (ar_e (ee_call (fn := fn_L_take) (eac_io (eac_e (ee_int) (eac_nil)))))) (eac_nil))))) eg_nm) (es_seq (es_asgO (eo_lst (ees_cons (ee_op rb_ixB (ar_e (ee_call (fn := fn_L_run) (eac_e (ee_var) (eac_e (ee_var) (eac_e (ee_tup (ees_cons (ee_int) (ees_cons (ee_tup (ees_nil)) (ees_cons (ee_int) (ees_cons (ee_int) (ees_nil)))))) (eac_e (ee_var) (eac_nil))))))) (ar_e (ee_int))) (ees_nil)))) (es_seq (es_for [6, 7, 8] (ei_rng (ee_int)) (eg_nm) (es_seq (es_asg (ee_op rb_ixB (ar_e (ee_call (fn := fn_L_run) (eac_e (ee_var) (eac_e (ee_var) (eac_e (ee_op rb_ixB (ar_v) (ar_e (ee_un ru_neg (ar_e (ee_int))))) (eac_e (ee_var) (eac_nil))))))) (ar_e (ee_int))) eg_nm) (es_seq (es_for [8] (ei_rng (ee_call1 ru_lenB (ar_v))) (eg_nm) (es_if (et_test (ee_op rb_eq (ar_e (ee_op rb_ixB (ar_v) (ar_v))) (ar_v))) (es_ret (ee_tup (ees_cons (ee_op rb_add (ar_v) (ar_e (ee_op rb_mulA (ar_v) (ar_v)))) (ees_cons (ee_op rb_mulA (ar_v) (ar_e (ee_op rb_sub (ar_e (ee_call1 ru_lenB (ar_v))) (ar_v)))) (ees_nil))))) (es_next))) (es_drop (ee_app (ee_var)))))) (es_ret (ee_tup (ees_cons (ee_var) (ees_cons (ee_var) (ees_nil))))))))) rfl h⟩
theorem ok_L_whole {P : Program} {w : World} {K : PySem.W.Frag} {mg : Str → Option Value} {base : Heap} (T : Top ⟨P, w, K⟩ mg) : FnT P w K mg base 1 "_law_whole" ["thing", "low", "high"] [] (spD ⟨P, w, K⟩ [false, false, false] fn_L_whole) := by
  refine T.d_L_whole.ok sc_L_whole (fun vs H Q E h => sp_len h) (fun f cdv A outer s H vs Q E hr h => ?_)
  exact ⟨_, pss_one (ps_ret (pe_and (pe_callB call_isi rfl T.z_isinstance boot_isinstance (pa_cons (pv 0) (pa_cons (pe_bltn rfl T.z_int boot_int (v := .ty "int") rfl) pa_nil))) (pe_and (pe_not (pe_callB call_isi rfl T.z_isinstance boot_isinstance (pa_cons (pv 0) (pa_cons (pe_bltn rfl T.z_bool boot_bool (v := .ty "bool") rfl) pa_nil)))) (pe_one (pe_chain op_le op_le (pv 1) (pv 0) (pv 2)))))),
    fn_ok (es_ret (ee_and (ee_isi (T := "int") (by decide) (ar_v)) (ee_and (ee_not (ee_isi (T := "bool") (by decide) (ar_v))) (ee_chain (ee_var) (ee_var) (ee_var))))) rfl h⟩
theorem ok_L_is_comers {P : Program} {w : World} {K : PySem.W.Frag} {mg : Str → Option Value} {base : Heap} (T : Top ⟨P, w, K⟩ mg) : FnT P w K mg base 2 "_law_is_comers" ["setup", "thing"] [] (spD ⟨P, w, K⟩ [false, false] fn_L_is_comers) := by
  refine T.d_L_is_comers.ok sc_L_is_comers (fun vs H Q E h => sp_len h) (fun f cdv A outer s H vs Q E hr h => ?_)
  exact ⟨_, pss_cons (ps_if (PW.pt (pw_or (pt_not (pt_val (pe_callB call_isi rfl T.z_isinstance boot_isinstance (pa_cons (pv 1) (pa_cons (pe_bltn rfl T.z_tuple boot_tuple (v := .ty "tuple") rfl) pa_nil))))) (pw_or (pt_cmpR (op_neD hr.units) (pe_callB call_lenB rfl T.z_len boot_len (pa_cons (pv 1) pa_nil)) (pe_int) (nomark _)) (pw_or1 (pt_not (pt_val (pe_callB call_isi rfl T.z_isinstance boot_isinstance (pa_cons (pe_ix (ix_B (hu65 hr)) (pv 1) (pe_int) (fun _ _ => rfl)) (pa_cons (pe_bltn rfl T.z_tuple boot_tuple (v := .ty "tuple") rfl) pa_nil))))))))) (pss_one (ps_ret (pe_bl))) (pss_nil)) (pss_cons (ps_if (PW.pt (pw_or (pt_cmpR op_gt (pe_callB call_lenB rfl T.z_len boot_len (pa_cons (pe_ix (ix_B (hu65 hr)) (pv 1) (pe_int) (fun _ _ => rfl)) pa_nil)) (pe_ix (ix_B (hu65 hr)) (pe_ix (ix_B (hu65 hr)) (pv 0) (pe_int) (fun _ _ => rfl)) (pe_int) (fun _ _ => rfl)) (nomark _)) (pw_or1 (pt_not (pt_val (pe_callF (ok_L_whole T) (hr.mono (by decide)) rfl (pa_cons (pe_ix (ix_B (hu65 hr)) (pv 1) (pe_int) (fun _ _ => rfl)) (pa_cons (pe_int) (pa_cons (pe_ix (ix_B (hu65 hr)) (pe_ix (ix_B (hu65 hr)) (pv 0) (pe_int) (fun _ _ => rfl)) (pe_int) (fun _ _ => rfl)) (pa_nil)))))))))) (pss_one (ps_ret (pe_bl))) (pss_nil)) (pss_one (ps_ret (pe_cmpR (op_eqNil (hu65 hr)) (pe_lc (own := [("size", 2)]) rfl sc_L_is_comers.nd (pi_seqE (pe_ix (ix_B (hu65 hr)) (pv 1) (pe_int) (fun _ _ => rfl))) (blkOk_by (N := N_L_is_comers) (sc := defScope s_L_is_comers) (by decide +kernel)) (fun _ _ _ _ _ => pg_name (i := 2) sc_L_is_comers.nd rfl (.inl rfl)) (fun _ _ _ _ _ => pts_one (PW.pt (pw_or (pt_not (pt_val (pe_callF (ok_L_whole T) (hr.mono (by decide)) rfl (pa_cons (pv 2) (pa_cons (pe_int) (pa_cons (pe_int) (pa_nil))))))) (pw_or1 (pt_cmpR (op_notInB (hu65 hr)) (pv 2) (pe_ix (ix_B (hu65 hr)) (pv 0) (pe_int) (fun _ _ => rfl)) rfl))))) (fun _ _ _ _ _ => pv 2)) (pe_lst (pa_nil)) (nomark _))))),
    fn_ok (es_seq (es_if (et_or (et_not (et_B (ee_isi (T := "tuple") (by decide) (ar_v)))) (et_or (et_test (ee_op rb_ne (ar_e (ee_call1 ru_lenB (ar_v))) (ar_e (ee_int)))) (et_not (et_B (ee_isi (T := "tuple") (by decide) (ar_e (ee_op rb_ixB (ar_v) (ar_e (ee_int))))))))) (es_ret (ee_bl)) (es_next)) (es_seq (es_if (et_or (et_test (ee_op rb_gt (ar_e (ee_call1 ru_lenB (ar_e (ee_op rb_ixB (ar_v) (ar_e (ee_int)))))) (ar_e (ee_op rb_ixB (ar_e (ee_op rb_ixB (ar_v) (ar_e (ee_int)))) (ar_e (ee_int)))))) (et_not (et_B (ee_call (fn := fn_L_whole) (eac_e (ee_op rb_ixB (ar_v) (ar_e (ee_int))) (eac_e (ee_int) (eac_e (ee_op rb_ixB (ar_e (ee_op rb_ixB (ar_v) (ar_e (ee_int)))) (ar_e (ee_int))) (eac_nil)))))))) (es_ret (ee_bl)) (es_next)) (es_ret (ee_op rb_nil (ar_e ((eo_lc (vs := [2]) (ei_seqE (ee_op rb_ixB (ar_v) (ar_e (ee_int)))) (egv_nm) (et_or (et_not (et_B (ee_call (fn := fn_L_whole) (eac_e (ee_var) (eac_e (ee_int) (eac_e (ee_int) (eac_nil))))))) (et_test (ee_op rb_inB (ar_v) (ar_e (ee_op rb_ixB (ar_v) (ar_e (ee_int))))))) (ee_var)).ee)) (ar_e ((eo_lst (ees_nil)).ee)))))) rfl h⟩
theorem ok_L_ring_right {P : Program} {w : World} {K : PySem.W.Frag} {mg : Str → Option Value} {base : Heap} (T : Top ⟨P, w, K⟩ mg) : FnT P w K mg base 5 "_law_ring_right" ["setup", "rule", "ring"] [] (spD ⟨P, w, K⟩ [false, false, false] fn_L_ring_right) := by
  refine T.d_L_ring_right.ok sc_L_ring_right (fun vs H Q E h => sp_len h) (fun f cdv A outer s H vs Q E hr h => ?_)
  exact ⟨_, pss_cons (ps_if (PW.pt (pw_or (pt_not (pt_val (pe_callB call_isi rfl T.z_isinstance boot_isinstance (pa_cons (pv 2) (pa_cons (pe_bltn rfl T.z_tuple boot_tuple (v := .ty "tuple") rfl) pa_nil))))) (pw_or1 (pt_cmpR (op_neD hr.units) (pe_callB call_lenB rfl T.z_len boot_len (pa_cons (pv 2) pa_nil)) (pe_int) (nomark _))))) (pss_one (ps_ret (pe_non))) (pss_nil)) (pss_cons (ps_asg (pv 2) (pg_tup rfl (pgs_cons (pg_name (i := 3) sc_L_ring_right.nd rfl (.inl rfl)) (pgs_cons (pg_name (i := 4) sc_L_ring_right.nd rfl (.inl rfl)) (pgs_nil))))) (pss_cons (ps_if (PW.pt (pw_or (pt_not (pt_val (pe_callB call_isi rfl T.z_isinstance boot_isinstance (pa_cons (pv 3) (pa_cons (pe_bltn rfl T.z_list boot_list (v := .ty "list") rfl) pa_nil))))) (pw_or (pt_not (pt_val (pe_callB call_isi rfl T.z_isinstance boot_isinstance (pa_cons (pv 4) (pa_cons (pe_bltn rfl T.z_list boot_list (v := .ty "list") rfl) pa_nil))))) (pw_or1 (pt_cmpR (op_eqNil (hu65 hr)) (pv 4) (pe_lst (pa_nil)) (nomark _)))))) (pss_one (ps_ret (pe_non))) (pss_nil)) (pss_cons (ps_if (pt_cmpR (op_neNil (hu65 hr)) (pe_lc (own := [("comers", 8)]) rfl sc_L_ring_right.nd (pi_seqE (pe_op op_addAny (pv 3) (pv 4))) (blkOk_by (N := N_L_ring_right) (sc := defScope s_L_ring_right) (by decide +kernel)) (fun _ _ _ _ _ => pg_name (i := 8) sc_L_ring_right.nd rfl (.inl rfl)) (fun _ _ _ _ _ => pts_one (pt_not (pt_val (pe_callF (ok_L_is_comers T) (hr.mono (by decide)) rfl (pa_cons (pv 0) (pa_cons (pv 8) (pa_nil))))))) (fun _ _ _ _ _ => pv 8)) (pe_lst (pa_nil)) (nomark _)) (pss_one (ps_ret (pe_non))) (pss_nil)) (pss_cons (ps_set (i := 5) sc_L_ring_right.nd rfl (.inl rfl) (pe_ix (ix_B (hu65 hr)) (pe_callF (ok_L_run T) (hr.mono (by decide)) rfl (pa_cons (pv 0) (pa_cons (pv 1) (pa_cons (pe_tup (pa_cons (pe_int) (pa_cons (pe_tup (pa_nil)) (pa_cons (pe_int) (pa_cons (pe_int) (pa_nil)))))) (pa_cons (pv 3) (pa_nil)))))) (pe_int) (fun _ _ => rfl))) (pss_cons (ps_asg (pe_callF (ok_L_run T) (hr.mono (by decide)) rfl (pa_cons (pv 0) (pa_cons (pv 1) (pa_cons (pv 5) (pa_cons (pv 4) (pa_nil)))))) (pg_tup rfl (pgs_cons (pg_name (i := 6) sc_L_ring_right.nd rfl (.inl rfl)) (pgs_cons (pg_name (i := 7) sc_L_ring_right.nd rfl (.inl rfl)) (pgs_nil))))) (pss_cons (ps_if (pt_cmpR (op_neD hr.units) (pv 7) (pv 5) (nomark _)) (pss_one (ps_ret (pe_non))) (pss_nil)) (pss_one (ps_ret (pe_tup (pa_cons (pe_callB (cr_sum rfl) rfl T.z_sum boot_sum (pa_cons (pe_lc (own := [("chair", 9)]) rfl sc_L_ring_right.nd (pi_seqE (pv 6)) (blkOk_by (N := N_L_ring_right) (sc := defScope s_L_ring_right) (by decide +kernel)) (fun _ _ _ _ _ => pg_name (i := 9) sc_L_ring_right.nd rfl (.inl rfl)) (fun _ _ _ _ _ => pts_nil) (fun _ _ _ _ _ => pe_ix (ix_B (hu65 hr)) (pv 9) (pe_int) (fun _ _ => rfl))) pa_nil)) (pa_cons (pe_callB call_lenB rfl T.z_len boot_len (pa_cons (pv 4) pa_nil)) (pa_nil)))))))))))),
    fn_ok (es_seq (es_if (et_or (et_not (et_B (ee_isi (T := "tuple") (by decide) (ar_v)))) (et_test (ee_op rb_ne (ar_e (ee_call1 ru_lenB (ar_v))) (ar_e (ee_int))))) (es_ret (ee_non)) (es_next)) (es_seq (es_asg (ee_var) (eg_tp (n := 2) (egs_cons (eg_nm) (egs_cons (eg_nm) (egs_nil))))) (es_seq (es_if (et_or (et_not (et_B (ee_isi (T := "list") (by decide) (ar_v)))) (et_or (et_not (et_B (ee_isi (T := "list") (by decide) (ar_v)))) (et_test (ee_op rb_nil (ar_v) (ar_e ((eo_lst (ees_nil)).ee)))))) (es_ret (ee_non)) (es_next)) (es_seq (es_if (et_test (ee_op rb_nil (ar_e ((eo_lc (vs := [8]) (ei_seqE (ee_op rb_add (ar_v) (ar_v))) (egv_nm) (et_not (et_B (ee_call (fn := fn_L_is_comers) (eac_e (ee_var) (eac_e (ee_var) (eac_nil)))))) (ee_var)).ee)) (ar_e ((eo_lst (ees_nil)).ee)))) (es_ret (ee_non)) (es_next)) (es_seq (es_asg (ee_op rb_ixB (ar_e (ee_call (fn := fn_L_run) (eac_e (ee_var) (eac_e (ee_var) (eac_e (ee_tup (ees_cons (ee_int) (ees_cons (ee_tup (ees_nil)) (ees_cons (ee_int) (ees_cons (ee_int) (ees_nil)))))) (eac_e (ee_var) (eac_nil))))))) (ar_e (ee_int))) eg_nm) (es_seq (es_asg (ee_call (fn := fn_L_run) (eac_e (ee_var) (eac_e (ee_var) (eac_e (ee_var) (eac_e (ee_var) (eac_nil)))))) (eg_tp (n := 2) (egs_cons (eg_nm) (egs_cons (eg_nm) (egs_nil))))) (es_seq (es_if (et_test (ee_op rb_ne (ar_v) (ar_v))) (es_ret (ee_non)) (es_next)) (es_ret (ee_tup (ees_cons (ee_call1 ru_sum (ar_e ((eo_lc (vs := [9]) (ei_seqE (ee_var)) (egv_nm) (et_yes) (ee_op rb_ixB (ar_v) (ar_e (ee_int)))).ee))) (ees_cons (ee_call1 ru_lenB (ar_v)) (ees_nil)))))))))))) rfl h⟩
theorem ok_L_odd {P : Program} {w : World} {K : PySem.W.Frag} {mg : Str → Option Value} {base : Heap} (T : Top ⟨P, w, K⟩ mg) : FnT P w K mg base 2 "_law_odd" ["deck"] [] (spD ⟨P, w, K⟩ [true] fn_L_odd) := by
  refine T.d_L_odd.ok sc_L_odd (fun vs H Q E h => sp_len h) (fun f cdv A outer s H vs Q E hr h => ?_)
  exact ⟨_, pss_cons (ps_set (i := 1) sc_L_odd.nd rfl (.inl rfl) (pe_lst (pa_cons (pe_non) (pa_cons (pe_bl) (pa_cons (pe_bl) (pa_cons (pe_str) (pa_cons (pe_str) (pa_cons (pe_tup (pa_nil)) (pa_cons (pe_lst (pa_nil)) (pa_cons (pe_dnewK) (pa_cons (pe_tup (pa_cons (pe_int) (pa_nil))) (pa_cons (pe_lst (pa_cons (pe_int) (pa_nil))) (pa_cons (pe_un un_neg (pe_int)) (pa_cons (pe_str) (pa_cons (pe_tup (pa_cons (pe_int) (pa_cons (pe_int) (pa_nil)))) (pa_cons (pe_lst (pa_cons (pe_tup (pa_cons (pe_int) (pa_cons (pe_int) (pa_nil)))) (pa_nil))) (pa_cons (pe_disp (pps_cons (pe_int) (pe_int) pps_nil) (by rfl) (by rfl) (fun z => by cases z) (by decide)) (pa_cons (pe_tup (pa_cons (pe_tup (pa_nil)) (pa_nil))) (pa_nil))))))))))))))))))) (pss_one (ps_ret (pe_ix (ix_B (hu65 hr)) (pv 1) (pe_callF (ok_L_take T) (hr.mono (by decide)) rfl (pa_cons (pv 0) (pa_cons (pe_callB call_lenB rfl T.z_len boot_len (pa_cons (pv 1) pa_nil)) (pa_nil)))) (fun _ _ => rfl)))),
    fn_ok (es_seq (es_asg ((eo_lst (ees_cons (ee_non) (ees_cons (ee_bl) (ees_cons (ee_bl) (ees_cons (ee_str) (ees_cons (ee_str) (ees_cons (ee_tup (ees_nil)) (ees_cons ((eo_lst (ees_nil)).ee) (ees_cons (ee_odd0) (ees_cons (ee_tup (ees_cons (ee_int) (ees_nil))) (ees_cons ((eo_lst (ees_cons (ee_int) (ees_nil))).ee) (ees_cons (ee_un ru_neg (ar_e (ee_int))) (ees_cons (ee_str) (ees_cons (ee_tup (ees_cons (ee_int) (ees_cons (ee_int) (ees_nil)))) (ees_cons ((eo_lst (ees_cons (ee_tup (ees_cons (ee_int) (ees_cons (ee_int) (ees_nil)))) (ees_nil))).ee) (ees_cons (ee_odd1) (ees_cons (ee_tup (ees_cons (ee_tup (ees_nil)) (ees_nil))) (ees_nil)))))))))))))))))).ee) eg_nm) (es_ret (ee_op rb_ixB (ar_v) (ar_e (ee_call (fn := fn_L_take) (eac_io (eac_e (ee_call1 ru_lenB (ar_v)) (eac_nil)))))))) rfl h⟩
theorem ok_L_bad_comers {P : Program} {w : World} {K : PySem.W.Frag} {mg : Str → Option Value} {base : Heap} (T : Top ⟨P, w, K⟩ mg) : FnT P w K mg base 3 "_law_bad_comers" ["deck", "setup"] [] (spD ⟨P, w, K⟩ [true, false] fn_L_bad_comers) := by
  refine T.d_L_bad_comers.ok sc_L_bad_comers (fun vs H Q E h => sp_len h) (fun f cdv A outer s H vs Q E hr h => ?_)
  exact ⟨_, pss_cons (ps_asg (pe_callF (ok_L_comers T) (hr.mono (by decide)) rfl (pa_cons (pv 0) (pa_cons (pv 1) (pa_nil)))) (pg_tup rfl (pgs_cons (pg_name (i := 2) sc_L_bad_comers.nd rfl (.inl rfl)) (pgs_cons (pg_name (i := 3) sc_L_bad_comers.nd rfl (.inl rfl)) (pgs_nil))))) (pss_cons (ps_set (i := 4) sc_L_bad_comers.nd rfl (.inl rfl) (pe_callF (ok_L_take T) (hr.mono (by decide)) rfl (pa_cons (pv 0) (pa_cons (pe_int) (pa_nil))))) (pss_cons (ps_if (pt_cmpR (op_eqD hr.units) (pv 4) (pe_int) (nomark _)) (pss_one (ps_ret (pe_ix (ix_B (hu65 hr)) (pe_lst (pa_cons (pe_tup (pa_cons (pe_callTy (call_listB rfl) rfl T.z_list boot_list (pa_cons (pv 2) pa_nil)) (pa_cons (pv 3) (pa_nil)))) (pa_cons (pe_lst (pa_cons (pv 2) (pa_cons (pv 3) (pa_nil)))) (pa_cons (pe_tup (pa_cons (pv 2) (pa_nil))) (pa_cons (pe_tup (pa_cons (pv 2) (pa_cons (pv 3) (pa_cons (pe_int) (pa_nil))))) (pa_nil)))))) (pe_callF (ok_L_take T) (hr.mono (by decide)) rfl (pa_cons (pv 0) (pa_cons (pe_int) (pa_nil)))) (fun _ _ => rfl)))) (pss_nil)) (pss_cons (ps_if (pt_cmpR (op_eqD hr.units) (pv 4) (pe_int) (nomark _)) (pss_one (ps_ret (pe_tup (pa_cons (pv 2) (pa_cons (pe_ix (ix_B (hu65 hr)) (pe_lst (pa_cons (pe_un un_neg (pe_int)) (pa_cons (pe_bl) (pa_cons (pe_non) (pa_cons (pe_str) (pa_cons (pe_op op_addAny (pe_ix (ix_B (hu65 hr)) (pe_ix (ix_B (hu65 hr)) (pv 1) (pe_int) (fun _ _ => rfl)) (pe_int) (fun _ _ => rfl)) (pe_int)) (pa_cons (pe_tup (pa_cons (pe_int) (pa_nil))) (pa_nil)))))))) (pe_callF (ok_L_take T) (hr.mono (by decide)) rfl (pa_cons (pv 0) (pa_cons (pe_int) (pa_nil)))) (fun _ _ => rfl)) (pa_nil)))))) (pss_nil)) (pss_cons (ps_if (pt_cmpR (op_eqD hr.units) (pv 4) (pe_int) (nomark _)) (pss_one (ps_ret (pe_tup (pa_cons (pe_op op_addAny (pv 2) (pe_op op_mulA (pe_tup (pa_cons (pe_ix (ix_B (hu65 hr)) (pe_ix (ix_B (hu65 hr)) (pv 1) (pe_int) (fun _ _ => rfl)) (pe_int) (fun _ _ => rfl)) (pa_nil))) (pe_op op_sub (pe_op op_addAny (pe_int) (pe_ix (ix_B (hu65 hr)) (pe_ix (ix_B (hu65 hr)) (pv 1) (pe_int) (fun _ _ => rfl)) (pe_int) (fun _ _ => rfl))) (pe_callB call_lenB rfl T.z_len boot_len (pa_cons (pv 2) pa_nil))))) (pa_cons (pv 3) (pa_nil)))))) (pss_nil)) (pss_cons (ps_if (pt_cmpR (op_eqD hr.units) (pv 4) (pe_int) (nomark _)) (pss_one (ps_ret (pe_callF (ok_L_odd T) (hr.mono (by decide)) rfl (pa_cons (pv 0) (pa_nil))))) (pss_nil)) (pss_cons (ps_if (pt_cmpR (op_eqD hr.units) (pv 4) (pe_int) (nomark _)) (pss_one (ps_ret (pe_tup (pa_cons (pv 3) (pa_cons (pv 2) (pa_nil)))))) (pss_nil)) (pss_cons (ps_set (i := 5) sc_L_bad_comers.nd rfl (.inl rfl) (pe_callF (ok_L_take T) (hr.mono (by decide)) rfl (pa_cons (pv 0) (pa_cons (pe_op op_addAny (pe_callB call_lenB rfl T.z_len boot_len (pa_cons (pv 2) pa_nil)) (pe_int)) (pa_nil))))) (pss_cons (ps_set (i := 6) sc_L_bad_comers.nd rfl (.inl rfl) (pe_ix (ix_B (hu65 hr)) (pe_lst (pa_cons (pe_callF (ok_L_take T) (hr.mono (by decide)) rfl (pa_cons (pv 0) (pa_cons (pe_int) (pa_nil)))) (pa_cons (pe_bl) (pa_cons (pe_str) (pa_cons (pe_non) (pa_cons (pe_ix (ix_B (hu65 hr)) (pe_ix (ix_B (hu65 hr)) (pv 1) (pe_int) (fun _ _ => rfl)) (pe_int) (fun _ _ => rfl)) (pa_nil))))))) (pe_callF (ok_L_take T) (hr.mono (by decide)) rfl (pa_cons (pv 0) (pa_cons (pe_int) (pa_nil)))) (fun _ _ => rfl))) (pss_one (ps_ret (pe_tup (pa_cons (pe_op op_addAny (pe_op op_addAny (pe_slice sl_any (pv 2) (po_none) (po_some (pv 5))) (pe_tup (pa_cons (pv 6) (pa_nil)))) (pe_slice sl_any (pv 2) (po_some (pe_op op_addAny (pv 5) (pe_int))) (po_none))) (pa_cons (pv 3) (pa_nil)))))))))))))),
    fn_ok (es_seq (es_asg (ee_call (fn := fn_L_comers) (eac_io (eac_e (ee_var) (eac_nil)))) (eg_tp (n := 2) (egs_cons (eg_nm) (egs_cons (eg_nm) (egs_nil))))) (es_seq (es_asg (ee_call (fn := fn_L_take) (eac_io (eac_e (ee_int) (eac_nil)))) eg_nm) (es_seq (es_if (et_test (ee_op rb_eq (ar_v) (ar_e (ee_int)))) (es_ret (ee_op rb_ixB (ar_e ((eo_lst (ees_cons (ee_tup (ees_cons ((eo_listB (ar_v)).ee) (ees_cons (ee_var) (ees_nil)))) (ees_cons ((eo_lst (ees_cons (ee_var) (ees_cons (ee_var) (ees_nil)))).ee) (ees_cons (ee_tup (ees_cons (ee_var) (ees_nil))) (ees_cons (ee_tup (ees_cons (ee_var) (ees_cons (ee_var) (ees_cons (ee_int) (ees_nil))))) (ees_nil)))))).ee)) (ar_e (ee_call (fn := fn_L_take) (eac_io (eac_e (ee_int) (eac_nil))))))) (es_next)) (es_seq (es_if (et_test (ee_op rb_eq (ar_v) (ar_e (ee_int)))) (es_ret (ee_tup (ees_cons (ee_var) (ees_cons (ee_op rb_ixB (ar_e ((eo_lst (ees_cons (ee_un ru_neg (ar_e (ee_int))) (ees_cons (ee_bl) (ees_cons (ee_non) (ees_cons (ee_str) (ees_cons (ee_op rb_add (ar_e (ee_op rb_ixB (ar_e (ee_op rb_ixB (ar_v) (ar_e (ee_int)))) (ar_e (ee_int)))) (ar_e (ee_int))) (ees_cons (ee_tup (ees_cons (ee_int) (ees_nil))) (ees_nil)))))))).ee)) (ar_e (ee_call (fn := fn_L_take) (eac_io (eac_e (ee_int) (eac_nil)))))) (ees_nil))))) (es_next)) (es_seq (es_if (et_test (ee_op rb_eq (ar_v) (ar_e (ee_int)))) (es_ret (ee_tup (ees_cons (ee_op rb_add (ar_v) (ar_e (ee_op rb_mulA (ar_e (ee_tup (ees_cons (ee_op rb_ixB (ar_e (ee_op rb_ixB (ar_v) (ar_e (ee_int)))) (ar_e (ee_int))) (ees_nil)))) (ar_e (ee_op rb_sub (ar_e (ee_op rb_add (ar_e (ee_int)) (ar_e (ee_op rb_ixB (ar_e (ee_op rb_ixB (ar_v) (ar_e (ee_int)))) (ar_e (ee_int)))))) (ar_e (ee_call1 ru_lenB (ar_v)))))))) (ees_cons (ee_var) (ees_nil))))) (es_next)) (es_seq (es_if (et_test (ee_op rb_eq (ar_v) (ar_e (ee_int)))) (es_ret (ee_call (fn := fn_L_odd) (eac_io (eac_nil)))) (es_next)) (es_seq (es_if (et_test (ee_op rb_eq (ar_v) (ar_e (ee_int)))) (es_ret (ee_tup (ees_cons (ee_var) (ees_cons (ee_var) (ees_nil))))) (es_next)) (es_seq (es_asg (ee_call (fn := fn_L_take) (eac_io (eac_e (ee_op rb_add (ar_e (ee_call1 ru_lenB (ar_v))) (ar_e (ee_int))) (eac_nil)))) eg_nm) (es_seq (es_asg (ee_op rb_ixB (ar_e ((eo_lst (ees_cons (ee_call (fn := fn_L_take) (eac_io (eac_e (ee_int) (eac_nil)))) (ees_cons (ee_bl) (ees_cons (ee_str) (ees_cons (ee_non) (ees_cons (ee_op rb_ixB (ar_e (ee_op rb_ixB (ar_v) (ar_e (ee_int)))) (ar_e (ee_int))) (ees_nil))))))).ee)) (ar_e (ee_call (fn := fn_L_take) (eac_io (eac_e (ee_int) (eac_nil)))))) eg_nm) (es_ret (ee_tup (ees_cons (ee_op rb_add (ar_e (ee_op rb_add (ar_e (ee_sl (ar_v) (eop_none) (eop_some (ee_var)))) (ar_e (ee_tup (ees_cons (ee_var) (ees_nil)))))) (ar_e (ee_sl (ar_v) (eop_some (ee_op rb_add (ar_v) (ar_e (ee_int)))) (eop_none)))) (ees_cons (ee_var) (ees_nil)))))))))))))) rfl h⟩
theorem ok_L_spoiled_ring {P : Program} {w : World} {K : PySem.W.Frag} {mg : Str → Option Value} {base : Heap} (T : Top ⟨P, w, K⟩ mg) : FnT P w K mg base 4 "_law_spoiled_ring" ["deck", "setup", "ring"] [] (spD ⟨P, w, K⟩ [true, false, false] fn_L_spoiled_ring) := by
  refine T.d_L_spoiled_ring.ok sc_L_spoiled_ring (fun vs H Q E h => sp_len h) (fun f cdv A outer s H vs Q E hr h => ?_)
  exact ⟨_, pss_cons (ps_asg (pv 2) (pg_tup rfl (pgs_cons (pg_name (i := 3) sc_L_spoiled_ring.nd rfl (.inl rfl)) (pgs_cons (pg_name (i := 4) sc_L_spoiled_ring.nd rfl (.inl rfl)) (pgs_nil))))) (pss_cons (ps_set (i := 5) sc_L_spoiled_ring.nd rfl (.inl rfl) (pe_callF (ok_L_take T) (hr.mono (by decide)) rfl (pa_cons (pv 0) (pa_cons (pe_int) (pa_nil))))) (pss_cons (ps_set (i := 6) sc_L_spoiled_ring.nd rfl (.inl rfl) (pe_callF (ok_L_take T) (hr.mono (by decide)) rfl (pa_cons (pv 0) (pa_cons (pe_op op_addAny (pe_callB call_lenB rfl T.z_len boot_len (pa_cons (pv 4) pa_nil)) (pe_int)) (pa_nil))))) (pss_cons (ps_if (pt_cmpR (op_eqD hr.units) (pv 5) (pe_int) (nomark _)) (pss_cons (ps_set (i := 7) sc_L_spoiled_ring.nd rfl (.inl rfl) (pe_lst (pa_cons (pe_callTy (call_listB rfl) rfl T.z_list boot_list (pa_cons (pv 2) pa_nil)) (pa_cons (pe_tup (pa_cons (pv 3) (pa_nil))) (pa_cons (pe_tup (pa_cons (pv 4) (pa_cons (pv 3) (pa_nil)))) (pa_cons (pe_tup (pa_cons (pv 3) (pa_cons (pv 4) (pa_cons (pv 4) (pa_nil))))) (pa_nil))))))) (pss_one (ps_ret (pe_ix (ix_B (hu65 hr)) (pe_op op_addAny (pv 7) (pe_lst (pa_cons (pe_callF (ok_L_odd T) (hr.mono (by decide)) rfl (pa_cons (pv 0) (pa_nil))) (pa_nil)))) (pe_callF (ok_L_take T) (hr.mono (by decide)) rfl (pa_cons (pv 0) (pa_cons (pe_int) (pa_nil)))) (fun _ _ => rfl))))) (pss_nil)) (pss_cons (ps_if (pt_cmpR (op_eqD hr.units) (pv 5) (pe_int) (nomark _)) (pss_cons (ps_set (i := 7) sc_L_spoiled_ring.nd rfl (.inl rfl) (pe_lst (pa_cons (pe_tup (pa_cons (pv 3) (pa_cons (pe_lst (pa_nil)) (pa_nil)))) (pa_cons (pe_tup (pa_cons (pe_callTy call_tupleF rfl T.z_tuple boot_tuple (pa_cons (pv 3) pa_nil)) (pa_cons (pv 4) (pa_nil)))) (pa_cons (pe_tup (pa_cons (pe_non) (pa_cons (pv 4) (pa_nil)))) (pa_nil)))))) (pss_one (ps_ret (pe_ix (ix_B (hu65 hr)) (pe_op op_addAny (pv 7) (pe_lst (pa_cons (pe_tup (pa_cons (pv 3) (pa_cons (pe_callTy call_tupleF rfl T.z_tuple boot_tuple (pa_cons (pv 4) pa_nil)) (pa_nil)))) (pa_nil)))) (pe_callF (ok_L_take T) (hr.mono (by decide)) rfl (pa_cons (pv 0) (pa_cons (pe_int) (pa_nil)))) (fun _ _ => rfl))))) (pss_nil)) (pss_cons (ps_if (pt_cmpR (op_eqD hr.units) (pv 5) (pe_int) (nomark _)) (pss_one (ps_ret (pe_tup (pa_cons (pv 3) (pa_cons (pe_op op_addAny (pe_slice sl_any (pv 4) (po_none) (po_some (pv 6))) (pe_slice sl_any (pv 4) (po_some (pe_op op_addAny (pv 6) (pe_int))) (po_none))) (pa_nil)))))) (pss_nil)) (pss_cons (ps_if (pt_cmpR (op_eqD hr.units) (pv 5) (pe_int) (nomark _)) (pss_one (ps_ret (pe_tup (pa_cons (pv 3) (pa_cons (pe_op op_addAny (pe_op op_addAny (pe_slice sl_any (pv 4) (po_none) (po_some (pv 6))) (pe_lst (pa_cons (pe_callF (ok_L_comers T) (hr.mono (by decide)) rfl (pa_cons (pv 0) (pa_cons (pv 1) (pa_nil)))) (pa_nil)))) (pe_slice sl_any (pv 4) (po_some (pv 6)) (po_none))) (pa_nil)))))) (pss_nil)) (pss_cons (ps_if (pt_cmpR (op_eqD hr.units) (pv 5) (pe_int) (nomark _)) (pss_one (ps_ret (pe_tup (pa_cons (pv 3) (pa_cons (pe_op op_addAny (pe_op op_addAny (pe_slice sl_any (pv 4) (po_none) (po_some (pv 6))) (pe_lst (pa_cons (pe_callF (ok_L_bad_comers T) (hr.mono (by decide)) rfl (pa_cons (pv 0) (pa_cons (pv 1) (pa_nil)))) (pa_nil)))) (pe_slice sl_any (pv 4) (po_some (pe_op op_addAny (pv 6) (pe_int))) (po_none))) (pa_nil)))))) (pss_nil)) (pss_cons (ps_if (pt_cmpR (op_eqD hr.units) (pv 5) (pe_int) (nomark _)) (pss_one (ps_ret (pe_tup (pa_cons (pe_op op_addAny (pv 3) (pe_lst (pa_cons (pe_callF (ok_L_comers T) (hr.mono (by decide)) rfl (pa_cons (pv 0) (pa_cons (pv 1) (pa_nil)))) (pa_nil)))) (pa_cons (pv 4) (pa_nil)))))) (pss_nil)) (pss_cons (ps_if (pt_cmpR (op_eqD hr.units) (pv 5) (pe_int) (nomark _)) (pss_one (ps_ret (pe_tup (pa_cons (pe_op op_addAny (pv 3) (pe_lst (pa_cons (pe_callF (ok_L_bad_comers T) (hr.mono (by decide)) rfl (pa_cons (pv 0) (pa_cons (pv 1) (pa_nil)))) (pa_nil)))) (pa_cons (pv 4) (pa_nil)))))) (pss_nil)) (pss_one (ps_ret (pe_tup (pa_cons (pv 3) (pa_cons (pe_op op_addAny (pv 4) (pv 4)) (pa_nil))))))))))))))),
    fn_ok (es_seq (es_asg (ee_var) (eg_tp (n := 2) (egs_cons (eg_nm) (egs_cons (eg_nm) (egs_nil))))) (es_seq (es_asg (ee_call (fn := fn_L_take) (eac_io (eac_e (ee_int) (eac_nil)))) eg_nm) (es_seq (es_asg (ee_call (fn := fn_L_take) (eac_io (eac_e (ee_op rb_add (ar_e (ee_call1 ru_lenB (ar_v))) (ar_e (ee_int))) (eac_nil)))) eg_nm) (es_seq (es_if (et_test (ee_op rb_eq (ar_v) (ar_e (ee_int)))) (es_seq (es_asg ((eo_lst (ees_cons ((eo_listB (ar_v)).ee) (ees_cons (ee_tup (ees_cons (ee_var) (ees_nil))) (ees_cons (ee_tup (ees_cons (ee_var) (ees_cons (ee_var) (ees_nil)))) (ees_cons (ee_tup (ees_cons (ee_var) (ees_cons (ee_var) (ees_cons (ee_var) (ees_nil))))) (ees_nil)))))).ee) eg_nm) (es_ret (ee_op rb_ixB (ar_e (ee_op rb_add (ar_v) (ar_e ((eo_lst (ees_cons (ee_call (fn := fn_L_odd) (eac_io (eac_nil))) (ees_nil))).ee)))) (ar_e (ee_call (fn := fn_L_take) (eac_io (eac_e (ee_int) (eac_nil)))))))) (es_next)) (es_seq (es_if (et_test (ee_op rb_eq (ar_v) (ar_e (ee_int)))) (es_seq (es_asg ((eo_lst (ees_cons (ee_tup (ees_cons (ee_var) (ees_cons ((eo_lst (ees_nil)).ee) (ees_nil)))) (ees_cons (ee_tup (ees_cons (ee_call1 ru_tuple (ar_v)) (ees_cons (ee_var) (ees_nil)))) (ees_cons (ee_tup (ees_cons (ee_non) (ees_cons (ee_var) (ees_nil)))) (ees_nil))))).ee) eg_nm) (es_ret (ee_op rb_ixB (ar_e (ee_op rb_add (ar_v) (ar_e ((eo_lst (ees_cons (ee_tup (ees_cons (ee_var) (ees_cons (ee_call1 ru_tuple (ar_v)) (ees_nil)))) (ees_nil))).ee)))) (ar_e (ee_call (fn := fn_L_take) (eac_io (eac_e (ee_int) (eac_nil)))))))) (es_next)) (es_seq (es_if (et_test (ee_op rb_eq (ar_v) (ar_e (ee_int)))) (es_ret (ee_tup (ees_cons (ee_var) (ees_cons (ee_op rb_add (ar_e (ee_sl (ar_v) (eop_none) (eop_some (ee_var)))) (ar_e (ee_sl (ar_v) (eop_some (ee_op rb_add (ar_v) (ar_e (ee_int)))) (eop_none)))) (ees_nil))))) (es_next)) (es_seq (es_if (et_test (ee_op rb_eq (ar_v) (ar_e (ee_int)))) (es_ret (ee_tup (ees_cons (ee_var) (ees_cons (ee_op rb_add (ar_e (ee_op rb_add (ar_e (ee_sl (ar_v) (eop_none) (eop_some (ee_var)))) (ar_e ((eo_lst (ees_cons (ee_call (fn := fn_L_comers) (eac_io (eac_e (ee_var) (eac_nil)))) (ees_nil))).ee)))) (ar_e (ee_sl (ar_v) (eop_some (ee_var)) (eop_none)))) (ees_nil))))) (es_next)) (es_seq (es_if (et_test (ee_op rb_eq (ar_v) (ar_e (ee_int)))) (es_ret (ee_tup (ees_cons (ee_var) (ees_cons (ee_op rb_add (ar_e (ee_op rb_add (ar_e (ee_sl (ar_v) (eop_none) (eop_some (ee_var)))) (ar_e ((eo_lst (ees_cons (ee_call (fn := fn_L_bad_comers) (eac_io (eac_e (ee_var) (eac_nil)))) (ees_nil))).ee)))) (ar_e (ee_sl (ar_v) (eop_some (ee_op rb_add (ar_v) (ar_e (ee_int)))) (eop_none)))) (ees_nil))))) (es_next)) (es_seq (es_if (et_test (ee_op rb_eq (ar_v) (ar_e (ee_int)))) (es_ret (ee_tup (ees_cons (ee_op rb_add (ar_v) (ar_e ((eo_lst (ees_cons (ee_call (fn := fn_L_comers) (eac_io (eac_e (ee_var) (eac_nil)))) (ees_nil))).ee))) (ees_cons (ee_var) (ees_nil))))) (es_next)) (es_seq (es_if (et_test (ee_op rb_eq (ar_v) (ar_e (ee_int)))) (es_ret (ee_tup (ees_cons (ee_op rb_add (ar_v) (ar_e ((eo_lst (ees_cons (ee_call (fn := fn_L_bad_comers) (eac_io (eac_e (ee_var) (eac_nil)))) (ees_nil))).ee))) (ees_cons (ee_var) (ees_nil))))) (es_next)) (es_ret (ee_tup (ees_cons (ee_var) (ees_cons (ee_op rb_add (ar_v) (ar_v)) (ees_nil))))))))))))))) rfl h⟩
theorem ok_is_integer {P : Program} {w : World} {K : PySem.W.Frag} {mg : Str → Option Value} {base : Heap} (T : Top ⟨P, w, K⟩ mg) : FnT P w K mg base 1 "is_integer" ["thing"] [] (spD ⟨P, w, K⟩ [false] fn_is_integer) := by
  refine T.d_is_integer.ok sc_is_integer (fun vs H Q E h => sp_len h) (fun f cdv A outer s H vs Q E hr h => ?_)
  exact ⟨_, pss_one (ps_ret (pe_and (pe_callB call_isi rfl T.z_isinstance boot_isinstance (pa_cons (pv 0) (pa_cons (pe_bltn rfl T.z_int boot_int (v := .ty "int") rfl) pa_nil))) (pe_one (pe_not (pe_callB call_isi rfl T.z_isinstance boot_isinstance (pa_cons (pv 0) (pa_cons (pe_bltn rfl T.z_bool boot_bool (v := .ty "bool") rfl) pa_nil))))))),
    fn_ok (es_ret (ee_and (ee_isi (T := "int") (by decide) (ar_v)) (ee_not (ee_isi (T := "bool") (by decide) (ar_v))))) rfl h⟩
theorem ok_is_number {P : Program} {w : World} {K : PySem.W.Frag} {mg : Str → Option Value} {base : Heap} (T : Top ⟨P, w, K⟩ mg) : FnT P w K mg base 2 "is_number" ["thing", "low", "high"] [] (spD ⟨P, w, K⟩ [false, false, false] fn_is_number) := by
  refine T.d_is_number.ok sc_is_number (fun vs H Q E h => sp_len h) (fun f cdv A outer s H vs Q E hr h => ?_)
  exact ⟨_, pss_one (ps_ret (pe_and (pe_callF (ok_is_integer T) (hr.mono (by decide)) rfl (pa_cons (pv 0) (pa_nil))) (pe_one (pe_chain op_le op_le (pv 1) (pv 0) (pv 2))))),
    fn_ok (es_ret (ee_and (ee_call (fn := fn_is_integer) (eac_e (ee_var) (eac_nil))) (ee_chain (ee_var) (ee_var) (ee_var)))) rfl h⟩
theorem ok_are_numbers {P : Program} {w : World} {K : PySem.W.Frag} {mg : Str → Option Value} {base : Heap} (T : Top ⟨P, w, K⟩ mg) : FnT P w K mg base 3 "are_numbers" ["thing", "least", "most", "low", "high"] [] (spD ⟨P, w, K⟩ [false, false, false, false, false] fn_are_numbers) := by
  refine T.d_are_numbers.ok sc_are_numbers (fun vs H Q E h => sp_len h) (fun f cdv A outer s H vs Q E hr h => ?_)
  exact ⟨_, pss_cons (ps_if (PW.pt (pw_or (pt_not (pt_val (pe_callB call_isi rfl T.z_isinstance boot_isinstance (pa_cons (pv 0) (pa_cons (pe_bltn rfl T.z_tuple boot_tuple (v := .ty "tuple") rfl) pa_nil))))) (pw_or1 (pt_not (pt_chain op_le op_le (pv 1) (pe_callB call_lenB rfl T.z_len boot_len (pa_cons (pv 0) pa_nil)) (pv 2)))))) (pss_one (ps_ret (pe_bl))) (pss_nil)) (pss_one (ps_ret (pe_callB (cr_all rfl) rfl T.z_all boot_all (pa_cons (pe_lc (own := [("number", 5)]) rfl sc_are_numbers.nd (pi_seqE (pv 0)) (blkOk_by (N := N_are_numbers) (sc := defScope s_are_numbers) (by decide +kernel)) (fun _ _ _ _ _ => pg_name (i := 5) sc_are_numbers.nd rfl (.inl rfl)) (fun _ _ _ _ _ => pts_nil) (fun _ _ _ _ _ => pe_callF (ok_is_number T) (hr.mono (by decide)) rfl (pa_cons (pv 5) (pa_cons (pv 3) (pa_cons (pv 4) (pa_nil)))))) pa_nil)))),
    fn_ok (es_seq (es_if (et_or (et_not (et_B (ee_isi (T := "tuple") (by decide) (ar_v)))) (et_not (et_test (ee_chain (ee_var) (ee_call1 ru_lenB (ar_v)) (ee_var))))) (es_ret (ee_bl)) (es_next)) (es_ret (ee_call1 ru_all (ar_e ((eo_lc (vs := [5]) (ei_seqE (ee_var)) (egv_nm) (et_yes) (ee_call (fn := fn_is_number) (eac_e (ee_var) (eac_e (ee_var) (eac_e (ee_var) (eac_nil)))))).ee))))) rfl h⟩
theorem ok_are_most {P : Program} {w : World} {K : PySem.W.Frag} {mg : Str → Option Value} {base : Heap} (T : Top ⟨P, w, K⟩ mg) : FnT P w K mg base 4 "are_most" ["thing", "groups_low", "groups_high", "singles_high"] [] (spD ⟨P, w, K⟩ [false, false, false, false] fn_are_most) := by
  refine T.d_are_most.ok sc_are_most (fun vs H Q E h => sp_len h) (fun f cdv A outer s H vs Q E hr h => ?_)
  exact ⟨_, pss_cons (ps_if (pt_not (pt_val (pe_callF (ok_are_numbers T) (hr.mono (by decide)) rfl (pa_cons (pv 0) (pa_cons (pe_int) (pa_cons (pe_int) (pa_cons (pe_int) (pa_cons (pe_int) (pa_nil))))))))) (pss_one (ps_ret (pe_bl))) (pss_nil)) (pss_one (ps_ret (pe_and (pe_chain op_le op_le (pv 1) (pe_ix (ix_B (hu65 hr)) (pv 0) (pe_int) (fun _ _ => rfl)) (pv 2)) (pe_one (pe_cmpR op_le (pe_ix (ix_B (hu65 hr)) (pv 0) (pe_int) (fun _ _ => rfl)) (pv 3) (nomark _)))))),
    fn_ok (es_seq (es_if (et_not (et_B (ee_call (fn := fn_are_numbers) (eac_e (ee_var) (eac_e (ee_int) (eac_e (ee_int) (eac_e (ee_int) (eac_e (ee_int) (eac_nil))))))))) (es_ret (ee_bl)) (es_next)) (es_ret (ee_and (ee_chain (ee_var) (ee_op rb_ixB (ar_v) (ar_e (ee_int))) (ee_var)) (ee_op rb_le (ar_e (ee_op rb_ixB (ar_v) (ar_e (ee_int)))) (ar_v))))) rfl h⟩
theorem ok_is_setup {P : Program} {w : World} {K : PySem.W.Frag} {mg : Str → Option Value} {base : Heap} (T : Top ⟨P, w, K⟩ mg) : FnT P w K mg base 5 "is_setup" ["thing"] [] (spD ⟨P, w, K⟩ [false] fn_is_setup) := by
  refine T.d_is_setup.ok sc_is_setup (fun vs H Q E h => sp_len h) (fun f cdv A outer s H vs Q E hr h => ?_)
  exact ⟨_, pss_cons (ps_if (PW.pt (pw_or (pt_not (pt_val (pe_callB call_isi rfl T.z_isinstance boot_isinstance (pa_cons (pv 0) (pa_cons (pe_bltn rfl T.z_tuple boot_tuple (v := .ty "tuple") rfl) pa_nil))))) (pw_or1 (pt_cmpR (op_neD hr.units) (pe_callB call_lenB rfl T.z_len boot_len (pa_cons (pv 0) pa_nil)) (pe_int) (nomark _))))) (pss_one (ps_ret (pe_bl))) (pss_nil)) (pss_cons (ps_asg (pv 0) (pg_tup rfl (pgs_cons (pg_name (i := 1) sc_is_setup.nd rfl (.inl rfl)) (pgs_cons (pg_name (i := 2) sc_is_setup.nd rfl (.inl rfl)) (pgs_cons (pg_name (i := 3) sc_is_setup.nd rfl (.inl rfl)) (pgs_cons (pg_name (i := 4) sc_is_setup.nd rfl (.inl rfl)) (pgs_nil))))))) (pss_cons (ps_if (PW.pt (pw_or (pt_not (pt_val (pe_callF (ok_are_numbers T) (hr.mono (by decide)) rfl (pa_cons (pv 1) (pa_cons (pe_int) (pa_cons (pe_int) (pa_cons (pe_int) (pa_cons (pe_int) (pa_nil))))))))) (pw_or1 (pt_not (pt_val (pe_callF (ok_are_numbers T) (hr.mono (by decide)) rfl (pa_cons (pv 2) (pa_cons (pe_int) (pa_cons (pe_int) (pa_cons (pe_int) (pa_cons (pe_int) (pa_nil)))))))))))) (pss_one (ps_ret (pe_bl))) (pss_nil)) (pss_cons (ps_if (pt_not (pt_val (pe_callB (cr_all rfl) rfl T.z_all boot_all (pa_cons (pe_lc (own := [("one", 5), ("other", 6)]) rfl sc_is_setup.nd (RZ.pi_zipA rfl T.z_zip (pa_cons (pv 2) (pa_cons (pe_slice sl_any (pv 2) (po_some (pe_int)) (po_none)) pa_nil))) (blkOk_by (N := N_is_setup) (sc := defScope s_is_setup) (by decide +kernel)) (fun _ _ _ _ _ => pg_tup rfl (pgs_cons (pg_name (i := 5) sc_is_setup.nd rfl (.inl rfl)) (pgs_cons (pg_name (i := 6) sc_is_setup.nd rfl (.inl rfl)) (pgs_nil)))) (fun _ _ _ _ _ => pts_nil) (fun _ _ _ _ _ => pe_cmpR op_lt (pv 5) (pv 6) (nomark _))) pa_nil)))) (pss_one (ps_ret (pe_bl))) (pss_nil)) (pss_one (ps_ret (pe_and (pe_callF (ok_are_most T) (hr.mono (by decide)) rfl (pa_cons (pv 3) (pa_cons (pe_int) (pa_cons (pe_int) (pa_cons (pe_int) (pa_nil)))))) (pe_one (pe_callF (ok_are_most T) (hr.mono (by decide)) rfl (pa_cons (pv 4) (pa_cons (pe_int) (pa_cons (pe_int) (pa_cons (pe_int) (pa_nil))))))))))))),
    fn_ok (es_seq (es_if (et_or (et_not (et_B (ee_isi (T := "tuple") (by decide) (ar_v)))) (et_test (ee_op rb_ne (ar_e (ee_call1 ru_lenB (ar_v))) (ar_e (ee_int))))) (es_ret (ee_bl)) (es_next)) (es_seq (es_asg (ee_var) (eg_tp (n := 4) (egs_cons (eg_nm) (egs_cons (eg_nm) (egs_cons (eg_nm) (egs_cons (eg_nm) (egs_nil))))))) (es_seq (es_if (et_or (et_not (et_B (ee_call (fn := fn_are_numbers) (eac_e (ee_var) (eac_e (ee_int) (eac_e (ee_int) (eac_e (ee_int) (eac_e (ee_int) (eac_nil))))))))) (et_not (et_B (ee_call (fn := fn_are_numbers) (eac_e (ee_var) (eac_e (ee_int) (eac_e (ee_int) (eac_e (ee_int) (eac_e (ee_int) (eac_nil)))))))))) (es_ret (ee_bl)) (es_next)) (es_seq (es_if (et_not (et_B (ee_call1 ru_all (ar_e ((eo_lc (vs := [5, 6]) (ei_zip (ee_var) (ee_sl (ar_v) (eop_some (ee_int)) (eop_none))) (egv_tp (n := 2) (egvs_cons (egv_nm) (egvs_cons (egv_nm) (egvs_nil)))) (et_yes) (ee_op rb_lt (ar_v) (ar_v))).ee))))) (es_ret (ee_bl)) (es_next)) (es_ret (ee_and (ee_call (fn := fn_are_most) (eac_e (ee_var) (eac_e (ee_int) (eac_e (ee_int) (eac_e (ee_int) (eac_nil)))))) (ee_call (fn := fn_are_most) (eac_e (ee_var) (eac_e (ee_int) (eac_e (ee_int) (eac_e (ee_int) (eac_nil)))))))))))) rfl h⟩
theorem ok_check_setup {P : Program} {w : World} {K : PySem.W.Frag} {mg : Str → Option Value} {base : Heap} (T : Top ⟨P, w, K⟩ mg) : FnT P w K mg base 6 "check_setup" ["setup"] [] (spD ⟨P, w, K⟩ [false] fn_check_setup) := by
  refine T.d_check_setup.ok sc_check_setup (fun vs H Q E h => sp_len h) (fun f cdv A outer s H vs Q E hr h => ?_)
  exact ⟨_, pss_one (ps_if (pt_not (pt_val (pe_callF (ok_is_setup T) (hr.mono (by decide)) rfl (pa_cons (pv 0) (pa_nil))))) (pss_one (ps_never)) (pss_nil)),
    fn_ok (es_if (et_not (et_B (ee_call (fn := fn_is_setup) (eac_e (ee_var) (eac_nil))))) (es_never) (es_next)) rfl h⟩
theorem ok_is_range {P : Program} {w : World} {K : PySem.W.Frag} {mg : Str → Option Value} {base : Heap} (T : Top ⟨P, w, K⟩ mg) : FnT P w K mg base 4 "is_range" ["thing"] [] (spD ⟨P, w, K⟩ [false] fn_is_range) := by
  refine T.d_is_range.ok sc_is_range (fun vs H Q E h => sp_len h) (fun f cdv A outer s H vs Q E hr h => ?_)
  exact ⟨_, pss_one (ps_ret (pe_and (pe_callF (ok_are_numbers T) (hr.mono (by decide)) rfl (pa_cons (pv 0) (pa_cons (pe_int) (pa_cons (pe_int) (pa_cons (pe_int) (pa_cons (pe_int) (pa_nil))))))) (pe_one (pe_cmpR op_le (pe_ix (ix_B (hu65 hr)) (pv 0) (pe_int) (fun _ _ => rfl)) (pe_ix (ix_B (hu65 hr)) (pv 0) (pe_int) (fun _ _ => rfl)) (nomark _))))),
    fn_ok (es_ret (ee_and (ee_call (fn := fn_are_numbers) (eac_e (ee_var) (eac_e (ee_int) (eac_e (ee_int) (eac_e (ee_int) (eac_e (ee_int) (eac_nil))))))) (ee_op rb_le (ar_e (ee_op rb_ixB (ar_v) (ar_e (ee_int)))) (ar_e (ee_op rb_ixB (ar_v) (ar_e (ee_int))))))) rfl h⟩
theorem ok_is_rule_row {P : Program} {w : World} {K : PySem.W.Frag} {mg : Str → Option Value} {base : Heap} (T : Top ⟨P, w, K⟩ mg) : FnT P w K mg base 5 "is_rule_row" ["thing"] [] (spD ⟨P, w, K⟩ [false] fn_is_rule_row) := by
  refine T.d_is_rule_row.ok sc_is_rule_row (fun vs H Q E h => sp_len h) (fun f cdv A outer s H vs Q E hr h => ?_)
  obtain ⟨vDEEDS, uDEEDS, gDEEDS, rDEEDS, eDEEDS⟩ := T.c_DEEDS
  exact ⟨_, pss_cons (ps_if (PW.pt (pw_or (pt_not (pt_val (pe_callB call_isi rfl T.z_isinstance boot_isinstance (pa_cons (pv 0) (pa_cons (pe_bltn rfl T.z_tuple boot_tuple (v := .ty "tuple") rfl) pa_nil))))) (pw_or1 (pt_cmpR (op_neD hr.units) (pe_callB call_lenB rfl T.z_len boot_len (pa_cons (pv 0) pa_nil)) (pe_int) (nomark _))))) (pss_one (ps_ret (pe_bl))) (pss_nil)) (pss_cons (ps_asg (pv 0) (pg_tup rfl (pgs_cons (pg_name (i := 1) sc_is_rule_row.nd rfl (.inl rfl)) (pgs_cons (pg_name (i := 2) sc_is_rule_row.nd rfl (.inl rfl)) (pgs_cons (pg_name (i := 3) sc_is_rule_row.nd rfl (.inl rfl)) (pgs_cons (pg_name (i := 4) sc_is_rule_row.nd rfl (.inl rfl)) (pgs_cons (pg_name (i := 5) sc_is_rule_row.nd rfl (.inl rfl)) (pgs_cons (pg_name (i := 6) sc_is_rule_row.nd rfl (.inl rfl)) (pgs_nil))))))))) (pss_cons (ps_if (PW.pt (pw_or (pt_not (pt_val (pe_callF (ok_is_number T) (hr.mono (by decide)) rfl (pa_cons (pv 1) (pa_cons (pe_int) (pa_cons (pe_int) (pa_nil))))))) (pw_or1 (pt_not (pt_val (pe_callF (ok_is_number T) (hr.mono (by decide)) rfl (pa_cons (pv 6) (pa_cons (pe_int) (pa_cons (pe_int) (pa_nil)))))))))) (pss_one (ps_ret (pe_bl))) (pss_nil)) (pss_cons (ps_if (PW.pt (pw_or (pt_not (pt_val (pe_callF (ok_is_range T) (hr.mono (by decide)) rfl (pa_cons (pv 2) (pa_nil))))) (pw_or (pt_not (pt_val (pe_callF (ok_is_range T) (hr.mono (by decide)) rfl (pa_cons (pv 3) (pa_nil))))) (pw_or1 (pt_not (pt_val (pe_callF (ok_is_range T) (hr.mono (by decide)) rfl (pa_cons (pv 4) (pa_nil))))))))) (pss_one (ps_ret (pe_bl))) (pss_nil)) (pss_one (ps_ret (pe_and (pe_callB call_isi rfl T.z_isinstance boot_isinstance (pa_cons (pv 5) (pa_cons (pe_bltn rfl T.z_str boot_str (v := .ty "str") rfl) pa_nil))) (pe_one (pe_cmpR (op_inB (hu65 hr)) (pv 5) (pe_glob rfl gDEEDS rDEEDS) rfl)))))))),
    fn_ok (es_seq (es_if (et_or (et_not (et_B (ee_isi (T := "tuple") (by decide) (ar_v)))) (et_test (ee_op rb_ne (ar_e (ee_call1 ru_lenB (ar_v))) (ar_e (ee_int))))) (es_ret (ee_bl)) (es_next)) (es_seq (es_asg (ee_var) (eg_tp (n := 6) (egs_cons (eg_nm) (egs_cons (eg_nm) (egs_cons (eg_nm) (egs_cons (eg_nm) (egs_cons (eg_nm) (egs_cons (eg_nm) (egs_nil))))))))) (es_seq (es_if (et_or (et_not (et_B (ee_call (fn := fn_is_number) (eac_e (ee_var) (eac_e (ee_int) (eac_e (ee_int) (eac_nil))))))) (et_not (et_B (ee_call (fn := fn_is_number) (eac_e (ee_var) (eac_e (ee_int) (eac_e (ee_int) (eac_nil)))))))) (es_ret (ee_bl)) (es_next)) (es_seq (es_if (et_or (et_not (et_B (ee_call (fn := fn_is_range) (eac_e (ee_var) (eac_nil))))) (et_or (et_not (et_B (ee_call (fn := fn_is_range) (eac_e (ee_var) (eac_nil))))) (et_not (et_B (ee_call (fn := fn_is_range) (eac_e (ee_var) (eac_nil))))))) (es_ret (ee_bl)) (es_next)) (es_ret (ee_and (ee_isi (T := "str") (by decide) (ar_v)) (ee_op rb_inB (ar_v) (ar_e (ee_c eDEEDS))))))))) rfl h⟩
theorem ok_is_rule {P : Program} {w : World} {K : PySem.W.Frag} {mg : Str → Option Value} {base : Heap} (T : Top ⟨P, w, K⟩ mg) : FnT P w K mg base 6 "is_rule" ["thing"] [] (spD ⟨P, w, K⟩ [false] fn_is_rule) := by
  refine T.d_is_rule.ok sc_is_rule (fun vs H Q E h => sp_len h) (fun f cdv A outer s H vs Q E hr h => ?_)
  obtain ⟨vMOST_ROWS, uMOST_ROWS, gMOST_ROWS, rMOST_ROWS, eMOST_ROWS⟩ := T.c_MOST_ROWS
  exact ⟨_, pss_cons (ps_if (PW.pt (pw_or (pt_not (pt_val (pe_callB call_isi rfl T.z_isinstance boot_isinstance (pa_cons (pv 0) (pa_cons (pe_bltn rfl T.z_tuple boot_tuple (v := .ty "tuple") rfl) pa_nil))))) (pw_or1 (pt_cmpR op_gt (pe_callB call_lenB rfl T.z_len boot_len (pa_cons (pv 0) pa_nil)) (pe_glob rfl gMOST_ROWS rMOST_ROWS) (nomark _))))) (pss_one (ps_ret (pe_bl))) (pss_nil)) (pss_one (ps_ret (pe_callB (cr_all rfl) rfl T.z_all boot_all (pa_cons (pe_lc (own := [("row", 1)]) rfl sc_is_rule.nd (pi_seqE (pv 0)) (blkOk_by (N := N_is_rule) (sc := defScope s_is_rule) (by decide +kernel)) (fun _ _ _ _ _ => pg_name (i := 1) sc_is_rule.nd rfl (.inl rfl)) (fun _ _ _ _ _ => pts_nil) (fun _ _ _ _ _ => pe_callF (ok_is_rule_row T) (hr.mono (by decide)) rfl (pa_cons (pv 1) (pa_nil)))) pa_nil)))),
    fn_ok (es_seq (es_if (et_or (et_not (et_B (ee_isi (T := "tuple") (by decide) (ar_v)))) (et_test (ee_op rb_gt (ar_e (ee_call1 ru_lenB (ar_v))) (ar_e (ee_c eMOST_ROWS))))) (es_ret (ee_bl)) (es_next)) (es_ret (ee_call1 ru_all (ar_e ((eo_lc (vs := [1]) (ei_seqE (ee_var)) (egv_nm) (et_yes) (ee_call (fn := fn_is_rule_row) (eac_e (ee_var) (eac_nil)))).ee))))) rfl h⟩
theorem ok_check_both {P : Program} {w : World} {K : PySem.W.Frag} {mg : Str → Option Value} {base : Heap} (T : Top ⟨P, w, K⟩ mg) : FnT P w K mg base 7 "check_both" ["setup", "rule"] [] (spD ⟨P, w, K⟩ [false, false] fn_check_both) := by
  refine T.d_check_both.ok sc_check_both (fun vs H Q E h => sp_len h) (fun f cdv A outer s H vs Q E hr h => ?_)
  exact ⟨_, pss_cons (ps_expr (pe_callF (ok_check_setup T) (hr.mono (by decide)) rfl (pa_cons (pv 0) (pa_nil)))) (pss_one (ps_if (pt_not (pt_val (pe_callF (ok_is_rule T) (hr.mono (by decide)) rfl (pa_cons (pv 1) (pa_nil))))) (pss_one (ps_never)) (pss_nil))),
    fn_ok (es_seq (es_drop (ee_call (fn := fn_check_setup) (eac_e (ee_var) (eac_nil)))) (es_if (et_not (et_B (ee_call (fn := fn_is_rule) (eac_e (ee_var) (eac_nil))))) (es_never) (es_next))) rfl h⟩
theorem ok_check_fraction {P : Program} {w : World} {K : PySem.W.Frag} {mg : Str → Option Value} {base : Heap} (T : Top ⟨P, w, K⟩ mg) : FnT P w K mg base 2 "check_fraction" ["above", "below"] [] (spD ⟨P, w, K⟩ [false, false] fn_check_fraction) := by
  refine T.d_check_fraction.ok sc_check_fraction (fun vs H Q E h => sp_len h) (fun f cdv A outer s H vs Q E hr h => ?_)
  exact ⟨_, pss_one (ps_if (PW.pt (pw_or (pt_not (pt_val (pe_callF (ok_is_integer T) (hr.mono (by decide)) rfl (pa_cons (pv 0) (pa_nil))))) (pw_or (pt_not (pt_val (pe_callF (ok_is_integer T) (hr.mono (by decide)) rfl (pa_cons (pv 1) (pa_nil))))) (pw_or (pt_cmpR op_lt (pv 0) (pe_int) (nomark _)) (pw_or1 (pt_cmpR op_lt (pv 1) (pe_int) (nomark _))))))) (pss_one (ps_never)) (pss_nil)),
    fn_ok (es_if (et_or (et_not (et_B (ee_call (fn := fn_is_integer) (eac_e (ee_var) (eac_nil))))) (et_or (et_not (et_B (ee_call (fn := fn_is_integer) (eac_e (ee_var) (eac_nil))))) (et_or (et_test (ee_op rb_lt (ar_v) (ar_e (ee_int)))) (et_test (ee_op rb_lt (ar_v) (ar_e (ee_int))))))) (es_never) (es_next)) rfl h⟩
theorem ok_let_in {P : Program} {w : World} {K : PySem.W.Frag} {mg : Str → Option Value} {base : Heap} (T : Top ⟨P, w, K⟩ mg) : FnT P w K mg base 1 "let_in" ["setup", "line", "singles", "comers"] [] (spD ⟨P, w, K⟩ [false, false, false, false] fn_let_in) := by
  refine T.d_let_in.ok sc_let_in (fun vs H Q E h => sp_len h) (fun f cdv A outer s H vs Q E hr h => ?_)
  exact ⟨_, pss_cons (ps_asg (pv 3) (pg_tup rfl (pgs_cons (pg_name (i := 4) sc_let_in.nd rfl (.inl rfl)) (pgs_cons (pg_name (i := 5) sc_let_in.nd rfl (.inl rfl)) (pgs_nil))))) (pss_cons (ps_set (i := 6) sc_let_in.nd rfl (.inl rfl) (pe_slice sl_any (pe_op op_addAny (pv 1) (pv 4)) (po_none) (po_some (pe_callB (call_max2F rfl) rfl T.z_max boot_max (pa_cons (pe_ix (ix_B (hu65 hr)) (pe_ix (ix_B (hu65 hr)) (pv 0) (pe_int) (fun _ _ => rfl)) (pe_int) (fun _ _ => rfl)) (pa_cons (pe_callB call_lenB rfl T.z_len boot_len (pa_cons (pv 1) pa_nil)) pa_nil)))))) (pss_cons (ps_set (i := 7) sc_let_in.nd rfl (.inl rfl) (pe_callB (call_min2F rfl) rfl T.z_min boot_min (pa_cons (pe_callB (call_max2F rfl) rfl T.z_max boot_max (pa_cons (pe_ix (ix_B (hu65 hr)) (pe_ix (ix_B (hu65 hr)) (pv 0) (pe_int) (fun _ _ => rfl)) (pe_int) (fun _ _ => rfl)) (pa_cons (pv 2) pa_nil))) (pa_cons (pe_op op_addAny (pv 2) (pv 5)) pa_nil)))) (pss_one (ps_ret (pe_tup (pa_cons (pv 6) (pa_cons (pv 7) (pa_cons (pe_tup (pa_cons (pe_op op_sub (pe_op op_addAny (pe_callB call_lenB rfl T.z_len boot_len (pa_cons (pv 1) pa_nil)) (pe_callB call_lenB rfl T.z_len boot_len (pa_cons (pv 4) pa_nil))) (pe_callB call_lenB rfl T.z_len boot_len (pa_cons (pv 6) pa_nil))) (pa_cons (pe_op op_sub (pe_op op_addAny (pv 2) (pv 5)) (pv 7)) (pa_nil)))) (pa_nil))))))))),
    fn_ok (es_seq (es_asg (ee_var) (eg_tp (n := 2) (egs_cons (eg_nm) (egs_cons (eg_nm) (egs_nil))))) (es_seq (es_asg (ee_sl (ar_e (ee_op rb_add (ar_v) (ar_v))) (eop_none) (eop_some (ee_call2 rb_max (ar_e (ee_op rb_ixB (ar_e (ee_op rb_ixB (ar_v) (ar_e (ee_int)))) (ar_e (ee_int)))) (ar_e (ee_call1 ru_lenB (ar_v)))))) eg_nm) (es_seq (es_asg (ee_call2 rb_min (ar_e (ee_call2 rb_max (ar_e (ee_op rb_ixB (ar_e (ee_op rb_ixB (ar_v) (ar_e (ee_int)))) (ar_e (ee_int)))) (ar_v))) (ar_e (ee_op rb_add (ar_v) (ar_v)))) eg_nm) (es_ret (ee_tup (ees_cons (ee_var) (ees_cons (ee_var) (ees_cons (ee_tup (ees_cons (ee_op rb_sub (ar_e (ee_op rb_add (ar_e (ee_call1 ru_lenB (ar_v))) (ar_e (ee_call1 ru_lenB (ar_v))))) (ar_e (ee_call1 ru_lenB (ar_v)))) (ees_cons (ee_op rb_sub (ar_e (ee_op rb_add (ar_v) (ar_v))) (ar_v)) (ees_nil)))) (ees_nil))))))))) rfl h⟩
theorem ok_front_of {P : Program} {w : World} {K : PySem.W.Frag} {mg : Str → Option Value} {base : Heap} (T : Top ⟨P, w, K⟩ mg) : FnT P w K mg base 1 "front_of" ["line"] [] (spD ⟨P, w, K⟩ [false] fn_front_of) := by
  refine T.d_front_of.ok sc_front_of (fun vs H Q E h => sp_len h) (fun f cdv A outer s H vs Q E hr h => ?_)
  exact ⟨_, pss_cons (ps_if (pt_cmpR (op_eqD hr.units) (pv 0) (pe_tup (pa_nil)) (nomark _)) (pss_one (ps_ret (pe_int))) (pss_nil)) (pss_one (ps_ret (pe_ix (ix_B (hu65 hr)) (pv 0) (pe_int) (fun _ _ => rfl)))),
    fn_ok (es_seq (es_if (et_test (ee_op rb_eq (ar_v) (ar_e (ee_tup (ees_nil))))) (es_ret (ee_int)) (es_next)) (es_ret (ee_op rb_ixB (ar_v) (ar_e (ee_int))))) rfl h⟩
theorem ok_can_be_done {P : Program} {w : World} {K : PySem.W.Frag} {mg : Str → Option Value} {base : Heap} (T : Top ⟨P, w, K⟩ mg) : FnT P w K mg base 1 "can_be_done" ["deed", "front", "left", "singles"] [] (spD ⟨P, w, K⟩ [false, false, false, false] fn_can_be_done) := by
  refine T.d_can_be_done.ok sc_can_be_done (fun vs H Q E h => sp_len h) (fun f cdv A outer s H vs Q E hr h => ?_)
  exact ⟨_, pss_cons (ps_if (pt_cmpR (op_eqD hr.units) (pv 0) (pe_str) (nomark _)) (pss_one (ps_ret (pe_chain op_lt op_le (pe_int) (pv 1) (pv 2)))) (pss_nil)) (pss_cons (ps_if (pt_cmpR (op_eqD hr.units) (pv 0) (pe_str) (nomark _)) (pss_one (ps_ret (pe_and (pe_cmpR op_gt (pv 3) (pe_int) (nomark _)) (pe_one (pe_cmpR op_gt (pv 2) (pe_int) (nomark _)))))) (pss_nil)) (pss_cons (ps_if (pt_cmpR (op_eqD hr.units) (pv 0) (pe_str) (nomark _)) (pss_one (ps_ret (pe_chain op_gt op_gt (pv 1) (pv 2) (pe_int)))) (pss_nil)) (pss_one (ps_ret (pe_bl))))),
    fn_ok (es_seq (es_if (et_test (ee_op rb_eq (ar_v) (ar_e (ee_str)))) (es_ret (ee_chain (ee_int) (ee_var) (ee_var))) (es_next)) (es_seq (es_if (et_test (ee_op rb_eq (ar_v) (ar_e (ee_str)))) (es_ret (ee_and (ee_op rb_gt (ar_v) (ar_e (ee_int))) (ee_op rb_gt (ar_v) (ar_e (ee_int))))) (es_next)) (es_seq (es_if (et_test (ee_op rb_eq (ar_v) (ar_e (ee_str)))) (es_ret (ee_chain (ee_var) (ee_var) (ee_int))) (es_next)) (es_ret (ee_bl))))) rfl h⟩
theorem ok_fitting_row {P : Program} {w : World} {K : PySem.W.Frag} {mg : Str → Option Value} {base : Heap} (T : Top ⟨P, w, K⟩ mg) : FnT P w K mg base 2 "fitting_row" ["rule", "mood", "line", "singles", "left"] [] (spD ⟨P, w, K⟩ [false, false, false, false, false] fn_fitting_row) := by
  refine T.d_fitting_row.ok sc_fitting_row (fun vs H Q E h => sp_len h) (fun f cdv A outer s H vs Q E hr h => ?_)
  exact ⟨_, pss_cons (ps_set (i := 5) sc_fitting_row.nd rfl (.inl rfl) (pe_callF (ok_front_of T) (hr.mono (by decide)) rfl (pa_cons (pv 2) (pa_nil)))) (pss_cons (ps_for PassesOwn.never rfl (pi_seqE (pv 0)) (pg_name (i := 6) sc_fitting_row.nd rfl (.inl rfl)) (pss_cons (ps_set (i := 7) sc_fitting_row.nd rfl (.inl rfl) (pe_and (pe_chain op_le op_le (pe_ix (ix_B (hu65 hr)) (pe_ix (ix_B (hu65 hr)) (pv 6) (pe_int) (fun _ _ => rfl)) (pe_int) (fun _ _ => rfl)) (pv 5) (pe_ix (ix_B (hu65 hr)) (pe_ix (ix_B (hu65 hr)) (pv 6) (pe_int) (fun _ _ => rfl)) (pe_int) (fun _ _ => rfl))) (pe_one (pe_chain op_le op_le (pe_ix (ix_B (hu65 hr)) (pe_ix (ix_B (hu65 hr)) (pv 6) (pe_int) (fun _ _ => rfl)) (pe_int) (fun _ _ => rfl)) (pv 4) (pe_ix (ix_B (hu65 hr)) (pe_ix (ix_B (hu65 hr)) (pv 6) (pe_int) (fun _ _ => rfl)) (pe_int) (fun _ _ => rfl)))))) (pss_one (ps_if (PW.pt (pw_and (pt_cmpR (op_eqD hr.units) (pe_ix (ix_B (hu65 hr)) (pv 6) (pe_int) (fun _ _ => rfl)) (pv 1) (nomark _)) (pw_and (pt_val (pv 7)) (pw_and1 (pt_chain op_le op_le (pe_ix (ix_B (hu65 hr)) (pe_ix (ix_B (hu65 hr)) (pv 6) (pe_int) (fun _ _ => rfl)) (pe_int) (fun _ _ => rfl)) (pv 3) (pe_ix (ix_B (hu65 hr)) (pe_ix (ix_B (hu65 hr)) (pv 6) (pe_int) (fun _ _ => rfl)) (pe_int) (fun _ _ => rfl))))))) (pss_one (ps_if (pt_val (pe_callF (ok_can_be_done T) (hr.mono (by decide)) rfl (pa_cons (pe_ix (ix_B (hu65 hr)) (pv 6) (pe_int) (fun _ _ => rfl)) (pa_cons (pv 5) (pa_cons (pv 4) (pa_cons (pv 3) (pa_nil))))))) (pss_one (ps_ret (pv 6))) (pss_nil))) (pss_nil))))) (pss_one (ps_ret (pe_non)))),
    fn_ok (es_seq (es_asg (ee_call (fn := fn_front_of) (eac_e (ee_var) (eac_nil))) eg_nm) (es_seq (es_for [6, 7] (ei_seqE (ee_var)) (eg_nm) (es_seq (es_asg (ee_and (ee_chain (ee_op rb_ixB (ar_e (ee_op rb_ixB (ar_v) (ar_e (ee_int)))) (ar_e (ee_int))) (ee_var) (ee_op rb_ixB (ar_e (ee_op rb_ixB (ar_v) (ar_e (ee_int)))) (ar_e (ee_int)))) (ee_chain (ee_op rb_ixB (ar_e (ee_op rb_ixB (ar_v) (ar_e (ee_int)))) (ar_e (ee_int))) (ee_var) (ee_op rb_ixB (ar_e (ee_op rb_ixB (ar_v) (ar_e (ee_int)))) (ar_e (ee_int))))) eg_nm) (es_if (et_and (et_test (ee_op rb_eq (ar_e (ee_op rb_ixB (ar_v) (ar_e (ee_int)))) (ar_v))) (et_and (et_B (ee_var)) (et_test (ee_chain (ee_op rb_ixB (ar_e (ee_op rb_ixB (ar_v) (ar_e (ee_int)))) (ar_e (ee_int))) (ee_var) (ee_op rb_ixB (ar_e (ee_op rb_ixB (ar_v) (ar_e (ee_int)))) (ar_e (ee_int))))))) (es_if (et_B (ee_call (fn := fn_can_be_done) (eac_e (ee_op rb_ixB (ar_v) (ar_e (ee_int))) (eac_e (ee_var) (eac_e (ee_var) (eac_e (ee_var) (eac_nil))))))) (es_ret (ee_var)) (es_next)) (es_next)))) (es_ret (ee_non)))) rfl h⟩
theorem ok_seated {P : Program} {w : World} {K : PySem.W.Frag} {mg : Str → Option Value} {base : Heap} (T : Top ⟨P, w, K⟩ mg) : FnT P w K mg base 1 "seated" ["deed", "line", "singles", "left"] [] (spD ⟨P, w, K⟩ [false, false, false, false] fn_seated) := by
  refine T.d_seated.ok sc_seated (fun vs H Q E h => sp_len h) (fun f cdv A outer s H vs Q E hr h => ?_)
  exact ⟨_, pss_cons (ps_if (pt_cmpR (op_eqD hr.units) (pv 0) (pe_str) (nomark _)) (pss_one (ps_ret (pe_tup (pa_cons (pe_tup (pa_cons (pe_str) (pa_cons (pe_ix (ix_B (hu65 hr)) (pv 1) (pe_int) (fun _ _ => rfl)) (pa_nil)))) (pa_cons (pe_slice sl_any (pv 1) (po_some (pe_int)) (po_none)) (pa_cons (pv 2) (pa_cons (pe_op op_sub (pv 3) (pe_ix (ix_B (hu65 hr)) (pv 1) (pe_int) (fun _ _ => rfl))) (pa_nil)))))))) (pss_nil)) (pss_cons (ps_if (pt_cmpR (op_eqD hr.units) (pv 0) (pe_str) (nomark _)) (pss_one (ps_ret (pe_tup (pa_cons (pe_tup (pa_cons (pe_str) (pa_cons (pe_int) (pa_nil)))) (pa_cons (pv 1) (pa_cons (pe_op op_sub (pv 2) (pe_int)) (pa_cons (pe_op op_sub (pv 3) (pe_int)) (pa_nil)))))))) (pss_nil)) (pss_one (ps_ret (pe_tup (pa_cons (pe_tup (pa_cons (pe_str) (pa_cons (pv 3) (pa_nil)))) (pa_cons (pe_op op_addAny (pe_tup (pa_cons (pe_op op_sub (pe_ix (ix_B (hu65 hr)) (pv 1) (pe_int) (fun _ _ => rfl)) (pv 3)) (pa_nil))) (pe_slice sl_any (pv 1) (po_some (pe_int)) (po_none))) (pa_cons (pv 2) (pa_cons (pe_int) (pa_nil))))))))),
    fn_ok (es_seq (es_if (et_test (ee_op rb_eq (ar_v) (ar_e (ee_str)))) (es_ret (ee_tup (ees_cons (ee_tup (ees_cons (ee_str) (ees_cons (ee_op rb_ixB (ar_v) (ar_e (ee_int))) (ees_nil)))) (ees_cons (ee_sl (ar_v) (eop_some (ee_int)) (eop_none)) (ees_cons (ee_var) (ees_cons (ee_op rb_sub (ar_v) (ar_e (ee_op rb_ixB (ar_v) (ar_e (ee_int))))) (ees_nil))))))) (es_next)) (es_seq (es_if (et_test (ee_op rb_eq (ar_v) (ar_e (ee_str)))) (es_ret (ee_tup (ees_cons (ee_tup (ees_cons (ee_str) (ees_cons (ee_int) (ees_nil)))) (ees_cons (ee_var) (ees_cons (ee_op rb_sub (ar_v) (ar_e (ee_int))) (ees_cons (ee_op rb_sub (ar_v) (ar_e (ee_int))) (ees_nil))))))) (es_next)) (es_ret (ee_tup (ees_cons (ee_tup (ees_cons (ee_str) (ees_cons (ee_var) (ees_nil)))) (ees_cons (ee_op rb_add (ar_e (ee_tup (ees_cons (ee_op rb_sub (ar_e (ee_op rb_ixB (ar_v) (ar_e (ee_int)))) (ar_v)) (ees_nil)))) (ar_e (ee_sl (ar_v) (eop_some (ee_int)) (eop_none)))) (ees_cons (ee_var) (ees_cons (ee_int) (ees_nil))))))))) rfl h⟩
theorem ok_fill {P : Program} {w : World} {K : PySem.W.Frag} {mg : Str → Option Value} {base : Heap} (T : Top ⟨P, w, K⟩ mg) : FnT P w K mg base 3 "fill" ["rule", "line", "singles", "seats", "mood"] [] (spD ⟨P, w, K⟩ [false, false, false, false, false] fn_fill) := by
  refine T.d_fill.ok sc_fill (fun vs H Q E h => sp_len h) (fun f cdv A outer s H vs Q E hr h => ?_)
  exact ⟨_, pss_cons (ps_set (i := 5) sc_fill.nd rfl (.inl rfl) (pv 3)) (pss_cons (ps_set (i := 6) sc_fill.nd rfl (.inl rfl) (pe_lst (pa_nil))) (pss_cons (ps_set (i := 7) sc_fill.nd rfl (.inl rfl) (pe_callF (ok_fitting_row T) (hr.mono (by decide)) rfl (pa_cons (pv 0) (pa_cons (pv 4) (pa_cons (pv 1) (pa_cons (pv 2) (pa_cons (pv 5) (pa_nil)))))))) (pss_cons (ps_while PassesOwn.never (PW.pt (pw_and (pt_cmpR op_notNF (pv 7) (pe_non) (nomark _)) (pw_and1 (pt_cmpR (op_neD hr.units) (pe_ix (ix_B (hu65 hr)) (pv 7) (pe_int) (fun _ _ => rfl)) (pe_str) (nomark _))))) (pss_cons (ps_asg (pe_callF (ok_seated T) (hr.mono (by decide)) rfl (pa_cons (pe_ix (ix_B (hu65 hr)) (pv 7) (pe_int) (fun _ _ => rfl)) (pa_cons (pv 1) (pa_cons (pv 2) (pa_cons (pv 5) (pa_nil)))))) (pg_tup rfl (pgs_cons (pg_name (i := 8) sc_fill.nd rfl (.inl rfl)) (pgs_cons (pg_name (i := 1) sc_fill.nd rfl (.inl rfl)) (pgs_cons (pg_name (i := 2) sc_fill.nd rfl (.inl rfl)) (pgs_cons (pg_name (i := 5) sc_fill.nd rfl (.inl rfl)) (pgs_nil))))))) (pss_cons (ps_expr (pe_bm PySem.F.plainAttrs_list PySem.F.slot_list_append PySem.F.type_list_append mt_append (pv 6) (pa_cons (pv 8) pa_nil))) (pss_cons (ps_set (i := 4) sc_fill.nd rfl (.inl rfl) (pe_ix (ix_B (hu65 hr)) (pv 7) (pe_int) (fun _ _ => rfl))) (pss_one (ps_set (i := 7) sc_fill.nd rfl (.inl rfl) (pe_callF (ok_fitting_row T) (hr.mono (by decide)) rfl (pa_cons (pv 0) (pa_cons (pv 4) (pa_cons (pv 1) (pa_cons (pv 2) (pa_cons (pv 5) (pa_nil))))))))))))) (pss_cons (ps_if (pt_cmpR op_notNF (pv 7) (pe_non) (nomark _)) (pss_one (ps_set (i := 4) sc_fill.nd rfl (.inl rfl) (pe_ix (ix_B (hu65 hr)) (pv 7) (pe_int) (fun _ _ => rfl)))) (pss_nil)) (pss_one (ps_ret (pe_tup (pa_cons (pe_callTy call_tupleF rfl T.z_tuple boot_tuple (pa_cons (pv 6) pa_nil)) (pa_cons (pv 5) (pa_cons (pv 1) (pa_cons (pv 2) (pa_cons (pv 4) (pa_nil))))))))))))),
    fn_ok (es_seq (es_asg (ee_var) eg_nm) (es_seq (es_asgO (eo_lst (ees_nil))) (es_seq (es_asg (ee_call (fn := fn_fitting_row) (eac_e (ee_var) (eac_e (ee_var) (eac_e (ee_var) (eac_e (ee_var) (eac_e (ee_var) (eac_nil))))))) eg_nm) (es_seq (es_while (et_and (et_test (ee_op rb_notN (ar_v) (ar_e (ee_non)))) (et_test (ee_op rb_ne (ar_e (ee_op rb_ixB (ar_v) (ar_e (ee_int)))) (ar_e (ee_str))))) (es_seq (es_asg (ee_call (fn := fn_seated) (eac_e (ee_op rb_ixB (ar_v) (ar_e (ee_int))) (eac_e (ee_var) (eac_e (ee_var) (eac_e (ee_var) (eac_nil)))))) (eg_tp (n := 4) (egs_cons (eg_nm) (egs_cons (eg_nm) (egs_cons (eg_nm) (egs_cons (eg_nm) (egs_nil))))))) (es_seq (es_drop (ee_app (ee_var))) (es_seq (es_asg (ee_op rb_ixB (ar_v) (ar_e (ee_int))) eg_nm) (es_asg (ee_call (fn := fn_fitting_row) (eac_e (ee_var) (eac_e (ee_var) (eac_e (ee_var) (eac_e (ee_var) (eac_e (ee_var) (eac_nil))))))) eg_nm))))) (es_seq (es_if (et_test (ee_op rb_notN (ar_v) (ar_e (ee_non)))) (es_asg (ee_op rb_ixB (ar_v) (ar_e (ee_int))) eg_nm) (es_next)) (es_ret (ee_tup (ees_cons (ee_call1 ru_tuple (ar_v)) (ees_cons (ee_var) (ees_cons (ee_var) (ees_cons (ee_var) (ees_cons (ee_var) (ees_nil))))))))))))) rfl h⟩
theorem ok_beat {P : Program} {w : World} {K : PySem.W.Frag} {mg : Str → Option Value} {base : Heap} (T : Top ⟨P, w, K⟩ mg) : FnT P w K mg base 4 "beat" ["setup", "rule", "state", "comers"] [] (spD ⟨P, w, K⟩ [false, false, false, false] fn_beat) := by
  refine T.d_beat.ok sc_beat (fun vs H Q E h => sp_len h) (fun f cdv A outer s H vs Q E hr h => ?_)
  exact ⟨_, pss_cons (ps_asg (pv 2) (pg_tup rfl (pgs_cons (pg_name (i := 4) sc_beat.nd rfl (.inl rfl)) (pgs_cons (pg_name (i := 5) sc_beat.nd rfl (.inl rfl)) (pgs_cons (pg_name (i := 6) sc_beat.nd rfl (.inl rfl)) (pgs_cons (pg_name (i := 7) sc_beat.nd rfl (.inl rfl)) (pgs_nil))))))) (pss_cons (ps_asg (pe_callF (ok_let_in T) (hr.mono (by decide)) rfl (pa_cons (pv 0) (pa_cons (pv 5) (pa_cons (pv 6) (pa_cons (pv 3) (pa_nil)))))) (pg_tup rfl (pgs_cons (pg_name (i := 5) sc_beat.nd rfl (.inl rfl)) (pgs_cons (pg_name (i := 6) sc_beat.nd rfl (.inl rfl)) (pgs_cons (pg_name (i := 8) sc_beat.nd rfl (.inl rfl)) (pgs_nil)))))) (pss_cons (ps_asg (pe_callF (ok_fill T) (hr.mono (by decide)) rfl (pa_cons (pv 1) (pa_cons (pv 5) (pa_cons (pv 6) (pa_cons (pe_ix (ix_B (hu65 hr)) (pe_ix (ix_B (hu65 hr)) (pv 0) (pe_int) (fun _ _ => rfl)) (pv 4) (fun _ _ => rfl)) (pa_cons (pv 7) (pa_nil))))))) (pg_tup rfl (pgs_cons (pg_name (i := 9) sc_beat.nd rfl (.inl rfl)) (pgs_cons (pg_name (i := 10) sc_beat.nd rfl (.inl rfl)) (pgs_cons (pg_name (i := 5) sc_beat.nd rfl (.inl rfl)) (pgs_cons (pg_name (i := 6) sc_beat.nd rfl (.inl rfl)) (pgs_cons (pg_name (i := 7) sc_beat.nd rfl (.inl rfl)) (pgs_nil)))))))) (pss_cons (ps_set (i := 11) sc_beat.nd rfl (.inl rfl) (pe_int)) (pss_cons (ps_if (PW.pt (pw_or (pt_cmpR (op_neD hr.units) (pv 5) (pe_tup (pa_nil)) (nomark _)) (pw_or1 (pt_cmpR op_gt (pv 6) (pe_int) (nomark _))))) (pss_one (ps_set (i := 11) sc_beat.nd rfl (.inl rfl) (pv 10))) (pss_nil)) (pss_one (ps_ret (pe_tup (pa_cons (pe_tup (pa_cons (pv 9) (pa_cons (pv 10) (pa_cons (pv 11) (pa_cons (pv 8) (pa_nil)))))) (pa_cons (pe_tup (pa_cons (pe_op op_mod (pe_op op_addAny (pv 4) (pe_int)) (pe_callB call_lenB rfl T.z_len boot_len (pa_cons (pe_ix (ix_B (hu65 hr)) (pv 0) (pe_int) (fun _ _ => rfl)) pa_nil))) (pa_cons (pv 5) (pa_cons (pv 6) (pa_cons (pv 7) (pa_nil)))))) (pa_nil)))))))))),
    fn_ok (es_seq (es_asg (ee_var) (eg_tp (n := 4) (egs_cons (eg_nm) (egs_cons (eg_nm) (egs_cons (eg_nm) (egs_cons (eg_nm) (egs_nil))))))) (es_seq (es_asg (ee_call (fn := fn_let_in) (eac_e (ee_var) (eac_e (ee_var) (eac_e (ee_var) (eac_e (ee_var) (eac_nil)))))) (eg_tp (n := 3) (egs_cons (eg_nm) (egs_cons (eg_nm) (egs_cons (eg_nm) (egs_nil)))))) (es_seq (es_asg (ee_call (fn := fn_fill) (eac_e (ee_var) (eac_e (ee_var) (eac_e (ee_var) (eac_e (ee_op rb_ixB (ar_e (ee_op rb_ixB (ar_v) (ar_e (ee_int)))) (ar_v)) (eac_e (ee_var) (eac_nil))))))) (eg_tp (n := 5) (egs_cons (eg_nm) (egs_cons (eg_nm) (egs_cons (eg_nm) (egs_cons (eg_nm) (egs_cons (eg_nm) (egs_nil)))))))) (es_seq (es_asg (ee_int) eg_nm) (es_seq (es_if (et_or (et_test (ee_op rb_ne (ar_v) (ar_e (ee_tup (ees_nil))))) (et_test (ee_op rb_gt (ar_v) (ar_e (ee_int))))) (es_asg (ee_var) eg_nm) (es_next)) (es_ret (ee_tup (ees_cons (ee_tup (ees_cons (ee_var) (ees_cons (ee_var) (ees_cons (ee_var) (ees_cons (ee_var) (ees_nil)))))) (ees_cons (ee_tup (ees_cons (ee_op rb_mod (ar_e (ee_op rb_add (ar_v) (ar_e (ee_int)))) (ar_e (ee_call1 ru_lenB (ar_e (ee_op rb_ixB (ar_v) (ar_e (ee_int))))))) (ees_cons (ee_var) (ees_cons (ee_var) (ees_cons (ee_var) (ees_nil)))))) (ees_nil)))))))))) rfl h⟩
theorem ok_run {P : Program} {w : World} {K : PySem.W.Frag} {mg : Str → Option Value} {base : Heap} (T : Top ⟨P, w, K⟩ mg) : FnT P w K mg base 5 "run" ["setup", "rule", "state", "row"] [] (spD ⟨P, w, K⟩ [false, false, false, false] fn_run) := by
  refine T.d_run.ok sc_run (fun vs H Q E h => sp_len h) (fun f cdv A outer s H vs Q E hr h => ?_)
  exact ⟨_, pss_cons (ps_set (i := 4) sc_run.nd rfl (.inl rfl) (pe_lst (pa_nil))) (pss_cons (ps_for PassesOwn.never rfl (pi_seqE (pv 3)) (pg_name (i := 5) sc_run.nd rfl (.inl rfl)) (pss_cons (ps_asg (pe_callF (ok_beat T) (hr.mono (by decide)) rfl (pa_cons (pv 0) (pa_cons (pv 1) (pa_cons (pv 2) (pa_cons (pv 5) (pa_nil)))))) (pg_tup rfl (pgs_cons (pg_name (i := 6) sc_run.nd rfl (.inl rfl)) (pgs_cons (pg_name (i := 2) sc_run.nd rfl (.inl rfl)) (pgs_nil))))) (pss_one (ps_expr (pe_bm PySem.F.plainAttrs_list PySem.F.slot_list_append PySem.F.type_list_append mt_append (pv 4) (pa_cons (pv 6) pa_nil)))))) (pss_one (ps_ret (pe_tup (pa_cons (pv 4) (pa_cons (pv 2) (pa_nil))))))),
    fn_ok (es_seq (es_asgO (eo_lst (ees_nil))) (es_seq (es_for [5, 6] (ei_seqE (ee_var)) (eg_nm) (es_seq (es_asg (ee_call (fn := fn_beat) (eac_e (ee_var) (eac_e (ee_var) (eac_e (ee_var) (eac_e (ee_var) (eac_nil)))))) (eg_tp (n := 2) (egs_cons (eg_nm) (egs_cons (eg_nm) (egs_nil))))) (es_drop (ee_app (ee_var))))) (es_frz 4 (es_ret (ee_tup (ees_cons (ee_var) (ees_cons (ee_var) (ees_nil)))))))) rfl h⟩
theorem ok_is_size {P : Program} {w : World} {K : PySem.W.Frag} {mg : Str → Option Value} {base : Heap} (T : Top ⟨P, w, K⟩ mg) : FnT P w K mg base 3 "is_size" ["setup", "thing"] [] (spD ⟨P, w, K⟩ [false, false] fn_is_size) := by
  refine T.d_is_size.ok sc_is_size (fun vs H Q E h => sp_len h) (fun f cdv A outer s H vs Q E hr h => ?_)
  exact ⟨_, pss_one (ps_ret (pe_and (pe_callF (ok_is_number T) (hr.mono (by decide)) rfl (pa_cons (pv 1) (pa_cons (pe_int) (pa_cons (pe_int) (pa_nil))))) (pe_one (pe_cmpR (op_inB (hu65 hr)) (pv 1) (pe_ix (ix_B (hu65 hr)) (pv 0) (pe_int) (fun _ _ => rfl)) rfl)))),
    fn_ok (es_ret (ee_and (ee_call (fn := fn_is_number) (eac_e (ee_var) (eac_e (ee_int) (eac_e (ee_int) (eac_nil))))) (ee_op rb_inB (ar_v) (ar_e (ee_op rb_ixB (ar_v) (ar_e (ee_int))))))) rfl h⟩
theorem ok_is_comers {P : Program} {w : World} {K : PySem.W.Frag} {mg : Str → Option Value} {base : Heap} (T : Top ⟨P, w, K⟩ mg) : FnT P w K mg base 4 "is_comers" ["setup", "thing"] [] (spD ⟨P, w, K⟩ [false, false] fn_is_comers) := by
  refine T.d_is_comers.ok sc_is_comers (fun vs H Q E h => sp_len h) (fun f cdv A outer s H vs Q E hr h => ?_)
  exact ⟨_, pss_cons (ps_if (PW.pt (pw_or (pt_not (pt_val (pe_callB call_isi rfl T.z_isinstance boot_isinstance (pa_cons (pv 1) (pa_cons (pe_bltn rfl T.z_tuple boot_tuple (v := .ty "tuple") rfl) pa_nil))))) (pw_or1 (pt_cmpR (op_neD hr.units) (pe_callB call_lenB rfl T.z_len boot_len (pa_cons (pv 1) pa_nil)) (pe_int) (nomark _))))) (pss_one (ps_ret (pe_bl))) (pss_nil)) (pss_cons (ps_asg (pv 1) (pg_tup rfl (pgs_cons (pg_name (i := 2) sc_is_comers.nd rfl (.inl rfl)) (pgs_cons (pg_name (i := 3) sc_is_comers.nd rfl (.inl rfl)) (pgs_nil))))) (pss_cons (ps_if (PW.pt (pw_or (pt_not (pt_val (pe_callB call_isi rfl T.z_isinstance boot_isinstance (pa_cons (pv 2) (pa_cons (pe_bltn rfl T.z_tuple boot_tuple (v := .ty "tuple") rfl) pa_nil))))) (pw_or1 (pt_cmpR op_gt (pe_callB call_lenB rfl T.z_len boot_len (pa_cons (pv 2) pa_nil)) (pe_ix (ix_B (hu65 hr)) (pe_ix (ix_B (hu65 hr)) (pv 0) (pe_int) (fun _ _ => rfl)) (pe_int) (fun _ _ => rfl)) (nomark _))))) (pss_one (ps_ret (pe_bl))) (pss_nil)) (pss_one (ps_ret (pe_and (pe_callB (cr_all rfl) rfl T.z_all boot_all (pa_cons (pe_lc (own := [("size", 4)]) rfl sc_is_comers.nd (pi_seqE (pv 2)) (blkOk_by (N := N_is_comers) (sc := defScope s_is_comers) (by decide +kernel)) (fun _ _ _ _ _ => pg_name (i := 4) sc_is_comers.nd rfl (.inl rfl)) (fun _ _ _ _ _ => pts_nil) (fun _ _ _ _ _ => pe_callF (ok_is_size T) (hr.mono (by decide)) rfl (pa_cons (pv 0) (pa_cons (pv 4) (pa_nil))))) pa_nil)) (pe_one (pe_callF (ok_is_number T) (hr.mono (by decide)) rfl (pa_cons (pv 3) (pa_cons (pe_int) (pa_cons (pe_ix (ix_B (hu65 hr)) (pe_ix (ix_B (hu65 hr)) (pv 0) (pe_int) (fun _ _ => rfl)) (pe_int) (fun _ _ => rfl)) (pa_nil))))))))))),
    fn_ok (es_seq (es_if (et_or (et_not (et_B (ee_isi (T := "tuple") (by decide) (ar_v)))) (et_test (ee_op rb_ne (ar_e (ee_call1 ru_lenB (ar_v))) (ar_e (ee_int))))) (es_ret (ee_bl)) (es_next)) (es_seq (es_asg (ee_var) (eg_tp (n := 2) (egs_cons (eg_nm) (egs_cons (eg_nm) (egs_nil))))) (es_seq (es_if (et_or (et_not (et_B (ee_isi (T := "tuple") (by decide) (ar_v)))) (et_test (ee_op rb_gt (ar_e (ee_call1 ru_lenB (ar_v))) (ar_e (ee_op rb_ixB (ar_e (ee_op rb_ixB (ar_v) (ar_e (ee_int)))) (ar_e (ee_int))))))) (es_ret (ee_bl)) (es_next)) (es_ret (ee_and (ee_call1 ru_all (ar_e ((eo_lc (vs := [4]) (ei_seqE (ee_var)) (egv_nm) (et_yes) (ee_call (fn := fn_is_size) (eac_e (ee_var) (eac_e (ee_var) (eac_nil))))).ee))) (ee_call (fn := fn_is_number) (eac_e (ee_var) (eac_e (ee_int) (eac_e (ee_op rb_ixB (ar_e (ee_op rb_ixB (ar_v) (ar_e (ee_int)))) (ar_e (ee_int))) (eac_nil)))))))))) rfl h⟩
theorem ok_row_fault {P : Program} {w : World} {K : PySem.W.Frag} {mg : Str → Option Value} {base : Heap} (T : Top ⟨P, w, K⟩ mg) : FnT P w K mg base 5 "row_fault" ["setup", "row", "most"] [] (spD ⟨P, w, K⟩ [false, false, false] fn_row_fault) := by
  refine T.d_row_fault.ok sc_row_fault (fun vs H Q E h => sp_len h) (fun f cdv A outer s H vs Q E hr h => ?_)
  exact ⟨_, pss_cons (ps_if (pt_not (pt_val (pe_callB call_isi rfl T.z_isinstance boot_isinstance (pa_cons (pv 1) (pa_cons (pe_bltn rfl T.z_list boot_list (v := .ty "list") rfl) pa_nil))))) (pss_one (ps_ret (pe_un un_neg (pe_int)))) (pss_nil)) (pss_cons (ps_for PassesOwn.never rfl (pi_enum rfl T.z_enumerate (pa_cons (pe_slice sl_any (pv 1) (po_none) (po_some (pv 2))) pa_nil)) (pg_tup rfl (pgs_cons (pg_name (i := 3) sc_row_fault.nd rfl (.inl rfl)) (pgs_cons (pg_name (i := 4) sc_row_fault.nd rfl (.inl rfl)) (pgs_nil)))) (pss_one (ps_if (pt_not (pt_val (pe_callF (ok_is_comers T) (hr.mono (by decide)) rfl (pa_cons (pv 0) (pa_cons (pv 4) (pa_nil)))))) (pss_one (ps_ret (pv 3))) (pss_nil)))) (pss_cons (ps_if (pt_cmpR op_gt (pe_callB call_lenB rfl T.z_len boot_len (pa_cons (pv 1) pa_nil)) (pv 2) (nomark _)) (pss_one (ps_ret (pv 2))) (pss_nil)) (pss_one (ps_ret (pe_non))))),
    fn_ok (es_seq (es_if (et_not (et_B (ee_isi (T := "list") (by decide) (ar_v)))) (es_ret (ee_un ru_neg (ar_e (ee_int)))) (es_next)) (es_seq (es_for [3, 4] (ei_enum (ee_sl (ar_v) (eop_none) (eop_some (ee_var)))) (eg_tp (n := 2) (egs_cons (eg_nm) (egs_cons (eg_nm) (egs_nil)))) (es_if (et_not (et_B (ee_call (fn := fn_is_comers) (eac_e (ee_var) (eac_e (ee_var) (eac_nil)))))) (es_ret (ee_var)) (es_next))) (es_seq (es_if (et_test (ee_op rb_gt (ar_e (ee_call1 ru_lenB (ar_v))) (ar_v))) (es_ret (ee_var)) (es_next)) (es_ret (ee_non))))) rfl h⟩
theorem ok_first_state {P : Program} {w : World} {K : PySem.W.Frag} {mg : Str → Option Value} {base : Heap} (T : Top ⟨P, w, K⟩ mg) : FnT P w K mg base 1 "first_state" [] [] (spD ⟨P, w, K⟩ [] fn_first_state) := by
  refine T.d_first_state.ok sc_first_state (fun vs H Q E h => sp_len h) (fun f cdv A outer s H vs Q E hr h => ?_)
  obtain ⟨vSTART, uSTART, gSTART, rSTART, eSTART⟩ := T.c_START
  exact ⟨_, pss_one (ps_ret (pe_glob rfl gSTART rSTART)),
    fn_ok (es_ret (ee_c eSTART)) rfl h⟩
theorem ok_is_ring {P : Program} {w : World} {K : PySem.W.Frag} {mg : Str → Option Value} {base : Heap} (T : Top ⟨P, w, K⟩ mg) : FnT P w K mg base 6 "is_ring" ["setup", "rule", "thing"] [] (spD ⟨P, w, K⟩ [false, false, false] fn_is_ring) := by
  refine T.d_is_ring.ok sc_is_ring (fun vs H Q E h => sp_len h) (fun f cdv A outer s H vs Q E hr h => ?_)
  exact ⟨_, pss_cons (ps_if (PW.pt (pw_or (pt_not (pt_val (pe_callB call_isi rfl T.z_isinstance boot_isinstance (pa_cons (pv 2) (pa_cons (pe_bltn rfl T.z_tuple boot_tuple (v := .ty "tuple") rfl) pa_nil))))) (pw_or1 (pt_cmpR (op_neD hr.units) (pe_callB call_lenB rfl T.z_len boot_len (pa_cons (pv 2) pa_nil)) (pe_int) (nomark _))))) (pss_one (ps_ret (pe_bl))) (pss_nil)) (pss_cons (ps_asg (pv 2) (pg_tup rfl (pgs_cons (pg_name (i := 3) sc_is_ring.nd rfl (.inl rfl)) (pgs_cons (pg_name (i := 4) sc_is_ring.nd rfl (.inl rfl)) (pgs_nil))))) (pss_cons (ps_if (PW.pt (pw_or (pt_not (pt_val (pe_callB call_isi rfl T.z_isinstance boot_isinstance (pa_cons (pv 3) (pa_cons (pe_bltn rfl T.z_list boot_list (v := .ty "list") rfl) pa_nil))))) (pw_or (pt_not (pt_val (pe_callB call_isi rfl T.z_isinstance boot_isinstance (pa_cons (pv 4) (pa_cons (pe_bltn rfl T.z_list boot_list (v := .ty "list") rfl) pa_nil))))) (pw_or1 (pt_cmpR (op_eqNil (hu65 hr)) (pv 4) (pe_lst (pa_nil)) (nomark _)))))) (pss_one (ps_ret (pe_bl))) (pss_nil)) (pss_cons (ps_if (PW.pt (pw_or (pt_cmpR op_notNF (pe_callF (ok_row_fault T) (hr.mono (by decide)) rfl (pa_cons (pv 0) (pa_cons (pv 3) (pa_cons (pe_callB call_lenB rfl T.z_len boot_len (pa_cons (pv 3) pa_nil)) (pa_nil))))) (pe_non) (nomark _)) (pw_or1 (pt_cmpR op_notNF (pe_callF (ok_row_fault T) (hr.mono (by decide)) rfl (pa_cons (pv 0) (pa_cons (pv 4) (pa_cons (pe_callB call_lenB rfl T.z_len boot_len (pa_cons (pv 4) pa_nil)) (pa_nil))))) (pe_non) (nomark _))))) (pss_one (ps_ret (pe_bl))) (pss_nil)) (pss_cons (ps_set (i := 5) sc_is_ring.nd rfl (.inl rfl) (pe_ix (ix_B (hu65 hr)) (pe_callF (ok_run T) (hr.mono (by decide)) rfl (pa_cons (pv 0) (pa_cons (pv 1) (pa_cons (pe_callF0 (ok_first_state T) (hr.mono (by decide)) rfl) (pa_cons (pv 3) (pa_nil)))))) (pe_int) (fun _ _ => rfl))) (pss_one (ps_ret (pe_cmpR (op_eqD hr.units) (pe_ix (ix_B (hu65 hr)) (pe_callF (ok_run T) (hr.mono (by decide)) rfl (pa_cons (pv 0) (pa_cons (pv 1) (pa_cons (pv 5) (pa_cons (pv 4) (pa_nil)))))) (pe_int) (fun _ _ => rfl)) (pv 5) (nomark _)))))))),
    fn_ok (es_seq (es_if (et_or (et_not (et_B (ee_isi (T := "tuple") (by decide) (ar_v)))) (et_test (ee_op rb_ne (ar_e (ee_call1 ru_lenB (ar_v))) (ar_e (ee_int))))) (es_ret (ee_bl)) (es_next)) (es_seq (es_asg (ee_var) (eg_tp (n := 2) (egs_cons (eg_nm) (egs_cons (eg_nm) (egs_nil))))) (es_seq (es_if (et_or (et_not (et_B (ee_isi (T := "list") (by decide) (ar_v)))) (et_or (et_not (et_B (ee_isi (T := "list") (by decide) (ar_v)))) (et_test (ee_op rb_nil (ar_v) (ar_e ((eo_lst (ees_nil)).ee)))))) (es_ret (ee_bl)) (es_next)) (es_seq (es_if (et_or (et_test (ee_op rb_notN (ar_e (ee_call (fn := fn_row_fault) (eac_e (ee_var) (eac_e (ee_var) (eac_e (ee_call1 ru_lenB (ar_v)) (eac_nil)))))) (ar_e (ee_non)))) (et_test (ee_op rb_notN (ar_e (ee_call (fn := fn_row_fault) (eac_e (ee_var) (eac_e (ee_var) (eac_e (ee_call1 ru_lenB (ar_v)) (eac_nil)))))) (ar_e (ee_non))))) (es_ret (ee_bl)) (es_next)) (es_seq (es_asg (ee_op rb_ixB (ar_e (ee_call (fn := fn_run) (eac_e (ee_var) (eac_e (ee_var) (eac_e (ee_call (fn := fn_first_state) (eac_nil)) (eac_e (ee_var) (eac_nil))))))) (ar_e (ee_int))) eg_nm) (es_ret (ee_op rb_eq (ar_e (ee_op rb_ixB (ar_e (ee_call (fn := fn_run) (eac_e (ee_var) (eac_e (ee_var) (eac_e (ee_var) (eac_e (ee_var) (eac_nil))))))) (ar_e (ee_int)))) (ar_v)))))))) rfl h⟩
theorem ok_ring_holds {P : Program} {w : World} {K : PySem.W.Frag} {mg : Str → Option Value} {base : Heap} (T : Top ⟨P, w, K⟩ mg) : FnT P w K mg base 8 "ring_holds" ["setup", "rule", "above", "below", "ring"] [] (spD ⟨P, w, K⟩ [false, false, false, false, false] fn_ring_holds) := by
  refine T.d_ring_holds.ok sc_ring_holds (fun vs H Q E h => sp_len h) (fun f cdv A outer s H vs Q E hr h => ?_)
  exact ⟨_, pss_cons (ps_expr (pe_callF (ok_check_both T) (hr.mono (by decide)) rfl (pa_cons (pv 0) (pa_cons (pv 1) (pa_nil))))) (pss_cons (ps_expr (pe_callF (ok_check_fraction T) (hr.mono (by decide)) rfl (pa_cons (pv 2) (pa_cons (pv 3) (pa_nil))))) (pss_cons (ps_if (pt_not (pt_val (pe_callF (ok_is_ring T) (hr.mono (by decide)) rfl (pa_cons (pv 0) (pa_cons (pv 1) (pa_cons (pv 4) (pa_nil))))))) (pss_one (ps_ret (pe_bl))) (pss_nil)) (pss_cons (ps_set (i := 5) sc_ring_holds.nd rfl (.inl rfl) (pe_ix (ix_B (hu65 hr)) (pe_callF (ok_run T) (hr.mono (by decide)) rfl (pa_cons (pv 0) (pa_cons (pv 1) (pa_cons (pe_callF0 (ok_first_state T) (hr.mono (by decide)) rfl) (pa_cons (pe_ix (ix_B (hu65 hr)) (pv 4) (pe_int) (fun _ _ => rfl)) (pa_nil)))))) (pe_int) (fun _ _ => rfl))) (pss_cons (ps_set (i := 6) sc_ring_holds.nd rfl (.inl rfl) (pe_callB (cr_sum rfl) rfl T.z_sum boot_sum (pa_cons (pe_lc (own := [("chair", 7)]) rfl sc_ring_holds.nd (pi_seqE (pe_ix (ix_B (hu65 hr)) (pe_callF (ok_run T) (hr.mono (by decide)) rfl (pa_cons (pv 0) (pa_cons (pv 1) (pa_cons (pv 5) (pa_cons (pe_ix (ix_B (hu65 hr)) (pv 4) (pe_int) (fun _ _ => rfl)) (pa_nil)))))) (pe_int) (fun _ _ => rfl))) (blkOk_by (N := N_ring_holds) (sc := defScope s_ring_holds) (by decide +kernel)) (fun _ _ _ _ _ => pg_name (i := 7) sc_ring_holds.nd rfl (.inl rfl)) (fun _ _ _ _ _ => pts_nil) (fun _ _ _ _ _ => pe_ix (ix_B (hu65 hr)) (pv 7) (pe_int) (fun _ _ => rfl))) pa_nil))) (pss_one (ps_ret (pe_cmpR (op_eqD hr.units) (pe_op op_mulA (pv 6) (pv 3)) (pe_op op_mulA (pv 2) (pe_callB call_lenB rfl T.z_len boot_len (pa_cons (pe_ix (ix_B (hu65 hr)) (pv 4) (pe_int) (fun _ _ => rfl)) pa_nil))) (nomark _)))))))),
    fn_ok (es_seq (es_drop (ee_call (fn := fn_check_both) (eac_e (ee_var) (eac_e (ee_var) (eac_nil))))) (es_seq (es_drop (ee_call (fn := fn_check_fraction) (eac_e (ee_var) (eac_e (ee_var) (eac_nil))))) (es_seq (es_if (et_not (et_B (ee_call (fn := fn_is_ring) (eac_e (ee_var) (eac_e (ee_var) (eac_e (ee_var) (eac_nil))))))) (es_ret (ee_bl)) (es_next)) (es_seq (es_asg (ee_op rb_ixB (ar_e (ee_call (fn := fn_run) (eac_e (ee_var) (eac_e (ee_var) (eac_e (ee_call (fn := fn_first_state) (eac_nil)) (eac_e (ee_op rb_ixB (ar_v) (ar_e (ee_int))) (eac_nil))))))) (ar_e (ee_int))) eg_nm) (es_seq (es_asg (ee_call1 ru_sum (ar_e ((eo_lc (vs := [7]) (ei_seqE (ee_op rb_ixB (ar_e (ee_call (fn := fn_run) (eac_e (ee_var) (eac_e (ee_var) (eac_e (ee_var) (eac_e (ee_op rb_ixB (ar_v) (ar_e (ee_int))) (eac_nil))))))) (ar_e (ee_int)))) (egv_nm) (et_yes) (ee_op rb_ixB (ar_v) (ar_e (ee_int)))).ee))) eg_nm) (es_ret (ee_op rb_eq (ar_e (ee_op rb_mulA (ar_v) (ar_v))) (ar_e (ee_op rb_mulA (ar_v) (ar_e (ee_call1 ru_lenB (ar_e (ee_op rb_ixB (ar_v) (ar_e (ee_int))))))))))))))) rfl h⟩
theorem ok_L_same {P : Program} {w : World} {K : PySem.W.Frag} {mg : Str → Option Value} {base : Heap} (T : Top ⟨P, w, K⟩ mg) : FnT P w K mg base 1 "_law_same" ["told", "due"] [] (spD ⟨P, w, K⟩ [false, false] fn_L_same) := by
  refine T.d_L_same.ok sc_L_same (fun vs H Q E h => sp_len h) (fun f cdv A outer s H vs Q E hr h => ?_)
  exact ⟨_, pss_one (ps_ret (pe_and (pe_callB call_isi rfl T.z_isinstance boot_isinstance (pa_cons (pv 0) (pa_cons (pe_bltn rfl T.z_bool boot_bool (v := .ty "bool") rfl) pa_nil))) (pe_one (pe_cmpR (op_eqD hr.units) (pv 0) (pv 1) (nomark _))))),
    fn_ok (es_ret (ee_and (ee_isi (T := "bool") (by decide) (ar_v)) (ee_op rb_eq (ar_v) (ar_v)))) rfl h⟩
theorem ok_L_long_right {P : Program} {w : World} {K : PySem.W.Frag} {mg : Str → Option Value} {base : Heap} (T : Top ⟨P, w, K⟩ mg) : FnT P w K mg base 9 "_law_long_right" ["deck", "setup", "rule", "ring", "above", "below"] [] (spD ⟨P, w, K⟩ [true, false, false, false, false, false] fn_L_long_right) := by
  refine T.d_L_long_right.ok sc_L_long_right (fun vs H Q E h => sp_len h) (fun f cdv A outer s H vs Q E hr h => ?_)
  exact ⟨_, pss_cons (ps_asg (pv 3) (pg_tup rfl (pgs_cons (pg_name (i := 6) sc_L_long_right.nd rfl (.inl rfl)) (pgs_cons (pg_name (i := 7) sc_L_long_right.nd rfl (.inl rfl)) (pgs_nil))))) (pss_cons (ps_set (i := 8) sc_L_long_right.nd rfl (.inl rfl) (pe_op op_addAny (pe_int) (pe_op op_fdiv (pe_int) (pe_callB call_lenB rfl T.z_len boot_len (pa_cons (pv 7) pa_nil))))) (pss_cons (ps_set (i := 9) sc_L_long_right.nd rfl (.inl rfl) (pe_tup (pa_cons (pv 6) (pa_cons (pe_op op_addAny (pe_op op_mulA (pv 7) (pv 8)) (pe_lst (pa_cons (pe_callF (ok_L_bad_comers T) (hr.mono (by decide)) rfl (pa_cons (pv 0) (pa_cons (pv 1) (pa_nil)))) (pa_nil)))) (pa_nil))))) (pss_cons (ps_for PassesOwn.never rfl (pi_seqE (pe_lst (pa_cons (pe_tup (pa_cons (pv 6) (pa_cons (pe_op op_mulA (pv 7) (pv 8)) (pa_nil)))) (pa_cons (pe_tup (pa_cons (pe_op op_addAny (pv 6) (pe_op op_mulA (pv 7) (pv 8))) (pa_cons (pv 7) (pa_nil)))) (pa_cons (pv 9) (pa_nil)))))) (pg_name (i := 10) sc_L_long_right.nd rfl (.inl rfl)) (pss_cons (ps_set (i := 11) sc_L_long_right.nd rfl (.inl rfl) (pe_callF (ok_L_ring_right T) (hr.mono (by decide)) rfl (pa_cons (pv 1) (pa_cons (pv 2) (pa_cons (pv 10) (pa_nil)))))) (pss_cons (ps_set (i := 12) sc_L_long_right.nd rfl (.inl rfl) (pe_and (pe_cmpR op_notNF (pv 11) (pe_non) (nomark _)) (pe_one (pe_cmpR (op_eqD hr.units) (pe_op op_mulA (pe_ix (ix_B (hu65 hr)) (pv 11) (pe_int) (fun _ _ => rfl)) (pv 5)) (pe_op op_mulA (pv 4) (pe_ix (ix_B (hu65 hr)) (pv 11) (pe_int) (fun _ _ => rfl))) (nomark _))))) (pss_one (ps_if (pt_not (pt_val (pe_callF (ok_L_same T) (hr.mono (by decide)) rfl (pa_cons (pe_callF (ok_ring_holds T) (hr.mono (by decide)) rfl (pa_cons (pv 1) (pa_cons (pv 2) (pa_cons (pv 4) (pa_cons (pv 5) (pa_cons (pv 10) (pa_nil))))))) (pa_cons (pv 12) (pa_nil)))))) (pss_one (ps_ret (pe_bl))) (pss_nil)))))) (pss_one (ps_ret (pe_bl)))))),
    fn_ok (es_seq (es_asg (ee_var) (eg_tp (n := 2) (egs_cons (eg_nm) (egs_cons (eg_nm) (egs_nil))))) (es_seq (es_asg (ee_op rb_add (ar_e (ee_int)) (ar_e (ee_op rb_div (ar_e (ee_int)) (ar_e (ee_call1 ru_lenB (ar_v)))))) eg_nm) (es_seq (es_asg (ee_tup (ees_cons (ee_var) (ees_cons (ee_op rb_add (ar_e (ee_op rb_mulA (ar_v) (ar_v))) (ar_e ((eo_lst (ees_cons (ee_call (fn := fn_L_bad_comers) (eac_io (eac_e (ee_var) (eac_nil)))) (ees_nil))).ee))) (ees_nil)))) eg_nm) (es_seq (es_for [10, 11, 12] (ei_seqE ((eo_lst (ees_cons (ee_tup (ees_cons (ee_var) (ees_cons (ee_op rb_mulA (ar_v) (ar_v)) (ees_nil)))) (ees_cons (ee_tup (ees_cons (ee_op rb_add (ar_v) (ar_e (ee_op rb_mulA (ar_v) (ar_v)))) (ees_cons (ee_var) (ees_nil)))) (ees_cons (ee_var) (ees_nil))))).ee)) (eg_nm) (es_seq (es_asg (ee_call (fn := fn_L_ring_right) (eac_e (ee_var) (eac_e (ee_var) (eac_e (ee_var) (eac_nil))))) eg_nm) (es_seq (es_asg (ee_and (ee_op rb_notN (ar_v) (ar_e (ee_non))) (ee_op rb_eq (ar_e (ee_op rb_mulA (ar_e (ee_op rb_ixB (ar_v) (ar_e (ee_int)))) (ar_v))) (ar_e (ee_op rb_mulA (ar_v) (ar_e (ee_op rb_ixB (ar_v) (ar_e (ee_int)))))))) eg_nm) (es_if (et_not (et_B (ee_call (fn := fn_L_same) (eac_e (ee_call (fn := fn_ring_holds) (eac_e (ee_var) (eac_e (ee_var) (eac_e (ee_var) (eac_e (ee_var) (eac_e (ee_var) (eac_nil))))))) (eac_e (ee_var) (eac_nil)))))) (es_ret (ee_bl)) (es_next))))) (es_ret (ee_bl)))))) rfl h⟩
theorem ok_law {P : Program} {w : World} {K : PySem.W.Frag} {mg : Str → Option Value} {base : Heap} {f : Addr} {fd : FuncData} (F : Fun K "law" "law" s_law f fd) (T : Top ⟨P, w, K⟩ mg) : FnOk P w K mg base CX0 10 f fd ["script"] (spD ⟨P, w, K⟩ [false] fn_law) := by
  refine F.ok sc_law (fun vs H Q E h => sp_len h) (fun cdv A outer s H vs Q E hr h => ?_)
  exact ⟨_, pss_cons (ps_for PassesOwn.never rfl (pi_range1 rfl T.z_range (pa_cons (pe_callB (call_max2F rfl) rfl T.z_max boot_max (pa_cons (pe_int) (pa_cons (pe_callB (call_min2F rfl) rfl T.z_min boot_min (pa_cons (pe_int) (pa_cons (pe_callB call_lenB rfl T.z_len boot_len (pa_cons (pv 0) pa_nil)) pa_nil))) pa_nil))) pa_nil)) (pg_name (i := 1) sc_law.nd rfl (.inl rfl)) (pss_cons (ps_set (i := 2) sc_law.nd rfl (.inl rfl) (pe_callF (ok_L_deck T) (hr.mono (by decide)) rfl (pa_cons (pv 0) (pa_cons (pv 1) (pa_nil))))) (pss_cons (ps_asg (pe_callF (ok_L_case T) (hr.mono (by decide)) rfl (pa_cons (pv 2) (pa_cons (pe_int) (pa_nil)))) (pg_tup rfl (pgs_cons (pg_name (i := 3) sc_law.nd rfl (.inl rfl)) (pgs_cons (pg_name (i := 4) sc_law.nd rfl (.inl rfl)) (pgs_nil))))) (pss_cons (ps_set (i := 5) sc_law.nd rfl (.inl rfl) (pe_callF (ok_L_true_ring T) (hr.mono (by decide)) rfl (pa_cons (pv 2) (pa_cons (pv 3) (pa_cons (pv 4) (pa_nil)))))) (pss_cons (ps_set (i := 6) sc_law.nd rfl (.inl rfl) (pe_callF (ok_L_ring_right T) (hr.mono (by decide)) rfl (pa_cons (pv 3) (pa_cons (pv 4) (pa_cons (pv 5) (pa_nil)))))) (pss_cons (ps_set (i := 7) sc_law.nd rfl (.inl rfl) (pe_op op_addAny (pe_int) (pe_callF (ok_L_take T) (hr.mono (by decide)) rfl (pa_cons (pv 2) (pa_cons (pe_int) (pa_nil)))))) (pss_cons (ps_set (i := 8) sc_law.nd rfl (.inl rfl) (pe_tup (pa_cons (pe_callTy (call_listB rfl) rfl T.z_list boot_list (pa_cons (pe_ix (ix_B (hu65 hr)) (pv 5) (pe_int) (fun _ _ => rfl)) pa_nil)) (pa_cons (pe_callTy (call_listB rfl) rfl T.z_list boot_list (pa_cons (pe_ix (ix_B (hu65 hr)) (pv 5) (pe_int) (fun _ _ => rfl)) pa_nil)) (pa_nil))))) (pss_cons (ps_set (i := 9) sc_law.nd rfl (.inl rfl) (pe_op op_mulA (pe_ix (ix_B (hu65 hr)) (pv 6) (pe_int) (fun _ _ => rfl)) (pv 7))) (pss_cons (ps_set (i := 10) sc_law.nd rfl (.inl rfl) (pe_op op_mulA (pe_ix (ix_B (hu65 hr)) (pv 6) (pe_int) (fun _ _ => rfl)) (pv 7))) (pss_cons (ps_if (PW.pt (pw_or (pt_cmpR op_notB (pe_callF (ok_ring_holds T) (hr.mono (by decide)) rfl (pa_cons (pv 3) (pa_cons (pv 4) (pa_cons (pv 9) (pa_cons (pv 10) (pa_cons (pv 5) (pa_nil))))))) (pe_bl) (nomark _)) (pw_or1 (pt_cmpR (op_neD hr.units) (pv 5) (pv 8) (nomark _))))) (pss_one (ps_ret (pe_bl))) (pss_nil)) (pss_cons (ps_if (PW.pt (pw_and (pt_cmpR (op_eqD hr.units) (pv 1) (pe_int) (nomark _)) (pw_and1 (pt_not (pt_val (pe_callF (ok_L_long_right T) (hr.mono (by decide)) rfl (pa_cons (pv 2) (pa_cons (pv 3) (pa_cons (pv 4) (pa_cons (pv 5) (pa_cons (pv 9) (pa_cons (pv 10) (pa_nil))))))))))))) (pss_one (ps_ret (pe_bl))) (pss_nil)) (pss_one (ps_for PassesOwn.never rfl (pi_range1 rfl T.z_range (pa_cons (pe_int) pa_nil)) (pg_name (i := 11) sc_law.nd rfl (.inl rfl)) (pss_cons (ps_set (i := 12) sc_law.nd rfl (.inl rfl) (pe_callF (ok_L_spoiled_ring T) (hr.mono (by decide)) rfl (pa_cons (pv 2) (pa_cons (pv 3) (pa_cons (pv 5) (pa_nil)))))) (pss_cons (ps_set (i := 9) sc_law.nd rfl (.inl rfl) (pe_callB (call_max2F rfl) rfl T.z_max boot_max (pa_cons (pe_int) (pa_cons (pe_op op_addAny (pe_op op_mulA (pe_ix (ix_B (hu65 hr)) (pv 6) (pe_int) (fun _ _ => rfl)) (pv 7)) (pe_ix (ix_B (hu65 hr)) (pe_lst (pa_cons (pe_int) (pa_cons (pe_int) (pa_cons (pe_int) (pa_cons (pe_un un_neg (pe_int)) (pa_nil)))))) (pe_callF (ok_L_take T) (hr.mono (by decide)) rfl (pa_cons (pv 2) (pa_cons (pe_int) (pa_nil)))) (fun _ _ => rfl))) pa_nil)))) (pss_cons (ps_set (i := 10) sc_law.nd rfl (.inl rfl) (pe_op op_addAny (pe_op op_mulA (pe_ix (ix_B (hu65 hr)) (pv 6) (pe_int) (fun _ _ => rfl)) (pv 7)) (pe_ix (ix_B (hu65 hr)) (pe_lst (pa_cons (pe_int) (pa_cons (pe_int) (pa_cons (pe_int) (pa_cons (pe_int) (pa_nil)))))) (pe_callF (ok_L_take T) (hr.mono (by decide)) rfl (pa_cons (pv 2) (pa_cons (pe_int) (pa_nil)))) (fun _ _ => rfl)))) (pss_cons (ps_set (i := 13) sc_law.nd rfl (.inl rfl) (pe_callF (ok_L_ring_right T) (hr.mono (by decide)) rfl (pa_cons (pv 3) (pa_cons (pv 4) (pa_cons (pv 12) (pa_nil)))))) (pss_cons (ps_set (i := 14) sc_law.nd rfl (.inl rfl) (pe_and (pe_cmpR op_notNF (pv 13) (pe_non) (nomark _)) (pe_one (pe_cmpR (op_eqD hr.units) (pe_op op_mulA (pe_ix (ix_B (hu65 hr)) (pv 13) (pe_int) (fun _ _ => rfl)) (pv 10)) (pe_op op_mulA (pv 9) (pe_ix (ix_B (hu65 hr)) (pv 13) (pe_int) (fun _ _ => rfl))) (nomark _))))) (pss_one (ps_if (pt_not (pt_val (pe_callF (ok_L_same T) (hr.mono (by decide)) rfl (pa_cons (pe_callF (ok_ring_holds T) (hr.mono (by decide)) rfl (pa_cons (pv 3) (pa_cons (pv 4) (pa_cons (pv 9) (pa_cons (pv 10) (pa_cons (pv 12) (pa_nil))))))) (pa_cons (pv 14) (pa_nil)))))) (pss_one (ps_ret (pe_bl))) (pss_nil))))))))))))))))))))) (pss_one (ps_ret (pe_bl))),
    fn_ok (es_seq (es_for [1, 2, 3, 4, 5, 6, 7, 8, 9, 10, 11, 12, 13, 14] (ei_rng (ee_call2 rb_max (ar_e (ee_int)) (ar_e (ee_call2 rb_min (ar_e (ee_int)) (ar_e (ee_call1 ru_lenB (ar_v))))))) (eg_nm) (es_seq (es_asgO (eo_call (fn := fn_L_deck) (eac_e (ee_var) (eac_e (ee_var) (eac_nil))))) (es_seq (es_asg (ee_call (fn := fn_L_case) (eac_io (eac_e (ee_int) (eac_nil)))) (eg_tp (n := 2) (egs_cons (eg_nm) (egs_cons (eg_nm) (egs_nil))))) (es_seq (es_asg (ee_call (fn := fn_L_true_ring) (eac_io (eac_e (ee_var) (eac_e (ee_var) (eac_nil))))) eg_nm) (es_seq (es_asg (ee_call (fn := fn_L_ring_right) (eac_e (ee_var) (eac_e (ee_var) (eac_e (ee_var) (eac_nil))))) eg_nm) (es_seq (es_asg (ee_op rb_add (ar_e (ee_int)) (ar_e (ee_call (fn := fn_L_take) (eac_io (eac_e (ee_int) (eac_nil)))))) eg_nm) (es_seq (es_asg (ee_tup (ees_cons ((eo_listB (ar_e (ee_op rb_ixB (ar_v) (ar_e (ee_int))))).ee) (ees_cons ((eo_listB (ar_e (ee_op rb_ixB (ar_v) (ar_e (ee_int))))).ee) (ees_nil)))) eg_nm) (es_seq (es_asg (ee_op rb_mulA (ar_e (ee_op rb_ixB (ar_v) (ar_e (ee_int)))) (ar_v)) eg_nm) (es_seq (es_asg (ee_op rb_mulA (ar_e (ee_op rb_ixB (ar_v) (ar_e (ee_int)))) (ar_v)) eg_nm) (es_seq (es_if (et_or (et_test (ee_op (rb_isB true) (ar_e (ee_call (fn := fn_ring_holds) (eac_e (ee_var) (eac_e (ee_var) (eac_e (ee_var) (eac_e (ee_var) (eac_e (ee_var) (eac_nil)))))))) (ar_e (ee_bl)))) (et_test (ee_op rb_ne (ar_v) (ar_v)))) (es_ret (ee_bl)) (es_next)) (es_seq (es_if (et_and (et_test (ee_op rb_eq (ar_v) (ar_e (ee_int)))) (et_not (et_B (ee_call (fn := fn_L_long_right) (eac_io (eac_e (ee_var) (eac_e (ee_var) (eac_e (ee_var) (eac_e (ee_var) (eac_e (ee_var) (eac_nil))))))))))) (es_ret (ee_bl)) (es_next)) (es_for [9, 10, 11, 12, 13, 14] (ei_rng (ee_int)) (eg_nm) (es_seq (es_asg (ee_call (fn := fn_L_spoiled_ring) (eac_io (eac_e (ee_var) (eac_e (ee_var) (eac_nil))))) eg_nm) (es_seq (es_asg (ee_call2 rb_max (ar_e (ee_int)) (ar_e (ee_op rb_add (ar_e (ee_op rb_mulA (ar_e (ee_op rb_ixB (ar_v) (ar_e (ee_int)))) (ar_v))) (ar_e (ee_op rb_ixB (ar_e ((eo_lst (ees_cons (ee_int) (ees_cons (ee_int) (ees_cons (ee_int) (ees_cons (ee_un ru_neg (ar_e (ee_int))) (ees_nil)))))).ee)) (ar_e (ee_call (fn := fn_L_take) (eac_io (eac_e (ee_int) (eac_nil)))))))))) eg_nm) (es_seq (es_asg (ee_op rb_add (ar_e (ee_op rb_mulA (ar_e (ee_op rb_ixB (ar_v) (ar_e (ee_int)))) (ar_v))) (ar_e (ee_op rb_ixB (ar_e ((eo_lst (ees_cons (ee_int) (ees_cons (ee_int) (ees_cons (ee_int) (ees_cons (ee_int) (ees_nil)))))).ee)) (ar_e (ee_call (fn := fn_L_take) (eac_io (eac_e (ee_int) (eac_nil)))))))) eg_nm) (es_seq (es_asg (ee_call (fn := fn_L_ring_right) (eac_e (ee_var) (eac_e (ee_var) (eac_e (ee_var) (eac_nil))))) eg_nm) (es_seq (es_asg (ee_and (ee_op rb_notN (ar_v) (ar_e (ee_non))) (ee_op rb_eq (ar_e (ee_op rb_mulA (ar_e (ee_op rb_ixB (ar_v) (ar_e (ee_int)))) (ar_v))) (ar_e (ee_op rb_mulA (ar_v) (ar_e (ee_op rb_ixB (ar_v) (ar_e (ee_int)))))))) eg_nm) (es_if (et_not (et_B (ee_call (fn := fn_L_same) (eac_e (ee_call (fn := fn_ring_holds) (eac_e (ee_var) (eac_e (ee_var) (eac_e (ee_var) (eac_e (ee_var) (eac_e (ee_var) (eac_nil))))))) (eac_e (ee_var) (eac_nil)))))) (es_ret (ee_bl)) (es_next))))))))))))))))))) (es_ret (ee_bl))) rfl h⟩

theorem law_mk {l : PySem.W.OpenLaw} {w : World} {K : PySem.W.Frag} {h : Heap} {mg : Str → Option Value} {fa f : Addr} {oc : Value} {od an : Option Addr} {osl : Array (Option Value)} {kV doc pm cdv ct : Value} (X : K.In h) (G : h.Ns mainGlobals mg) (hfa : mg "law" = some (.ref fa))
    (a : PySem.W.nsIn K mainGlobals "law" = some (some (.ref f))) (lk : K.lookup f = some ⟨oc, od, .func (PySem.W.fnOf "law" "law" (defArgs s_law) (defBody s_law) (defScope s_law) .none kV doc pm an cdv ct), osl⟩) (c : PySem.W.codeIn K cdv "law" = true) (k : PySem.W.keepIn K (.ref f) = true)
    (d_L_deck : FunAt K mg "_law_deck" s_L_deck ["script", "k"])
    (d_L_take : FunAt K mg "_law_take" s_L_take ["deck", "many"])
    (d_L_sizes : FunAt K mg "_law_sizes" s_L_sizes ["deck", "most", "many"])
    (d_L_small_setup : FunAt K mg "_law_small_setup" s_L_small_setup ["deck"])
    (d_L_range : FunAt K mg "_law_range" s_L_range ["deck"])
    (d_L_rule : FunAt K mg "_law_rule" s_L_rule ["deck", "most", "moods", "parts"])
    (d_L_case : FunAt K mg "_law_case" s_L_case ["deck", "most"])
    (d_L_comers : FunAt K mg "_law_comers" s_L_comers ["deck", "setup"])
    (d_L_row : FunAt K mg "_law_row" s_L_row ["deck", "setup", "beats"])
    (d_L_fits : FunAt K mg "_law_fits" s_L_fits ["row", "mood", "front", "left", "singles"])
    (d_L_filled : FunAt K mg "_law_filled" s_L_filled ["rule", "line", "singles", "left", "mood"])
    (d_L_beat : FunAt K mg "_law_beat" s_L_beat ["setup", "rule", "state", "comers"])
    (d_L_run : FunAt K mg "_law_run" s_L_run ["setup", "rule", "state", "row"])
    (d_L_true_ring : FunAt K mg "_law_true_ring" s_L_true_ring ["deck", "setup", "rule"])
    (d_L_whole : FunAt K mg "_law_whole" s_L_whole ["thing", "low", "high"])
    (d_L_is_comers : FunAt K mg "_law_is_comers" s_L_is_comers ["setup", "thing"])
    (d_L_ring_right : FunAt K mg "_law_ring_right" s_L_ring_right ["setup", "rule", "ring"])
    (d_L_odd : FunAt K mg "_law_odd" s_L_odd ["deck"])
    (d_L_bad_comers : FunAt K mg "_law_bad_comers" s_L_bad_comers ["deck", "setup"])
    (d_L_spoiled_ring : FunAt K mg "_law_spoiled_ring" s_L_spoiled_ring ["deck", "setup", "ring"])
    (d_is_integer : FunAt K mg "is_integer" s_is_integer ["thing"])
    (d_is_number : FunAt K mg "is_number" s_is_number ["thing", "low", "high"])
    (d_are_numbers : FunAt K mg "are_numbers" s_are_numbers ["thing", "least", "most", "low", "high"])
    (d_are_most : FunAt K mg "are_most" s_are_most ["thing", "groups_low", "groups_high", "singles_high"])
    (d_is_setup : FunAt K mg "is_setup" s_is_setup ["thing"])
    (d_check_setup : FunAt K mg "check_setup" s_check_setup ["setup"])
    (d_is_range : FunAt K mg "is_range" s_is_range ["thing"])
    (d_is_rule_row : FunAt K mg "is_rule_row" s_is_rule_row ["thing"])
    (d_is_rule : FunAt K mg "is_rule" s_is_rule ["thing"])
    (d_check_both : FunAt K mg "check_both" s_check_both ["setup", "rule"])
    (d_check_fraction : FunAt K mg "check_fraction" s_check_fraction ["above", "below"])
    (d_let_in : FunAt K mg "let_in" s_let_in ["setup", "line", "singles", "comers"])
    (d_front_of : FunAt K mg "front_of" s_front_of ["line"])
    (d_can_be_done : FunAt K mg "can_be_done" s_can_be_done ["deed", "front", "left", "singles"])
    (d_fitting_row : FunAt K mg "fitting_row" s_fitting_row ["rule", "mood", "line", "singles", "left"])
    (d_seated : FunAt K mg "seated" s_seated ["deed", "line", "singles", "left"])
    (d_fill : FunAt K mg "fill" s_fill ["rule", "line", "singles", "seats", "mood"])
    (d_beat : FunAt K mg "beat" s_beat ["setup", "rule", "state", "comers"])
    (d_run : FunAt K mg "run" s_run ["setup", "rule", "state", "row"])
    (d_is_size : FunAt K mg "is_size" s_is_size ["setup", "thing"])
    (d_is_comers : FunAt K mg "is_comers" s_is_comers ["setup", "thing"])
    (d_row_fault : FunAt K mg "row_fault" s_row_fault ["setup", "row", "most"])
    (d_first_state : FunAt K mg "first_state" s_first_state [])
    (d_is_ring : FunAt K mg "is_ring" s_is_ring ["setup", "rule", "thing"])
    (d_ring_holds : FunAt K mg "ring_holds" s_ring_holds ["setup", "rule", "above", "below", "ring"])
    (d_L_same : FunAt K mg "_law_same" s_L_same ["told", "due"])
    (d_L_long_right : FunAt K mg "_law_long_right" s_L_long_right ["deck", "setup", "rule", "ring", "above", "below"])
    (z_abs : PySem.W.nsIn K mainGlobals "abs" = some none)
    (z_all : PySem.W.nsIn K mainGlobals "all" = some none)
    (z_bool : PySem.W.nsIn K mainGlobals "bool" = some none)
    (z_enumerate : PySem.W.nsIn K mainGlobals "enumerate" = some none)
    (z_int : PySem.W.nsIn K mainGlobals "int" = some none)
    (z_isinstance : PySem.W.nsIn K mainGlobals "isinstance" = some none)
    (z_len : PySem.W.nsIn K mainGlobals "len" = some none)
    (z_list : PySem.W.nsIn K mainGlobals "list" = some none)
    (z_max : PySem.W.nsIn K mainGlobals "max" = some none)
    (z_min : PySem.W.nsIn K mainGlobals "min" = some none)
    (z_range : PySem.W.nsIn K mainGlobals "range" = some none)
    (z_str : PySem.W.nsIn K mainGlobals "str" = some none)
    (z_sum : PySem.W.nsIn K mainGlobals "sum" = some none)
    (z_tuple : PySem.W.nsIn K mainGlobals "tuple" = some none)
    (z_zip : PySem.W.nsIn K mainGlobals "zip" = some none)
    (c_DEEDS : CoAt ⟨l.prog, w, K⟩ mg "DEEDS" D_DEEDS)
    (c_MOST_ROWS : CoAt ⟨l.prog, w, K⟩ mg "MOST_ROWS" D_MOST_ROWS)
    (c_START : CoAt ⟨l.prog, w, K⟩ mg "START" D_START) :
    ∃ fd : FuncData, (∀ (s : Shared) (v : Value), BindsTo s fd ⟨[v], []⟩ [("script", v)]) ∧ ∀ base : Heap, K.In base → base.Ns mainGlobals mg → FnOk l.prog w K mg base CX0 10 fa fd ["script"] (spD ⟨l.prog, w, K⟩ [false] fn_law) := by
  have e := hfa.symm.trans (PySem.W.mg_of X G a)
  cases e
  have T : Top ⟨l.prog, w, K⟩ mg := {d_L_deck := d_L_deck, d_L_take := d_L_take, d_L_sizes := d_L_sizes, d_L_small_setup := d_L_small_setup, d_L_range := d_L_range, d_L_rule := d_L_rule, d_L_case := d_L_case, d_L_comers := d_L_comers, d_L_row := d_L_row, d_L_fits := d_L_fits, d_L_filled := d_L_filled, d_L_beat := d_L_beat, d_L_run := d_L_run, d_L_true_ring := d_L_true_ring, d_L_whole := d_L_whole, d_L_is_comers := d_L_is_comers, d_L_ring_right := d_L_ring_right, d_L_odd := d_L_odd, d_L_bad_comers := d_L_bad_comers, d_L_spoiled_ring := d_L_spoiled_ring, d_is_integer := d_is_integer, d_is_number := d_is_number, d_are_numbers := d_are_numbers, d_are_most := d_are_most, d_is_setup := d_is_setup, d_check_setup := d_check_setup, d_is_range := d_is_range, d_is_rule_row := d_is_rule_row, d_is_rule := d_is_rule, d_check_both := d_check_both, d_check_fraction := d_check_fraction, d_let_in := d_let_in, d_front_of := d_front_of, d_can_be_done := d_can_be_done, d_fitting_row := d_fitting_row, d_seated := d_seated, d_fill := d_fill, d_beat := d_beat, d_run := d_run, d_is_size := d_is_size, d_is_comers := d_is_comers, d_row_fault := d_row_fault, d_first_state := d_first_state, d_is_ring := d_is_ring, d_ring_holds := d_ring_holds, d_L_same := d_L_same, d_L_long_right := d_L_long_right, z_abs := PySem.W.mg_none_of X G z_abs, z_all := PySem.W.mg_none_of X G z_all, z_bool := PySem.W.mg_none_of X G z_bool, z_enumerate := PySem.W.mg_none_of X G z_enumerate, z_int := PySem.W.mg_none_of X G z_int, z_isinstance := PySem.W.mg_none_of X G z_isinstance, z_len := PySem.W.mg_none_of X G z_len, z_list := PySem.W.mg_none_of X G z_list, z_max := PySem.W.mg_none_of X G z_max, z_min := PySem.W.mg_none_of X G z_min, z_range := PySem.W.mg_none_of X G z_range, z_str := PySem.W.mg_none_of X G z_str, z_sum := PySem.W.mg_none_of X G z_sum, z_tuple := PySem.W.mg_none_of X G z_tuple, z_zip := PySem.W.mg_none_of X G z_zip, c_DEEDS := c_DEEDS, c_MOST_ROWS := c_MOST_ROWS, c_START := c_START}
  exact ⟨PySem.W.fnOf "law" "law" (defArgs s_law) (defBody s_law) (defScope s_law) .none kV doc pm an cdv ct, fun s v => .of_eq rfl, fun base _ _ => ok_law (fun_mk lk c k) T⟩
theorem coAt_int {P : Program} {w : World} {K : PySem.W.Frag} {h : Heap} {mg : Str → Option Value} {x : Str} {z : Int} {t : Tok} (X : K.In h) (G : h.Ns mainGlobals mg) (a : PySem.W.nsIn K mainGlobals x = some (some (.int z t))) : CoAt ⟨P, w, K⟩ mg x (.int z) := ⟨.int z, _, PySem.W.mg_of X G a, ⟨_, rfl⟩, fun _ => .int z⟩
theorem coAt_ref {P : Program} {w : World} {K : PySem.W.Frag} {h : Heap} {mg : Str → Option Value} {x : Str} {p : Addr} {d : D} (X : K.In h) (G : h.Ns mainGlobals mg) (a : PySem.W.nsIn K mainGlobals x = some (some (.ref p))) (q : ∀ B, Dn ⟨P, w, K⟩ B (.ref p) d) : CoAt ⟨P, w, K⟩ mg x d := ⟨.ref p, _, PySem.W.mg_of X G a, rfl, q⟩
theorem dn_tup {P : Program} {w : World} {K : PySem.W.Frag} {p : Addr} {cl : Value} {od : Option Addr} {sl : Array (Option Value)} {its : Array Value} {n : Nat} {vs : List V} {ds : List D} (l : K.lookup p = some ⟨cl, od, .seq its n, sl⟩) (hc : cl = .type "tuple") (hs : its.size ≤ sizeLine) (hv : Vals vs its.toList) (h : ∀ B, Dns ⟨P, w, K⟩ B vs ds) : ∀ B, Dn ⟨P, w, K⟩ B (.ref p) (.tuple ds) := fun B => .tup (.inr ⟨_, its, n, l, hc, rfl, hs, hv⟩) (h B)
theorem dns_cons {P : Program} {w : World} {K : PySem.W.Frag} {v : V} {vs : List V} {d : D} {ds : List D} (h : ∀ B, Dn ⟨P, w, K⟩ B v d) (t : ∀ B, Dns ⟨P, w, K⟩ B vs ds) : ∀ B, Dns ⟨P, w, K⟩ B (v :: vs) (d :: ds) := fun B => .cons (h B) (t B)
end Fc
set_option maxHeartbeats 4000000
set_option Elab.async false
set_option linter.all false
set_option maxRecDepth 100000
namespace Fc
open PySem L2
section
variable (ρ : En) (d : D) (i j : Nat) (E E1 E2 A B : EF) (F U : SF) (T T1 : TF) (G : GF) (Gs : List D → En → Option En) (g : G2) (h : G1) (a b : Ar) (I I1 : IF)
/-! ### slots -/
@[simp] theorem slD_sh : slD (some (.sh d)) = some d := rfl
@[simp] theorem slD_ow : slD (some (.ow d)) = some d := rfl
@[simp] theorem slD_io : slD (some (.io d)) = some d := rfl
@[simp] theorem shD_sh : shD (some (.sh d)) = some d := rfl
@[simp] theorem ownD_ow : ownD (some (.ow d)) = some d := rfl
@[simp] theorem ownD_io : ownD (some (.io d)) = some d := rfl
@[simp] theorem ownD'_ow : ownD' (some (.ow d)) = some d := rfl
@[simp] theorem ownL_ow (ds : List D) : ownL (some (.ow (.list ds))) = some ds := rfl
@[simp] theorem ownL_io (ds : List D) : ownL (some (.io (.list ds))) = some ds := rfl
@[simp] theorem isIo_sh : isIo (some (.sh d)) = false := rfl
@[simp] theorem isIo_ow : isIo (some (.ow d)) = false := rfl
@[simp] theorem isIo_io : isIo (some (.io d)) = true := rfl
@[simp] theorem isIo_em : isIo (some .em) = false := rfl
@[simp] theorem kill_nil : kill [] ρ = ρ := rfl
def emp (i : Nat) (ρ : En) : En := if isIo ρ[i]? then ρ else ρ.set i .em
@[simp] theorem kill_cons (is : List Nat) (s : Sl) : kill (i :: is) (s :: ρ) = emp i (kill is (s :: ρ)) := rfl
@[simp] theorem emp_sh : emp 0 (.sh d :: ρ) = .em :: ρ := rfl
@[simp] theorem emp_ow : emp 0 (.ow d :: ρ) = .em :: ρ := rfl
@[simp] theorem emp_em : emp 0 (.em :: ρ) = .em :: ρ := rfl
@[simp] theorem emp_io : emp 0 (.io d :: ρ) = .io d :: ρ := rfl
@[simp] theorem emp_s (s : Sl) : emp (i + 1) (s :: ρ) = s :: emp i ρ := by
  unfold emp
  rw [List.getElem?_cons_succ, List.set_cons_succ]
  split <;> rfl
@[simp] theorem noIo_nil : noIo [] ρ = true := rfl
@[simp] theorem noIo_cons (is : List Nat) (s : Sl) : noIo (i :: is) (s :: ρ) = (!isIo (s :: ρ)[i]? && noIo is (s :: ρ)) := rfl
@[simp] theorem frz_ap : frz i ρ = match ρ[i]? with | some (.ow d) => some (ρ.set i (.sh d)) | some (.io _) => none | _ => some ρ := rfl
@[simp] theorem put1_ap : put1 i d ρ = match ρ[i]? with | some s => ρ.set i (s.put d) | none => ρ := rfl
@[simp] theorem put_ow (e : D) : Sl.put (.ow e) d = .ow d := rfl
@[simp] theorem put_io (e : D) : Sl.put (.io e) d = .io d := rfl
/-! ### expressions -/
@[simp] theorem eVar_ap : eVar i ρ = (shD ρ[i]?).bind fun d => some (d, ρ) := rfl
@[simp] theorem eC_ap : eC d ρ = some (d, ρ) := rfl
@[simp] theorem runE_nil : runE [] ρ = some ([], ρ) := rfl
@[simp] theorem runE_cons (Es : List EF) : runE (E :: Es) ρ = (E ρ).bind fun p => (runE Es p.2).bind fun q => some (p.1 :: q.1, q.2) := rfl
@[simp] theorem eTup_ap (Es : List EF) : eTup Es ρ = (runE Es ρ).bind fun p => some (.tuple p.1, p.2) := rfl
@[simp] theorem eLst_ap (Es : List EF) : eLst Es ρ = (runE Es ρ).bind fun p => some (.list p.1, p.2) := rfl
@[simp] theorem run_e : Ar.run (.e E) ρ = E ρ := rfl
@[simp] theorem run_v : Ar.run (.v i) ρ = (slD ρ[i]?).bind fun d => some (d, ρ) := rfl
@[simp] theorem get_e : Ar.get (.e E) d ρ = some d := rfl
@[simp] theorem get_v : Ar.get (.v i) d ρ = slD ρ[i]? := rfl
@[simp] theorem eUn_ap : eUn h a ρ = (a.run ρ).bind fun p => (a.get p.1 p.2).bind fun x => (h x).bind fun d => some (d, p.2) := by
  unfold eUn arg1
  cases a.run ρ with
  | none => rfl
  | some p =>
    show ((a.get p.1 p.2).bind _).bind _ = (a.get p.1 p.2).bind _
    cases a.get p.1 p.2 <;> rfl
@[simp] theorem eOp_ap : eOp g a b ρ = (a.run ρ).bind fun p => (b.run p.2).bind fun q => (a.get p.1 q.2).bind fun x => (b.get q.1 q.2).bind fun y => (g x y).bind fun d => some (d, q.2) := by
  unfold eOp arg2
  cases a.run ρ with
  | none => rfl
  | some p =>
    show ((b.run p.2).bind _).bind _ = (b.run p.2).bind _
    cases b.run p.2 with
    | none => rfl
    | some q =>
      show ((a.get p.1 q.2).bind _).bind _ = (a.get p.1 q.2).bind _
      cases a.get p.1 q.2 with
      | none => rfl
      | some x =>
        show ((b.get q.1 q.2).bind _).bind _ = (b.get q.1 q.2).bind _
        cases b.get q.1 q.2 <;> rfl
@[simp] theorem gI0_int (f : Int → Int → D) (x y : Int) : gI0 f (.int x) (.int y) = some (f x y) := rfl
@[simp] theorem gIC_int (c : Int → Int → Bool) (f : Int → Int → D) (x y : Int) : gIC c f (.int x) (.int y) = if c x y then some (f x y) else none := rfl
@[simp] theorem gMulA_int (x y : Int) : gMulA (.int x) (.int y) = gMul (.int x) (.int y) := rfl
@[simp] theorem gNeg_int (x : Int) : gNeg (.int x) = some (.int (-x)) := rfl
@[simp] theorem gBool_b (x : Bool) : gBool (.bool x) = some x := rfl
@[simp] theorem gInt_i (x : Int) : gInt (.int x) = some x := rfl
@[simp] theorem eChain_ap (p q : Int → Int → Bool) (A B C : EF) : eChain p q A B C ρ = (A ρ).bind fun x => (B x.2).bind fun y => (gInt x.1).bind fun i => (gInt y.1).bind fun j =>
  if p i j then (C y.2).bind fun z => (gInt z.1).bind fun l => some (.bool (q j l), z.2) else some (.bool false, y.2) := rfl
@[simp] theorem tOf_ap : tOf E ρ = (E ρ).bind fun p => (gBool p.1).bind fun b => some (b, p.2) := rfl
@[simp] theorem fAnd_ap : fAnd T T1 ρ = (T ρ).bind fun p => if p.1 then T1 p.2 else some (false, p.2) := rfl
@[simp] theorem fOr_ap : fOr T T1 ρ = (T ρ).bind fun p => if p.1 then some (true, p.2) else T1 p.2 := rfl
@[simp] theorem fNot_ap : fNot T ρ = (T ρ).bind fun p => some (!p.1, p.2) := rfl
@[simp] theorem eAnd_ap : eAnd A B ρ = (A ρ).bind fun p => (gBool p.1).bind fun b => if b then B p.2 else some (.bool false, p.2) := rfl
@[simp] theorem eOr_ap : eOr A B ρ = (A ρ).bind fun p => (gBool p.1).bind fun b => if b then some (.bool true, p.2) else B p.2 := rfl
@[simp] theorem eNot_ap : eNot A ρ = (A ρ).bind fun p => (gBool p.1).bind fun b => some (.bool (!b), p.2) := rfl
@[simp] theorem eIf_ap : eIf T A B ρ = (T ρ).bind fun p => if p.1 then A p.2 else B p.2 := rfl
@[simp] theorem gEq_ap (x y : D) : gEq x y = if okD x && okD y then some (.bool (PyData.eqv x y)) else none := rfl
@[simp] theorem gNe_ap (x y : D) : gNe x y = if okD x && okD y then some (.bool (!PyData.eqv x y)) else none := rfl
@[simp] theorem gIsN_ap (x : D) : gIsN x .none = some (.bool (isNoneD x)) := rfl
@[simp] theorem gNotN_ap (x : D) : gNotN x .none = some (.bool (!isNoneD x)) := rfl
@[simp] theorem isNone_none : isNoneD .none = true := rfl
@[simp] theorem isNone_int (x : Int) : isNoneD (.int x) = false := rfl
@[simp] theorem isNone_tuple (x : List D) : isNoneD (.tuple x) = false := rfl
@[simp] theorem isNone_list (x : List D) : isNoneD (.list x) = false := rfl
@[simp] theorem okD_int (x : Int) : okD (.int x) = true := by unfold okD SeqAt.shaped; simp [PyData.canLay0, PyData.depth]
@[simp] theorem okD_bool (x : Bool) : okD (.bool x) = true := by unfold okD SeqAt.shaped; simp [PyData.canLay0, PyData.depth]
theorem okD_str (x : Str) : okD (.str x) = PyData.strOk x := by unfold okD SeqAt.shaped; simp [PyData.canLay0, PyData.depth]
@[simp] theorem okD_none : okD .none = true := by unfold okD SeqAt.shaped; simp [PyData.canLay0, PyData.depth]
@[simp] theorem eqv_int (x y : Int) : PyData.eqv (.int x) (.int y) = (x == y) := by simp [PyData.eqv]
theorem eqv_str (x y : Str) : PyData.eqv (.str x) (.str y) = (x == y) := by simp [PyData.eqv]
@[simp] theorem gAdd_int (x y : Int) : gAdd (.int x) (.int y) = some (.int (x + y)) := rfl
@[simp] theorem gAdd_tup (x y : List D) : gAdd (.tuple x) (.tuple y) = if x.length + y.length ≤ 1000000 then some (.tuple (x ++ y)) else none := rfl
@[simp] theorem gAdd_lst (x y : List D) : gAdd (.list x) (.list y) = if x.length + y.length ≤ 1000000 then some (.list (x ++ y)) else none := rfl
@[simp] theorem gIx_lst (x : List D) (i : Int) : gIxA (.list x) (.int i) = atI x i := rfl
@[simp] theorem gIx_tup (x : List D) (i : Int) : gIxA (.tuple x) (.int i) = atI x i := rfl
@[simp] theorem gLen_lst (x : List D) : gLenA (.list x) = some (.int x.length) := rfl
@[simp] theorem gLen_tup (x : List D) : gLenA (.tuple x) = some (.int x.length) := rfl
@[simp] theorem gLen_scr (ns : List Int) : gLenA (scrD ns) = some (.int ns.length) := by
  show some (PyData.int ((ns.map PyData.int).length : Nat)) = _
  rw [List.length_map]
@[simp] theorem gIx_scr (ns : List Int) (i : Int) : gIxA (scrD ns) (.int i) = (atI ns i).map PyData.int := by
  show atI (ns.map PyData.int) i = _
  unfold atI
  rw [List.length_map]
  cases ixN ns.length i with
  | none => rfl
  | some j => exact List.getElem?_map ..
@[simp] theorem gToInt_int (x : Int) : gToInt (.int x) = some (.int x) := rfl
@[simp] theorem gToInt_bool (x : Bool) : gToInt (.bool x) = some (.int (if x then 1 else 0)) := rfl
@[simp] theorem gTuple_lst (x : List D) : gTuple (.list x) = some (.tuple x) := rfl
@[simp] theorem gTuple_tup (x : List D) : gTuple (.tuple x) = some (.tuple x) := rfl
@[simp] theorem gList_lst (x : List D) : gList (.list x) = some (.list x) := rfl
@[simp] theorem gList_tup (x : List D) : gList (.tuple x) = some (.list x) := rfl
@[simp] theorem gSum_map (ns : List Int) : gSum (.list (ns.map PyData.int)) = some (.int ns.sum) := by unfold gSum; simp
@[simp] theorem gAll_map (ns : List Bool) : gAll (.list (ns.map PyData.bool)) = some (.bool (ns.all id)) := by unfold gAll; simp
@[simp] theorem gIsi_int_int (x : Int) : gIsi "int" (.int x) = some (.bool true) := rfl
@[simp] theorem gIsi_int_bool (x : Int) : gIsi "bool" (.int x) = some (.bool false) := rfl
@[simp] theorem gIsi_tup (x : List D) : gIsi "tuple" (.tuple x) = some (.bool true) := rfl
@[simp] theorem gIsi_lst (x : List D) : gIsi "list" (.list x) = some (.bool true) := rfl
@[simp] theorem gIsi_str (x : Str) : gIsi "str" (.str x) = some (.bool true) := rfl
@[simp] theorem eSl_ap (L R : OF) : eSl a L R ρ = (a.run ρ).bind fun p => (L p.2).bind fun l => (R l.2).bind fun u => (a.get p.1 u.2).bind fun x => (gSl l.1 u.1 x).bind fun d => some (d, u.2) := rfl
@[simp] theorem eSlL_ap (L R : OF) : eSlL a L R ρ = (eSl a L R ρ).bind fun p => match p.1 with | .list ds => some (.list ds, p.2) | _ => none := rfl
@[simp] theorem oNone_ap : oNone ρ = some (none, ρ) := rfl
@[simp] theorem oSome_ap : oSome E ρ = (E ρ).bind fun p => (gInt p.1).bind fun i => some (some i, p.2) := rfl
@[simp] theorem gSl_lst (lo hi : Option Int) (ds : List D) : gSl lo hi (.list ds) = some (.list (cutD ds lo hi)) := rfl
@[simp] theorem gSl_tup (lo hi : Option Int) (ds : List D) : gSl lo hi (.tuple ds) = some (.tuple (cutD ds lo hi)) := rfl
/-! ### statements -/
@[simp] theorem gNm_ap (s : Sl) : gNm i d (s :: ρ) = if isIo (s :: ρ)[i]? then none else some ((s :: ρ).set i (.sh d)) := rfl
@[simp] theorem gsNil_ap : gsNil [] ρ = some ρ := rfl
@[simp] theorem gsCons_ap (ds : List D) : gsCons G Gs (d :: ds) ρ = (G d ρ).bind (Gs ds) := rfl
@[simp] theorem gTp_ap (n : Nat) (ds : List D) : gTp n Gs (.tuple ds) ρ = if ds.length = n then Gs ds ρ else none := rfl
@[simp] theorem sNext_ap : sNext ρ = some (.nx ρ) := rfl
@[simp] theorem sBreak_ap : sBreak ρ = some (.bk ρ) := rfl
@[simp] theorem sCont_ap : sCont ρ = some (.ct ρ) := rfl
@[simp] theorem sNever_ap : sNever ρ = none := rfl
@[simp] theorem sThen_nx : sThen (.nx ρ) U = U ρ := rfl
@[simp] theorem sThen_rt (r : Rs) : sThen (.rt r ρ) U = some (.rt r ρ) := rfl
@[simp] theorem sThen_bk : sThen (.bk ρ) U = some (.bk ρ) := rfl
@[simp] theorem sThen_ct : sThen (.ct ρ) U = some (.ct ρ) := rfl
@[simp] theorem sSeq_ap : sSeq F U ρ = (F ρ).bind fun o => sThen o U := rfl
@[simp] theorem sAsg_ap : sAsg E G ρ = (E ρ).bind fun p => (G p.1 p.2).bind fun ρ' => some (.nx ρ') := rfl
@[simp] theorem sAsgO_ap : sAsgO E i ρ = (E ρ).bind fun p => if isIo p.2[i]? then none else some (.nx (p.2.set i (.ow p.1))) := rfl
@[simp] theorem sDrop_ap : sDrop E ρ = (E ρ).bind fun p => some (.nx p.2) := rfl
@[simp] theorem sRet_ap : sRet E ρ = (E ρ).bind fun p => some (.rt (.sh p.1) p.2) := rfl
@[simp] theorem sRetO_ap : sRetO E ρ = (E ρ).bind fun p => some (.rt (.ow p.1) p.2) := rfl
@[simp] theorem sRetV_ap : sRetV i ρ = match ρ[i]? with | some (.ow d) => some (.rt (.ow d) (ρ.set i .em)) | _ => none := rfl
@[simp] theorem sRetP_ap : sRetP i E ρ = (ownD' ρ[i]?).bind fun _ => (E ρ).bind fun q => (ownD' q.2[i]?).bind fun d => some (.rt (.pr d q.1) (q.2.set i .em)) := rfl
@[simp] theorem sRetN_ap : sRetN ρ = some (.rt (.sh .none) ρ) := rfl
@[simp] theorem sIf_ap : sIf T F U ρ = (T ρ).bind fun p => if p.1 then F p.2 else U p.2 := rfl
@[simp] theorem sAug_ap (f : Int → Int → Int) : sAug i E f ρ = (shD ρ[i]?).bind fun x => (gInt x).bind fun a => (E ρ).bind fun p => (gInt p.1).bind fun b => if isIo p.2[i]? then none else some (.nx (p.2.set i (.sh (.int (f a b))))) := rfl
@[simp] theorem sPar_ap : sPar i j E1 E2 ρ = (E1 ρ).bind fun p => (E2 p.2).bind fun q => if isIo q.2[i]? || isIo q.2[j]? || i == j then none else some (.nx ((q.2.set i (.sh p.1)).set j (.sh q.1))) := rfl
@[simp] theorem sFrz_ap : sFrz i F ρ = (frz i ρ).bind F := rfl
@[simp] theorem iOf_ap : iOf E ρ = (E ρ).bind fun p => (seqD p.1).bind fun ds => some (ds, p.2) := rfl
@[simp] theorem seqD_l (x : List D) : seqD (.list x) = some x := rfl
@[simp] theorem seqD_t (x : List D) : seqD (.tuple x) = some x := rfl
def rng0 (n : Int) : List Int := (List.range n.toNat).map fun k : Nat => (k : Int)
def rng2 (m n : Int) : List Int := (List.range (n - m).toNat).map fun k : Nat => m + (k : Int)
@[simp] theorem rngD_ok {n : Int} (h : n ≤ 1000000 ∧ -1000000 ≤ n) : rngD n ρ = some ((rng0 n).map PyData.int, ρ) := by
  unfold rng0
  rw [rngD_eq, if_pos h, List.map_map]
  rfl
@[simp] theorem rng2D_ok {m n : Int} (h : n ≤ 1000000 ∧ -1000000 ≤ n ∧ m ≤ 1000000 ∧ -1000000 ≤ m) : rng2D m n ρ = some ((rng2 m n).map PyData.int, ρ) := by
  unfold rng2
  rw [rng2D_eq, if_pos h, List.map_map]
  rfl
@[simp] theorem iRng_ap : iRng E ρ = (E ρ).bind fun p => (gInt p.1).bind fun n => rngD n p.2 := rfl
@[simp] theorem iRng2_ap : Fc.iRng2 E1 E2 ρ = (E1 ρ).bind fun p => (E2 p.2).bind fun q => (gInt p.1).bind fun m => (gInt q.1).bind fun n => rng2D m n q.2 := rfl
def zipD (x y : D) (ρ : En) : Option (List D × En) := match x, y with
  | .list a, .list b => some ((a.zip b).map fun z => .tuple [z.1, z.2], ρ)
  | .tuple a, .tuple b => some ((a.zip b).map fun z => .tuple [z.1, z.2], ρ)
  | _, _ => none
@[simp] theorem zipD_l (a b : List D) : zipD (.list a) (.list b) ρ = some ((a.zip b).map fun z => .tuple [z.1, z.2], ρ) := rfl
@[simp] theorem zipD_t (a b : List D) : zipD (.tuple a) (.tuple b) ρ = some ((a.zip b).map fun z => .tuple [z.1, z.2], ρ) := rfl
@[simp] theorem iZp_ap : iZp E1 E2 ρ = (E1 ρ).bind fun p => (E2 p.2).bind fun q => zipD p.1 q.1 q.2 := rfl
def enD (x : D) (ρ : En) : Option (List D × En) := match x with | .list a => some (enumD 0 a, ρ) | _ => none
@[simp] theorem enD_l (a : List D) : enD (.list a) ρ = some (enumD 0 a, ρ) := rfl
@[simp] theorem iEn_ap : iEn E ρ = (E ρ).bind fun p => enD p.1 p.2 := rfl
@[simp] theorem sFor_ap (dead : List Nat) : sFor I G F dead ρ = (I ρ).bind fun p => forL G F dead p.1 (kill dead p.2) := rfl
@[simp] theorem tfYes_ap : tfYes ρ = some (true, ρ) := rfl
@[simp] theorem eLc_ap (vs : List Nat) : eLc vs I G T E ρ = (I ρ).bind fun p => if noIo vs p.2 then (lcL vs G T E p.1 [] (kill vs p.2)).bind fun q => some (.list q.1, q.2) else none := rfl
@[simp] theorem eApp_ap : eApp i E ρ = (ownL ρ[i]?).bind fun _ => (E ρ).bind fun p => (ownL p.2[i]?).bind fun ds => if ds.length < 1000000 then some (.none, put1 i (.list (ds ++ [p.1])) p.2) else none := rfl
@[simp] theorem extD_l (ds es : List D) : extD i ds (.list es) ρ = if ds.length + es.length ≤ 1000000 then some (.none, put1 i (.list (ds ++ es)) ρ) else none := rfl
@[simp] theorem extD_t (ds es : List D) : extD i ds (.tuple es) ρ = if ds.length + es.length ≤ 1000000 then some (.none, put1 i (.list (ds ++ es)) ρ) else none := rfl
@[simp] theorem eExt_ap : eExt i E ρ = (ownL ρ[i]?).bind fun _ => (E ρ).bind fun p => (ownL p.2[i]?).bind fun ds => extD i ds p.1 p.2 := rfl
@[simp] theorem eClear_ap : eClear i ρ = (ownL ρ[i]?).bind fun ds => some (.none, put1 i (.list []) ρ) := rfl
@[simp] theorem setD_l (ds : List D) (y v : D) : setD (.list ds) y v = (gInt y).bind fun k => (ixN ds.length k).bind fun j => some (.list (ds.set j v)) := rfl
@[simp] theorem getD_l (ds : List D) (y : D) : getD' (.list ds) y = (gInt y).bind fun k => atI ds k := rfl
@[simp] theorem sSetA_ap : sSetA i E E1 ρ = (E ρ).bind fun p => (ownD p.2[i]?).bind fun _ => (E1 p.2).bind fun q => (ownD q.2[i]?).bind fun d => (setD d q.1 p.1).bind fun z => some (.nx (put1 i z q.2)) := rfl
@[simp] theorem sAugA_ap (f : Int → Int → Int) : sAugA i E E1 f ρ = (ownD ρ[i]?).bind fun _ => (E ρ).bind fun q => (ownD q.2[i]?).bind fun d => (getD' d q.1).bind fun x => (gInt x).bind fun a => (E1 q.2).bind fun p => (gInt p.1).bind fun b => (ownD p.2[i]?).bind fun d2 => (setD d2 q.1 (.int (f a b))).bind fun z => some (.nx (put1 i z p.2)) := rfl
@[simp] theorem eDic0_ap : eDic0 ρ = some (.dict [], ρ) := rfl
@[simp] theorem eDic1_ap : eDic1 E1 E2 ρ = (E1 ρ).bind fun p => (E2 p.2).bind fun q => (keyN p.1).bind fun n => some (.dict [(p.1, q.1)], q.2) := rfl
@[simp] theorem eLc2_ap (vs vs1 : List Nat) : eLc2 vs vs1 I G T I1 (gNm j) T1 E ρ = (I ρ).bind fun p => if noIo vs p.2 then (lc2L vs vs1 G T I1 (gNm j) T1 E p.1 [] (kill vs p.2)).bind fun q => some (.list q.1, q.2) else none := rfl
@[simp] theorem runC_nil : runC [] ρ = some ([], ρ) := rfl
@[simp] theorem runC_e (cs : List CA) : runC (.e E :: cs) ρ = (E ρ).bind fun p => (runC cs p.2).bind fun q => some (p.1 :: q.1, q.2) := rfl
@[simp] theorem runC_io (cs : List CA) : runC (.io i :: cs) ρ = (ownD ρ[i]?).bind fun _ => (runC cs ρ).bind fun q => some (.none :: q.1, q.2) := rfl
@[simp] theorem getC_nil (ds : List D) : getC [] ds ρ = some [] := rfl
@[simp] theorem getC_e (cs : List CA) (ds : List D) : getC (.e E :: cs) (d :: ds) ρ = (getC cs ds ρ).map (d :: ·) := rfl
@[simp] theorem getC_io (cs : List CA) (ds : List D) : getC (.io i :: cs) (d :: ds) ρ = (ownD ρ[i]?).bind fun d => (getC cs ds ρ).map (d :: ·) := rfl
@[simp] theorem ioI_nil : ioI [] = [] := rfl
@[simp] theorem ioI_e (cs : List CA) : ioI (.e E :: cs) = ioI cs := rfl
@[simp] theorem ioI_io (cs : List CA) : ioI (.io i :: cs) = i :: ioI cs := rfl
@[simp] theorem putL_nil (es : List D) : putL [] es ρ = ρ := by unfold putL; rfl
@[simp] theorem putL_cons (is : List Nat) (es : List D) : putL (i :: is) (d :: es) ρ = putL is es (put1 i d ρ) := rfl
@[simp] theorem eCall_ap (cs : List CA) (us : List D) (fn : List D → Option (Rs × List D)) : eCall cs us fn ρ = (runC cs ρ).bind fun p => (getC cs p.1 p.2).bind fun ds => (fn (ds ++ us)).bind fun q => match q.1 with
  | .sh d => some (d, putL (ioI cs) q.2 p.2)
  | _ => none := rfl
@[simp] theorem eCallO_ap (cs : List CA) (us : List D) (fn : List D → Option (Rs × List D)) : eCallO cs us fn ρ = (runC cs ρ).bind fun p => (getC cs p.1 p.2).bind fun ds => (fn (ds ++ us)).bind fun q => match q.1 with
  | .ow d => some (d, putL (ioI cs) q.2 p.2)
  | _ => none := rfl
@[simp] theorem eCallP0_ap (cs : List CA) (us : List D) (fn : List D → Option (Rs × List D)) : eCallP0 cs us fn ρ = (runC cs ρ).bind fun p => (getC cs p.1 p.2).bind fun ds => (fn (ds ++ us)).bind fun q => match q.1 with
  | .pr d _ => some (d, putL (ioI cs) q.2 p.2)
  | _ => none := rfl
@[simp] theorem eCallP1_ap (cs : List CA) (us : List D) (fn : List D → Option (Rs × List D)) : eCallP1 cs us fn ρ = (runC cs ρ).bind fun p => (getC cs p.1 p.2).bind fun ds => (fn (ds ++ us)).bind fun q => match q.1 with
  | .pr _ d => some (d, putL (ioI cs) q.2 p.2)
  | _ => none := rfl
@[simp] theorem mkEnv_f (ks : List Bool) (ds : List D) (m : Nat) : mkEnv (false :: ks) (d :: ds) m = .sh d :: mkEnv ks ds m := rfl
@[simp] theorem mkEnv_t (ks : List Bool) (ds : List D) (m : Nat) : mkEnv (true :: ks) (d :: ds) m = .io d :: mkEnv ks ds m := rfl
@[simp] theorem mkEnv_n (m : Nat) : mkEnv [] [] m = List.replicate m .em := rfl
@[simp] theorem iosD_n (k : Nat) : iosD k [] ρ = [] := rfl
@[simp] theorem iosD_t (k : Nat) (ks : List Bool) : iosD k (true :: ks) ρ = ((ownD ρ[k]?).getD .none) :: iosD (k + 1) ks ρ := rfl
@[simp] theorem iosD_f (k : Nat) (ks : List Bool) : iosD k (false :: ks) ρ = iosD (k + 1) ks ρ := rfl
@[simp] theorem fnR_ap (ks : List Bool) (m : Nat) (ds : List D) : fnR ks m F ds = (F (mkEnv ks ds m)).bind fun o => match o with
  | .rt r ρ => some (r, iosD 0 ks ρ)
  | .nx ρ => some (.sh .none, iosD 0 ks ρ)
  | _ => none := rfl
end
@[simp] theorem atI_0 {α : Type} (x : α) (xs : List α) : atI (x :: xs) 0 = some x := atI_nat (j := 0) rfl
@[simp] theorem atI_1 {α : Type} (x y : α) (xs : List α) : atI (x :: y :: xs) 1 = some y := atI_nat (j := 1) rfl
@[simp] theorem atI_2 {α : Type} (x y z : α) (xs : List α) : atI (x :: y :: z :: xs) 2 = some z := atI_nat (j := 2) rfl
@[simp] theorem atI_3 {α : Type} (x y z w : α) (xs : List α) : atI (x :: y :: z :: w :: xs) 3 = some w := atI_nat (j := 3) rfl
@[simp] theorem atI_4 {α : Type} (x y z w v : α) (xs : List α) : atI (x :: y :: z :: w :: v :: xs) 4 = some v := atI_nat (j := 4) rfl
@[simp] theorem atI_5 {α : Type} (x y z w v u : α) (xs : List α) : atI (x :: y :: z :: w :: v :: u :: xs) 5 = some u := atI_nat (j := 5) rfl
@[simp] theorem ixN_0 (n : Nat) : ixN (n + 1) 0 = some 0 := by unfold ixN; simp
@[simp] theorem ixN_1 (n : Nat) : ixN (n + 1 + 1) 1 = some 1 := by unfold ixN; rw [if_pos (by decide), if_pos (by omega)]; rfl
def mx (i j : Int) : Int := if j > i then j else i
def mn (i j : Int) : Int := if j < i then j else i
def ab (i : Int) : Int := if i < 0 then -i else i
@[simp] theorem gAbs_ab (x : Int) : gAbs (.int x) = some (.int (ab x)) := rfl
@[simp high] theorem gMin_mn (i j : Int) : gI0 (fun i j => PyData.int (if j < i then j else i)) (.int i) (.int j) = some (.int (mn i j)) := rfl
@[simp high] theorem gMax_mx (i j : Int) : gI0 (fun i j => PyData.int (if j > i then j else i)) (.int i) (.int j) = some (.int (mx i j)) := rfl
@[simp] theorem ite_b1 (c : Prop) [Decidable c] (b : Bool) (ρ : En) : (if c then some (PyData.bool b, ρ) else some (PyData.bool false, ρ)) = some (PyData.bool (decide c && b), ρ) := by by_cases h : c <;> simp [h]
@[simp] theorem ite_b2 (c : Prop) [Decidable c] (b : Bool) (ρ : En) : (if c then some (PyData.bool true, ρ) else some (PyData.bool b, ρ)) = some (PyData.bool (decide c || b), ρ) := by by_cases h : c <;> simp [h]
@[simp] theorem ite_t1 (c : Prop) [Decidable c] (b : Bool) (ρ : En) : (if c then some (b, ρ) else some (false, ρ)) = some (decide c && b, ρ) := by by_cases h : c <;> simp [h]
@[simp] theorem ite_t2 (c : Prop) [Decidable c] (b : Bool) (ρ : En) : (if c then some (true, ρ) else some (b, ρ)) = some (decide c || b, ρ) := by by_cases h : c <;> simp [h]
theorem lcL_ind {vs : List Nat} {G : GF} {T : TF} {E : EF} {P : List D → List D → En → Prop} (step : ∀ d ds acc ρ, P (d :: ds) acc ρ → ∃ acc' ρ', lcL vs G T E (d :: ds) acc ρ = lcL vs G T E ds acc' ρ' ∧ P ds acc' ρ') :
    ∀ ds acc ρ, P ds acc ρ → ∃ acc' ρ', lcL vs G T E ds acc ρ = some (acc', ρ') ∧ P [] acc' ρ'
  | [], acc, ρ, h => ⟨acc, ρ, rfl, h⟩
  | d :: ds, acc, ρ, h => by
    obtain ⟨acc', ρ', e, h'⟩ := step d ds acc ρ h
    obtain ⟨a2, r2, e2, h2⟩ := lcL_ind step ds acc' ρ' h'
    exact ⟨a2, r2, e.trans e2, h2⟩
theorem lcL_cons (vs : List Nat) (G : GF) (T : TF) (E : EF) (d : D) (ds acc : List D) (ρ : En) : lcL vs G T E (d :: ds) acc ρ = (G d ρ).bind fun ρ1 => (T ρ1).bind fun p => if p.1 then (E p.2).bind fun q => if acc.length < 1000000 ∧ noIo vs q.2 then lcL vs G T E ds (acc ++ [q.1]) (kill vs q.2) else none
    else if noIo vs p.2 then lcL vs G T E ds acc (kill vs p.2) else none := rfl
theorem lcL_nil (vs : List Nat) (G : GF) (T : TF) (E : EF) (acc : List D) (ρ : En) : lcL vs G T E [] acc ρ = some (acc, ρ) := rfl
theorem forL_nil (G : GF) (F : SF) (dead : List Nat) (ρ : En) : forL G F dead [] ρ = some (.nx ρ) := rfl
theorem forL_cons (G : GF) (F : SF) (dead : List Nat) (d : D) (ds : List D) (ρ : En) : forL G F dead (d :: ds) ρ = (G d ρ).bind fun ρ1 => (F ρ1).bind fun o => match o with
    | .nx ρ2 => forL G F dead ds (kill dead ρ2)
    | .ct ρ2 => forL G F dead ds (kill dead ρ2)
    | .bk ρ2 => some (.nx (kill dead ρ2))
    | .rt r ρ2 => some (.rt r ρ2) := rfl
theorem forL_ind {G : GF} {F : SF} {dead : List Nat} {P : List D → En → Prop} (step : ∀ d ds ρ, P (d :: ds) ρ → ∃ ρ', forL G F dead (d :: ds) ρ = forL G F dead ds ρ' ∧ P ds ρ') :
    ∀ ds ρ, P ds ρ → ∃ ρ', forL G F dead ds ρ = some (.nx ρ') ∧ P [] ρ'
  | [], ρ, h => ⟨ρ, rfl, h⟩
  | d :: ds, ρ, h => by
    obtain ⟨ρ', e, h'⟩ := step d ds ρ h
    obtain ⟨r2, e2, h2⟩ := forL_ind step ds ρ' h'
    exact ⟨r2, e.trans e2, h2⟩
@[simp] theorem rng0_len (n : Int) : (rng0 n).length = n.toNat := by unfold rng0; rw [List.length_map, List.length_range]
theorem rng2_len (m n : Int) : (rng2 m n).length = (n - m).toNat := by unfold rng2; rw [List.length_map, List.length_range]
theorem rng2_mem {m n x : Int} (h : x ∈ rng2 m n) : m ≤ x ∧ x < n := by
  unfold rng2 at h
  obtain ⟨k, hk, rfl⟩ := List.mem_map.mp h
  rw [List.mem_range] at hk
  omega
theorem rng0_mem {n x : Int} (h : x ∈ rng0 n) : 0 ≤ x ∧ x < n := by
  unfold rng0 at h
  obtain ⟨k, hk, rfl⟩ := List.mem_map.mp h
  rw [List.mem_range] at hk
  omega
theorem rng2_up (m n : Int) : (rng2 m n).Pairwise (· < ·) := by
  unfold rng2
  rw [List.pairwise_map]
  exact List.pairwise_lt_range.imp fun h => by omega
theorem rng0_get {n : Int} {i : Nat} (h : i < n.toNat) : (rng0 n)[i]? = some (i : Int) := by
  unfold rng0
  rw [List.getElem?_map, List.getElem?_range h]
  rfl
end Fc
set_option maxHeartbeats 4000000
set_option Elab.async false
set_option linter.all false
set_option maxRecDepth 100000
namespace Fc
open PySem L2
/-! ### data that may be compared -/
def Ok (n : Nat) (d : D) : Prop := d.canLay0 = true ∧ d.depth ≤ n
theorem Ok.int {n : Nat} (x : Int) : Ok n (.int x) := ⟨rfl, Nat.zero_le _⟩
theorem Ok.bool {n : Nat} (x : Bool) : Ok n (.bool x) := ⟨rfl, Nat.zero_le _⟩
theorem Ok.str {n : Nat} {x : Str} (h : PyData.strOk x = true) : Ok n (.str x) := ⟨h, Nat.zero_le _⟩
theorem ok_all {n : Nat} : ∀ {ds : List D}, (∀ d ∈ ds, Ok n d) → PyData.canLayAll0 ds = true ∧ PyData.depthAll ds ≤ n
  | [], _ => ⟨rfl, Nat.zero_le _⟩
  | d :: ds, h => by
    obtain ⟨h1, h2⟩ := ok_all fun e he => h e (List.mem_cons_of_mem _ he)
    obtain ⟨h3, h4⟩ := h d List.mem_cons_self
    exact ⟨by rw [PyData.canLayAll0, h3, h1]; rfl, by rw [PyData.depthAll]; exact Nat.max_le.mpr ⟨h4, h2⟩⟩
theorem Ok.lst {n : Nat} {ds : List D} (h : ∀ d ∈ ds, Ok n d) : Ok (n + 1) (.list ds) := ⟨by rw [PyData.canLay0]; exact (ok_all h).1, by rw [PyData.depth]; exact Nat.succ_le_succ (ok_all h).2⟩
theorem Ok.tup {n : Nat} {ds : List D} (h : ∀ d ∈ ds, Ok n d) : Ok (n + 1) (.tuple ds) := ⟨by rw [PyData.canLay0]; exact (ok_all h).1, by rw [PyData.depth]; exact Nat.succ_le_succ (ok_all h).2⟩
theorem Ok.mono {n m : Nat} {d : D} (h : Ok n d) (l : n ≤ m) : Ok m d := ⟨h.1, Nat.le_trans h.2 l⟩
theorem Ok.ok {n : Nat} {d : D} (h : Ok n d) (l : n ≤ 64 := by decide) : okD d = true := by
  unfold okD SeqAt.shaped
  rw [h.1, decide_eq_true (Nat.le_trans h.2 l)]
  rfl
theorem Ok.map {n : Nat} {α : Type} {e : α → D} (h : ∀ a, Ok n (e a)) (xs : List α) : ∀ d ∈ xs.map e, Ok n d := fun d hd => by
  obtain ⟨a, _, rfl⟩ := List.mem_map.mp hd
  exact h a
theorem Ok.map' {n : Nat} {α : Type} {e : α → D} {xs : List α} (h : ∀ a ∈ xs, Ok n (e a)) : ∀ d ∈ xs.map e, Ok n d := fun d hd => by
  obtain ⟨a, ha, rfl⟩ := List.mem_map.mp hd
  exact h a ha
theorem eqvAll_map {α : Type} [DecidableEq α] {e : α → D} (h : ∀ a b, PyData.eqv (e a) (e b) = decide (a = b)) : ∀ xs ys : List α, PyData.eqvAll (xs.map e) (ys.map e) = decide (xs = ys)
  | [], [] => by rw [List.map_nil, PyData.eqvAll]; rfl
  | [], y :: ys => by rw [List.map_nil, List.map_cons, PyData.eqvAll]; rfl
  | x :: xs, [] => by rw [List.map_nil, List.map_cons, PyData.eqvAll]; rfl
  | x :: xs, y :: ys => by
    rw [List.map_cons, List.map_cons, PyData.eqvAll, h, eqvAll_map h xs ys]
    by_cases h1 : x = y <;> by_cases h2 : xs = ys <;> simp [h1, h2]
theorem eqv_tup (x y : List D) : PyData.eqv (.tuple x) (.tuple y) = PyData.eqvAll x y := by rw [PyData.eqv]
theorem eqv_lst (x y : List D) : PyData.eqv (.list x) (.list y) = PyData.eqvAll x y := by rw [PyData.eqv]
theorem eqvAll_cons (x y : D) (xs ys : List D) : PyData.eqvAll (x :: xs) (y :: ys) = (PyData.eqv x y && PyData.eqvAll xs ys) := by rw [PyData.eqvAll]
theorem eqvAll_nil : PyData.eqvAll [] [] = true := by rw [PyData.eqvAll]
/-! ### typed data -/
def eTI (xs : List Int) : D := .tuple (xs.map PyData.int)
def eP (p : Int × Int) : D := .tuple [.int p.1, .int p.2]
structure Setup where
  seats : List Int
  sizes : List Int
  rooms : Int × Int
  comers : Int × Int
def eSetup (s : Setup) : D := .tuple [eTI s.seats, eTI s.sizes, eP s.rooms, eP s.comers]
inductive Dk where
  | group | single | part | go
  deriving DecidableEq
def Dk.s : Dk → Str
  | .group => "group"
  | .single => "single"
  | .part => "part"
  | .go => "go"
structure Rw where
  mood : Int
  front : Int × Int
  left : Int × Int
  waiting : Int × Int
  deed : Dk
  after : Int
def eRw (r : Rw) : D := .tuple [.int r.mood, eP r.front, eP r.left, eP r.waiting, .str r.deed.s, .int r.after]
def eRule (rs : List Rw) : D := .tuple (rs.map eRw)
structure Com where
  groups : List Int
  singles : Int
  deriving DecidableEq
def eCom (c : Com) : D := .tuple [eTI c.groups, .int c.singles]
structure Sta where
  turn : Int
  line : List Int
  singles : Int
  mood : Int
  deriving DecidableEq
def eSta (s : Sta) : D := .tuple [.int s.turn, eTI s.line, .int s.singles, .int s.mood]
structure Chair where
  deeds : List (Dk × Int)
  left : Int
  lost : Int
  away : Int × Int
  deriving DecidableEq
def eDd (d : Dk × Int) : D := .tuple [.str d.1.s, .int d.2]
def eChair (c : Chair) : D := .tuple [.tuple (c.deeds.map eDd), .int c.left, .int c.lost, eP c.away]
@[simp] theorem strOk_s (d : Dk) : PyData.strOk d.s = true := by cases d <;> decide +kernel
theorem ok_eTI (xs : List Int) : Ok 1 (eTI xs) := .tup (Ok.map (fun a => .int a) xs)
theorem ok_eP (p : Int × Int) : Ok 1 (eP p) := .tup (by simp [Ok.int])
theorem ok_eCom (c : Com) : Ok 2 (eCom c) := .tup (by simp [Ok.int, ok_eTI])
theorem ok_eSta (s : Sta) : Ok 2 (eSta s) := .tup (by simp [Ok.int, ok_eTI])
theorem ok_eDd (s : Dk × Int) : Ok 1 (eDd s) := .tup (by simp [Ok.int, Ok.str])
theorem ok_eChair (s : Chair) : Ok 3 (eChair s) := .tup (by
  simp only [List.mem_cons, List.not_mem_nil, or_false, forall_eq_or_imp, forall_eq]
  exact ⟨.tup (Ok.map ok_eDd _), .int _, .int _, (ok_eP _).mono (by decide)⟩)
@[simp] theorem okD_eTI (xs : List Int) : okD (eTI xs) = true := (ok_eTI xs).ok
@[simp] theorem okD_nilT : okD (.tuple []) = true := (Ok.tup (n := 0) (by simp)).ok
@[simp] theorem okD_nilL : okD (.list []) = true := (Ok.lst (n := 0) (by simp)).ok
@[simp] theorem okD_eSta (s : Sta) : okD (eSta s) = true := (ok_eSta s).ok
@[simp] theorem okD_chairs (cs : List Chair) : okD (.list (cs.map eChair)) = true := (Ok.lst (Ok.map ok_eChair cs)).ok
@[simp] theorem okD_coms (cs : List Com) : okD (.list (cs.map eCom)) = true := (Ok.lst (Ok.map ok_eCom cs)).ok
theorem eqv_i (a b : Int) : PyData.eqv (.int a) (.int b) = decide (a = b) := by rw [eqv_int]; rfl
@[simp] theorem eqv_eTI (xs ys : List Int) : PyData.eqv (eTI xs) (eTI ys) = decide (xs = ys) := by unfold eTI; rw [eqv_tup, eqvAll_map eqv_i]
@[simp] theorem eqv_eTI_nil (xs : List Int) : PyData.eqv (eTI xs) (.tuple []) = decide (xs = []) := eqv_eTI xs []
@[simp] theorem eqv_s (a b : Dk) : PyData.eqv (.str a.s) (.str b.s) = decide (a = b) := by cases a <;> cases b <;> decide +kernel
@[simp] theorem eqv_group (a : Dk) : PyData.eqv (.str a.s) (.str "group") = decide (a = .group) := eqv_s a .group
@[simp] theorem eqv_single (a : Dk) : PyData.eqv (.str a.s) (.str "single") = decide (a = .single) := eqv_s a .single
@[simp] theorem eqv_part (a : Dk) : PyData.eqv (.str a.s) (.str "part") = decide (a = .part) := eqv_s a .part
@[simp] theorem eqv_go (a : Dk) : PyData.eqv (.str a.s) (.str "go") = decide (a = .go) := eqv_s a .go
@[simp] theorem okD_group : okD (.str "group") = true := (Ok.str (n := 0) (strOk_s .group)).ok
@[simp] theorem okD_single : okD (.str "single") = true := (Ok.str (n := 0) (strOk_s .single)).ok
@[simp] theorem okD_part : okD (.str "part") = true := (Ok.str (n := 0) (strOk_s .part)).ok
@[simp] theorem okD_go : okD (.str "go") = true := (Ok.str (n := 0) (strOk_s .go)).ok
@[simp] theorem okD_s (d : Dk) : okD (.str d.s) = true := (Ok.str (n := 0) (strOk_s d)).ok
@[simp] theorem eqv_eP (a b : Int × Int) : PyData.eqv (eP a) (eP b) = decide (a = b) := by
  obtain ⟨a1, a2⟩ := a
  obtain ⟨b1, b2⟩ := b
  simp only [eP, eqv_tup, eqvAll_cons, eqvAll_nil, eqv_i, Bool.and_true, Prod.mk.injEq, Bool.decide_and]
@[simp] theorem eqv_eCom (a b : Com) : PyData.eqv (eCom a) (eCom b) = decide (a = b) := by
  obtain ⟨a1, a2⟩ := a
  obtain ⟨b1, b2⟩ := b
  simp only [eCom, eqv_tup, eqvAll_cons, eqvAll_nil, eqv_i, eqv_eTI, Bool.and_true, Com.mk.injEq, Bool.decide_and]
@[simp] theorem eqv_eSta (a b : Sta) : PyData.eqv (eSta a) (eSta b) = decide (a = b) := by
  obtain ⟨a1, a2, a3, a4⟩ := a
  obtain ⟨b1, b2, b3, b4⟩ := b
  simp only [eSta, eqv_tup, eqvAll_cons, eqvAll_nil, eqv_i, eqv_eTI, Bool.and_true, Sta.mk.injEq, Bool.decide_and]
theorem eqv_eDd (a b : Dk × Int) : PyData.eqv (eDd a) (eDd b) = decide (a = b) := by
  obtain ⟨a1, a2⟩ := a
  obtain ⟨b1, b2⟩ := b
  simp only [eDd, eqv_tup, eqvAll_cons, eqvAll_nil, eqv_i, eqv_s, Bool.and_true, Prod.mk.injEq, Bool.decide_and]
@[simp] theorem eqv_eChair (a b : Chair) : PyData.eqv (eChair a) (eChair b) = decide (a = b) := by
  obtain ⟨a1, a2, a3, a4⟩ := a
  obtain ⟨b1, b2, b3, b4⟩ := b
  simp only [eChair, eqv_tup, eqvAll_cons, eqvAll_nil, eqv_i, eqv_eP, eqvAll_map eqv_eDd, Bool.and_true, Chair.mk.injEq, Bool.decide_and]
@[simp] theorem eqv_chairs (a b : List Chair) : PyData.eqv (.list (a.map eChair)) (.list (b.map eChair)) = decide (a = b) := by rw [eqv_lst, eqvAll_map eqv_eChair]
@[simp] theorem eqv_coms (a b : List Com) : PyData.eqv (.list (a.map eCom)) (.list (b.map eCom)) = decide (a = b) := by rw [eqv_lst, eqvAll_map eqv_eCom]
/-! ### reading typed data -/
@[simp] theorem atI_eTI (xs : List Int) (i : Int) : gIxA (eTI xs) (.int i) = (atI xs i).map PyData.int := by
  show atI (xs.map PyData.int) i = _
  unfold atI
  rw [List.length_map]
  cases ixN xs.length i with
  | none => rfl
  | some j => exact List.getElem?_map ..
@[simp] theorem len_eTI (xs : List Int) : gLenA (eTI xs) = some (.int xs.length) := by
  show some (PyData.int ((xs.map PyData.int).length : Nat)) = _
  rw [List.length_map]
@[simp] theorem isi_eTI (xs : List Int) : gIsi "tuple" (eTI xs) = some (.bool true) := rfl
@[simp] theorem isi_eP (p : Int × Int) : gIsi "tuple" (eP p) = some (.bool true) := rfl
@[simp] theorem seq_eTI (xs : List Int) : seqD (eTI xs) = some (xs.map PyData.int) := rfl
@[simp] theorem ix_eP0 (p : Int × Int) : gIxA (eP p) (.int 0) = some (.int p.1) := rfl
@[simp] theorem ix_eP1 (p : Int × Int) : gIxA (eP p) (.int 1) = some (.int p.2) := rfl
@[simp] theorem ix_su0 (s : Setup) : gIxA (eSetup s) (.int 0) = some (eTI s.seats) := rfl
@[simp] theorem ix_su1 (s : Setup) : gIxA (eSetup s) (.int 1) = some (eTI s.sizes) := rfl
@[simp] theorem ix_su2 (s : Setup) : gIxA (eSetup s) (.int 2) = some (eP s.rooms) := rfl
@[simp] theorem ix_su3 (s : Setup) : gIxA (eSetup s) (.int 3) = some (eP s.comers) := rfl
@[simp] theorem ix_rw0 (s : Rw) : gIxA (eRw s) (.int 0) = some (.int s.mood) := rfl
@[simp] theorem ix_rw1 (s : Rw) : gIxA (eRw s) (.int 1) = some (eP s.front) := rfl
@[simp] theorem ix_rw2 (s : Rw) : gIxA (eRw s) (.int 2) = some (eP s.left) := rfl
@[simp] theorem ix_rw3 (s : Rw) : gIxA (eRw s) (.int 3) = some (eP s.waiting) := rfl
@[simp] theorem ix_rw4 (s : Rw) : gIxA (eRw s) (.int 4) = some (.str s.deed.s) := rfl
@[simp] theorem ix_rw5 (s : Rw) : gIxA (eRw s) (.int 5) = some (.int s.after) := rfl
@[simp] theorem ix_ch0 (s : Chair) : gIxA (eChair s) (.int 0) = some (.tuple (s.deeds.map eDd)) := rfl
@[simp] theorem ix_ch2 (s : Chair) : gIxA (eChair s) (.int 2) = some (.int s.lost) := rfl
@[simp] theorem ix_dd0 (s : Dk × Int) : gIxA (eDd s) (.int 0) = some (.str s.1.s) := rfl
@[simp] theorem tp_eSta (s : Sta) (Gs : List D → En → Option En) (ρ : En) : gTp 4 Gs (eSta s) ρ = Gs [.int s.turn, eTI s.line, .int s.singles, .int s.mood] ρ := rfl
@[simp] theorem tp_eCom (s : Com) (Gs : List D → En → Option En) (ρ : En) : gTp 2 Gs (eCom s) ρ = Gs [eTI s.groups, .int s.singles] ρ := rfl
@[simp] theorem isNone_rw (r : Rw) : isNoneD (eRw r) = false := rfl
@[simp] theorem cut_up (xs : List D) (n : Nat) : cutD xs none (some (n : Int)) = xs.take n := by
  unfold cutD
  rw [HT.sIx_none, HT.sIx_nat]
  simp [List.take_eq_take_iff]
@[simp] theorem cut_from1 (x : D) (xs : List D) : cutD (x :: xs) (some 1) none = xs := by
  unfold cutD
  rw [show HT.sIx (x :: xs).length 0 (some 1) = min 1 (x :: xs).length from HT.sIx_nat (x :: xs).length 0 1, HT.sIx_none, show min 1 (x :: xs).length = 1 by rw [List.length_cons]; omega]
  simp
end Fc
set_option maxHeartbeats 4000000
set_option Elab.async false
set_option linter.all false
set_option maxRecDepth 100000
namespace Fc
open PySem L2
/-! ### numbers -/
@[simp] theorem fn_is_integer_int (x : Int) : fn_is_integer [.int x] = some (.sh (.bool true), []) := by
  simp [fn_is_integer, F_is_integer]
@[simp] theorem fn_is_number_int (x lo hi : Int) : fn_is_number [.int x, .int lo, .int hi] = some (.sh (.bool (decide (lo ≤ x) && decide (x ≤ hi))), []) := by
  simp [fn_is_number, F_is_number]
end Fc
set_option maxHeartbeats 4000000
set_option Elab.async false
set_option linter.all false
set_option maxRecDepth 100000
namespace Fc
open PySem L2
def frontOf : List Int → Int
  | [] => 0
  | x :: _ => x
@[simp] theorem fn_front_of_eq (l : List Int) : fn_front_of [eTI l] = some (.sh (.int (frontOf l)), []) := by
  cases l <;> simp [fn_front_of, F_front_of, frontOf]
def canBe : Dk → Int → Int → Int → Bool
  | .group, front, left, _ => decide (0 < front) && decide (front ≤ left)
  | .single, _, left, singles => decide (0 < singles) && decide (0 < left)
  | .part, front, left, _ => decide (left < front) && decide (0 < left)
  | .go, _, _, _ => true
@[simp] theorem fn_can_be_done_eq (deed : Dk) (front left singles : Int) : fn_can_be_done [.str deed.s, .int front, .int left, .int singles] = some (.sh (.bool (canBe deed front left singles)), []) := by
  cases deed <;> simp [fn_can_be_done, F_can_be_done, canBe]
theorem ite_ite {α : Type} (a b : Bool) (x y : α) : (if a = true then (if b = true then x else y) else y) = if (a && b) = true then x else y := by cases a <;> cases b <;> rfl
def inR (p : Int × Int) (x : Int) : Bool := decide (p.1 ≤ x) && decide (x ≤ p.2)
def fitsR (mood front singles left : Int) (r : Rw) : Bool := (decide (r.mood = mood) && ((inR r.front front && inR r.left left) && inR r.waiting singles)) && canBe r.deed front left singles
def fitting (rs : List Rw) (mood : Int) (line : List Int) (singles left : Int) : Option Rw := rs.find? (fitsR mood (frontOf line) singles left)
def eOpt : Option Rw → D
  | none => .none
  | some r => eRw r
theorem fitting_body (R LI : D) (mood front singles left : Int) (r : Rw) : ∃ b : D, F_fitting_row_b1 [.sh R, .sh (.int mood), .sh LI, .sh (.int singles), .sh (.int left), .sh (.int front), .sh (eRw r), .em]
    = if fitsR mood front singles left r = true then some (.rt (.sh (eRw r)) [.sh R, .sh (.int mood), .sh LI, .sh (.int singles), .sh (.int left), .sh (.int front), .sh (eRw r), .sh b]) else some (.nx [.sh R, .sh (.int mood), .sh LI, .sh (.int singles), .sh (.int left), .sh (.int front), .sh (eRw r), .sh b]) := by
  refine ⟨.bool (inR r.front front && inR r.left left), ?_⟩
  unfold fitsR
  rw [← ite_ite]
  simp [F_fitting_row_b1, inR]
theorem fitting_loop (R LI : D) (mood front singles left : Int) : ∀ rs : List Rw, ∃ s t, forL (gNm 6) F_fitting_row_b1 [6, 7] (rs.map eRw) [.sh R, .sh (.int mood), .sh LI, .sh (.int singles), .sh (.int left), .sh (.int front), .em, .em]
    = match rs.find? (fitsR mood front singles left) with
      | none => some (.nx [.sh R, .sh (.int mood), .sh LI, .sh (.int singles), .sh (.int left), .sh (.int front), .em, .em])
      | some r => some (.rt (.sh (eRw r)) [.sh R, .sh (.int mood), .sh LI, .sh (.int singles), .sh (.int left), .sh (.int front), s, t])
  | [] => ⟨.em, .em, by simp [forL_nil]⟩
  | r :: rs => by
    obtain ⟨s, t, ih⟩ := fitting_loop R LI mood front singles left rs
    obtain ⟨b, hb⟩ := fitting_body R LI mood front singles left r
    rw [List.map_cons, forL_cons, List.find?_cons]
    cases h : fitsR mood front singles left r with
    | true => exact ⟨.sh (eRw r), .sh b, by simp [hb, h]⟩
    | false =>
      refine ⟨s, t, ?_⟩
      have hb' := hb
      rw [h] at hb'
      simp [hb', ih]
@[simp] theorem fn_fitting_row_eq (rs : List Rw) (mood : Int) (line : List Int) (singles left : Int) : fn_fitting_row [eRule rs, .int mood, eTI line, .int singles, .int left] = some (.sh (eOpt (fitting rs mood line singles left)), []) := by
  obtain ⟨s, t, ih⟩ := fitting_loop (eRule rs) (eTI line) mood (frontOf line) singles left rs
  simp [fn_fitting_row, F_fitting_row, show seqD (eRule rs) = some (rs.map eRw) from rfl, ih]
  unfold fitting
  cases rs.find? (fitsR mood (frontOf line) singles left) <;> simp [eOpt]
/-! ### a chair is filled -/
def seatedT : Dk → List Int → Int → Int → (Dk × Int) × List Int × Int × Int
  | .group, line, singles, left => ((.group, frontOf line), line.tail, singles, left - frontOf line)
  | .single, line, singles, left => ((.single, 1), line, singles - 1, left - 1)
  | _, line, singles, left => ((.part, left), (frontOf line - left) :: line.tail, singles, 0)
def eSeat (s : (Dk × Int) × List Int × Int × Int) : D := .tuple [eDd s.1, eTI s.2.1, .int s.2.2.1, .int s.2.2.2]
@[simp] theorem fn_seated_eq (deed : Dk) (line : List Int) (singles left : Int) (h : deed ≠ .go) (h2 : deed = .single ∨ line ≠ []) (hl : line.length ≤ 1000) : fn_seated [.str deed.s, eTI line, .int singles, .int left] = some (.sh (eSeat (seatedT deed line singles left)), []) := by
  cases line with
  | nil =>
    rcases h2 with rfl | h2
    · simp [fn_seated, F_seated, seatedT, eSeat, eDd]; rfl
    · exact absurd rfl h2
  | cons x xs =>
    have e : eTI (x :: xs) = .tuple (.int x :: xs.map PyData.int) := rfl
    have hl' : 1 + xs.length ≤ 1000000 := by rw [List.length_cons] at hl; omega
    have e2 : gSl (some 1) none (eTI (x :: xs)) = some (eTI xs) := by rw [e]; simp [eTI]
    have e3 : ∀ z : Int, gAdd (.tuple [.int z]) (eTI xs) = some (eTI (z :: xs)) := fun z => by simp [eTI]; omega
    cases deed
    · simp [fn_seated, F_seated, seatedT, eSeat, eDd, e2, frontOf]; rfl
    · simp [fn_seated, F_seated, seatedT, eSeat, eDd, e2, frontOf]; rfl
    · simp [fn_seated, F_seated, seatedT, eSeat, eDd, e2, e3, frontOf]; rfl
    · exact absurd rfl h
structure Fl where
  deeds : List (Dk × Int)
  left : Int
  line : List Int
  singles : Int
  mood : Int
def fillT (rs : List Rw) : Nat → List (Dk × Int) → Int → List Int → Int → Int → Fl
  | 0, acc, left, line, singles, mood => ⟨acc, left, line, singles, mood⟩
  | n + 1, acc, left, line, singles, mood => match fitting rs mood line singles left with
    | none => ⟨acc, left, line, singles, mood⟩
    | some r => if r.deed = .go then ⟨acc, left, line, singles, r.after⟩ else
      fillT rs n (acc ++ [(seatedT r.deed line singles left).1]) (seatedT r.deed line singles left).2.2.2 (seatedT r.deed line singles left).2.1 (seatedT r.deed line singles left).2.2.1 r.after
theorem fitting_can {rs : List Rw} {mood : Int} {line : List Int} {singles left : Int} {r : Rw} (h : fitting rs mood line singles left = some r) : r ∈ rs ∧ canBe r.deed (frontOf line) left singles = true := by
  unfold fitting at h
  have h1 := List.find?_some h
  unfold fitsR at h1
  rw [Bool.and_eq_true] at h1
  exact ⟨List.mem_of_find?_eq_some h, h1.2⟩
theorem seated_facts {deed : Dk} {line : List Int} {singles left : Int} (h : canBe deed (frontOf line) left singles = true) (hg : deed ≠ .go) (h0 : 0 ≤ left) : (deed = .single ∨ line ≠ []) ∧ 0 ≤ (seatedT deed line singles left).2.2.2 ∧ (seatedT deed line singles left).2.2.2 < left ∧ (seatedT deed line singles left).2.1.length ≤ line.length := by
  cases deed
  · simp [canBe] at h
    cases line with
    | nil => simp [frontOf] at h
    | cons x xs => simp [frontOf, seatedT] at h ⊢; omega
  · simp [canBe] at h
    simp [seatedT]; omega
  · simp [canBe] at h
    cases line with
    | nil => simp [frontOf] at h; omega
    | cons x xs => simp [frontOf, seatedT] at h ⊢; omega
  · exact absurd rfl hg
theorem isNone_eOpt (o : Option Rw) : isNoneD (eOpt o) = !o.isSome := by cases o <;> rfl
theorem fill_loop (rs : List Rw) (S : D) : ∀ (n : Nat) (acc : List (Dk × Int)) (left : Int) (line : List Int) (singles mood : Int) (s8 : Sl), 0 ≤ left → left.toNat < n → acc.length + n ≤ 1000 → line.length ≤ 1000 → isIo (some s8) = false → ∃ mood' o s8',
    whN F_fill_t1 F_fill_b1 n [.sh (eRule rs), .sh (eTI line), .sh (.int singles), .sh S, .sh (.int mood), .sh (.int left), .ow (.list (acc.map eDd)), .sh (eOpt (fitting rs mood line singles left)), s8]
      = some (.nx [.sh (eRule rs), .sh (eTI (fillT rs n acc left line singles mood).line), .sh (.int (fillT rs n acc left line singles mood).singles), .sh S, .sh (.int mood'), .sh (.int (fillT rs n acc left line singles mood).left), .ow (.list ((fillT rs n acc left line singles mood).deeds.map eDd)), .sh (eOpt o), s8']) ∧
    (fillT rs n acc left line singles mood).mood = (match o with | none => mood' | some r => r.after)
  | 0, acc, left, line, singles, mood, s8, h0, hn, ha, hl, hs => absurd hn (Nat.not_lt_zero _)
  | n + 1, acc, left, line, singles, mood, s8, h0, hn, ha, hl, hs => by
    rw [whN, fillT]
    cases h : fitting rs mood line singles left with
    | none => exact ⟨mood, none, s8, by simp [F_fill_t1, eOpt], rfl⟩
    | some r =>
      obtain ⟨h1, h2⟩ := fitting_can h
      by_cases hg : r.deed = .go
      · refine ⟨mood, some r, s8, ?_, ?_⟩
        · simp [F_fill_t1, eOpt, hg]
        · simp [hg]
      · obtain ⟨f1, f2, f3, f4⟩ := seated_facts h2 hg h0
        obtain ⟨m', o, s8', e1, e2⟩ := fill_loop rs S n (acc ++ [(seatedT r.deed line singles left).1]) (seatedT r.deed line singles left).2.2.2 (seatedT r.deed line singles left).2.1 (seatedT r.deed line singles left).2.2.1 r.after (.sh (eDd (seatedT r.deed line singles left).1)) f2 (by omega) (by simp; omega) (by omega) rfl
        refine ⟨m', o, s8', ?_, ?_⟩
        · have hb : F_fill_b1 [.sh (eRule rs), .sh (eTI line), .sh (.int singles), .sh S, .sh (.int mood), .sh (.int left), .ow (.list (acc.map eDd)), .sh (eRw r), s8] = some (.nx [.sh (eRule rs), .sh (eTI (seatedT r.deed line singles left).2.1), .sh (.int (seatedT r.deed line singles left).2.2.1), .sh S, .sh (.int r.after), .sh (.int (seatedT r.deed line singles left).2.2.2), .ow (.list ((acc ++ [(seatedT r.deed line singles left).1]).map eDd)), .sh (eOpt (fitting rs r.after (seatedT r.deed line singles left).2.1 (seatedT r.deed line singles left).2.2.1 (seatedT r.deed line singles left).2.2.2)), .sh (eDd (seatedT r.deed line singles left).1)]) := by
            have ha' : acc.length < 1000000 := by omega
            simp [F_fill_b1, fn_seated_eq r.deed line singles left hg f1 hl, eSeat, hs, ha']
          have ht : F_fill_t1 [.sh (eRule rs), .sh (eTI line), .sh (.int singles), .sh S, .sh (.int mood), .sh (.int left), .ow (.list (acc.map eDd)), .sh (eRw r), s8] = some (true, [.sh (eRule rs), .sh (eTI line), .sh (.int singles), .sh S, .sh (.int mood), .sh (.int left), .ow (.list (acc.map eDd)), .sh (eRw r), s8]) := by
            simp [F_fill_t1, hg]
          show (F_fill_t1 [.sh (eRule rs), .sh (eTI line), .sh (.int singles), .sh S, .sh (.int mood), .sh (.int left), .ow (.list (acc.map eDd)), .sh (eRw r), s8]).bind _ = _
          simp only [ht, hb, Option.bind_some, if_true, hg, if_false, e1]
        · simp [hg, e2]
def eFl (f : Fl) : D := .tuple [.tuple (f.deeds.map eDd), .int f.left, eTI f.line, .int f.singles, .int f.mood]
theorem fn_fill_eq (rs : List Rw) (line : List Int) (singles seats mood : Int) (h0 : 0 ≤ seats) (h1 : seats ≤ 100) (hl : line.length ≤ 1000) : fn_fill [eRule rs, eTI line, .int singles, .int seats, .int mood] = some (.sh (eFl (fillT rs (seats.toNat + 1) [] seats line singles mood)), []) := by
  obtain ⟨m', o, s8', e1, e2⟩ := fill_loop rs (.int seats) (seats.toNat + 1) [] seats line singles mood .em h0 (by omega) (by simp; omega) hl rfl
  have e1' := sWhile_of e1
  simp [fn_fill, F_fill] at e1' ⊢
  rw [e1']
  unfold eFl
  rw [e2]
  cases o <;> simp [eOpt]
end Fc
set_option maxHeartbeats 4000000
set_option Elab.async false
set_option linter.all false
set_option maxRecDepth 100000
namespace Fc
open PySem L2
structure SuOk (s : Setup) : Prop where
  n1 : 1 ≤ s.seats.length
  n2 : s.seats.length ≤ 2
  se : ∀ x ∈ s.seats, 1 ≤ x ∧ x ≤ 5
  k1 : 1 ≤ s.sizes.length
  k2 : s.sizes.length ≤ 3
  si : ∀ x ∈ s.sizes, 1 ≤ x ∧ x ≤ 5
  up : s.sizes.Pairwise (· < ·)
  r1 : 1 ≤ s.rooms.1 ∧ s.rooms.1 ≤ 3
  r2 : 0 ≤ s.rooms.2 ∧ s.rooms.2 ≤ 4
  c1 : 0 ≤ s.comers.1 ∧ s.comers.1 ≤ 2
  c2 : 0 ≤ s.comers.2 ∧ s.comers.2 ≤ 2
structure ComOk (s : Setup) (c : Com) : Prop where
  n : (c.groups.length : Int) ≤ s.comers.1
  g : ∀ x ∈ c.groups, x ∈ s.sizes
  s : 0 ≤ c.singles ∧ c.singles ≤ s.comers.2
structure StOk (su : Setup) (s : Sta) : Prop where
  t0 : 0 ≤ s.turn
  t1 : s.turn < su.seats.length
  l : (s.line.length : Int) ≤ su.rooms.1
  s0 : 0 ≤ s.singles
theorem cut_upI (xs : List D) {z : Int} (h : 0 ≤ z) : cutD xs none (some z) = xs.take z.toNat := by
  have := cut_up xs z.toNat
  rw [Int.toNat_of_nonneg h] at this
  exact this
structure Li where
  line : List Int
  singles : Int
  away : Int × Int
def hereT (su : Setup) (line groups : List Int) : List Int := (line ++ groups).take (mx su.rooms.1 line.length).toNat
def waitT (su : Setup) (singles more : Int) : Int := mn (mx su.rooms.2 singles) (singles + more)
def letInT (su : Setup) (line : List Int) (singles : Int) (c : Com) : Li :=
  ⟨hereT su line c.groups, waitT su singles c.singles, ((line.length + c.groups.length : Int) - (hereT su line c.groups).length, (singles + c.singles) - waitT su singles c.singles)⟩
def eLi (l : Li) : D := .tuple [eTI l.line, .int l.singles, eP l.away]
theorem fn_let_in_eq (su : Setup) (line : List Int) (singles : Int) (c : Com) (h : 0 ≤ mx su.rooms.1 line.length) (hl : line.length + c.groups.length ≤ 1000) : fn_let_in [eSetup su, eTI line, .int singles, eCom c] = some (.sh (eLi (letInT su line singles c)), []) := by
  have e1 : gAdd (eTI line) (eTI c.groups) = some (eTI (line ++ c.groups)) := by
    show (if (line.map PyData.int).length + (c.groups.map PyData.int).length ≤ 1000000 then some (PyData.tuple (line.map PyData.int ++ c.groups.map PyData.int)) else none) = _
    rw [List.length_map, List.length_map, if_pos (by omega), ← List.map_append]
    rfl
  have e2 : gSl none (some (mx su.rooms.1 line.length)) (eTI (line ++ c.groups)) = some (eTI (hereT su line c.groups)) := by
    show some (PyData.tuple (cutD ((line ++ c.groups).map PyData.int) none (some (mx su.rooms.1 line.length)))) = _
    rw [cut_upI _ h, ← List.map_take]
    rfl
  simp [fn_let_in, F_let_in, e1, e2, eLi, letInT, waitT, eP]
structure Bt where
  chair : Chair
  st : Sta
def seatT (su : Setup) (s : Sta) : Int := su.seats.getD s.turn.toNat 0
def flT (su : Setup) (rs : List Rw) (s : Sta) (c : Com) : Fl := fillT rs ((seatT su s).toNat + 1) [] (seatT su s) (letInT su s.line s.singles c).line (letInT su s.line s.singles c).singles s.mood
def beatT (su : Setup) (rs : List Rw) (s : Sta) (c : Com) : Bt :=
  ⟨⟨(flT su rs s c).deeds, (flT su rs s c).left, if (flT su rs s c).line ≠ [] ∨ 0 < (flT su rs s c).singles then (flT su rs s c).left else 0, (letInT su s.line s.singles c).away⟩,
   ⟨(s.turn + 1) % su.seats.length, (flT su rs s c).line, (flT su rs s c).singles, (flT su rs s c).mood⟩⟩
theorem seat_ok {su : Setup} (S : SuOk su) {s : Sta} (h : StOk su s) : atI su.seats s.turn = some (seatT su s) ∧ 1 ≤ seatT su s ∧ seatT su s ≤ 5 := by
  have h1 := h.t0
  have h2 := h.t1
  have e : s.turn = ((s.turn.toNat : Nat) : Int) := by omega
  have hl : s.turn.toNat < su.seats.length := by omega
  have e1 : su.seats[s.turn.toNat]? = some su.seats[s.turn.toNat] := List.getElem?_eq_getElem hl
  have e2 : seatT su s = su.seats[s.turn.toNat] := by unfold seatT; rw [List.getD_eq_getElem?_getD, e1]; rfl
  refine ⟨?_, ?_⟩
  · rw [e2]
    have := atI_nat e1
    rw [← e] at this
    exact this
  · rw [e2]
    exact S.se _ (List.getElem_mem hl)
theorem here_len (su : Setup) (line groups : List Int) (h : 0 ≤ su.rooms.1) (hl : (line.length : Int) ≤ su.rooms.1) : ((hereT su line groups).length : Int) ≤ su.rooms.1 := by
  unfold hereT
  rw [List.length_take]
  have : mx su.rooms.1 line.length = su.rooms.1 := by unfold mx; rw [if_neg (by omega)]
  rw [this]
  omega
theorem fill_facts (rs : List Rw) : ∀ (n : Nat) (acc : List (Dk × Int)) (left : Int) (line : List Int) (singles mood : Int), 0 ≤ left → 0 ≤ singles → (fillT rs n acc left line singles mood).line.length ≤ line.length ∧ 0 ≤ (fillT rs n acc left line singles mood).singles
  | 0, acc, left, line, singles, mood, h0, h1 => ⟨Nat.le_refl _, h1⟩
  | n + 1, acc, left, line, singles, mood, h0, h1 => by
    rw [fillT]
    cases h : fitting rs mood line singles left with
    | none => exact ⟨Nat.le_refl _, h1⟩
    | some r =>
      obtain ⟨h3, h2⟩ := fitting_can h
      by_cases hg : r.deed = .go
      · simp only [hg, if_true]
        exact ⟨Nat.le_refl _, h1⟩
      · obtain ⟨f1, f2, f3, f4⟩ := seated_facts h2 hg h0
        simp only [hg, if_false]
        have hs : 0 ≤ (seatedT r.deed line singles left).2.2.1 := by
          cases hd : r.deed <;> simp [seatedT] <;> try assumption
          rw [hd] at h2
          simp [canBe] at h2
          omega
        obtain ⟨i1, i2⟩ := fill_facts rs n (acc ++ [(seatedT r.deed line singles left).1]) _ (seatedT r.deed line singles left).2.1 _ r.after f2 hs
        exact ⟨Nat.le_trans i1 f4, i2⟩
theorem wait_ok {su : Setup} {singles more : Int} (h1 : 0 ≤ su.rooms.2) (h2 : 0 ≤ singles) (h3 : 0 ≤ more) : 0 ≤ waitT su singles more := by
  unfold waitT mn mx
  split <;> split <;> omega
theorem beat_ok {su : Setup} (S : SuOk su) {rs : List Rw} {s : Sta} (h : StOk su s) {c : Com} (hc : ComOk su c) : StOk su (beatT su rs s c).st := by
  have h1 := S.n1
  obtain ⟨a1, a2, a3⟩ := seat_ok S h
  obtain ⟨f1, f2⟩ := fill_facts rs ((seatT su s).toNat + 1) [] (seatT su s) (letInT su s.line s.singles c).line (letInT su s.line s.singles c).singles s.mood (by omega) (wait_ok S.r2.1 h.s0 hc.s.1)
  have hh := here_len su s.line c.groups (by have := S.r1.1; omega) h.l
  refine ⟨Int.emod_nonneg _ (by omega), Int.emod_lt_of_pos _ (by omega), ?_, f2⟩
  have f1' : (flT su rs s c).line.length ≤ (hereT su s.line c.groups).length := f1
  show ((flT su rs s c).line.length : Int) ≤ _
  omega
def eBt (b : Bt) : D := .tuple [eChair b.chair, eSta b.st]
theorem fn_beat_eq {su : Setup} (S : SuOk su) (rs : List Rw) {s : Sta} (h : StOk su s) {c : Com} (hc : ComOk su c) : fn_beat [eSetup su, eRule rs, eSta s, eCom c] = some (.sh (eBt (beatT su rs s c)), []) := by
  obtain ⟨a1, a2, a3⟩ := seat_ok S h
  have hn := S.n1
  have hr := S.r1
  have hl := h.l
  have hg := hc.n
  have hcc := S.c1
  have e1 := fn_let_in_eq su s.line s.singles c (by unfold mx; split <;> omega) (by omega)
  have hh := here_len su s.line c.groups (by omega) h.l
  have e2 := fn_fill_eq rs (letInT su s.line s.singles c).line (letInT su s.line s.singles c).singles (seatT su s) s.mood (by omega) (by omega) (by show (hereT su s.line c.groups).length ≤ 1000; omega)
  have e2' : fn_fill [eRule rs, eTI (letInT su s.line s.singles c).line, .int (letInT su s.line s.singles c).singles, .int (seatT su s), .int s.mood] = some (.sh (eFl (flT su rs s c)), []) := e2
  have hpos : 0 < su.seats.length := by omega
  simp [fn_beat, F_beat, e1, eLi, a1, e2', eFl, hpos]
  by_cases hq : (flT su rs s c).line = []
  · by_cases hq2 : 0 < (flT su rs s c).singles
    · simp [hpos, hq, hq2, eBt, beatT, eChair, eSta, eP]
    · simp [hpos, hq, hq2, eBt, beatT, eChair, eSta, eP]
  · simp [hpos, hq, eBt, beatT, eChair, eSta, eP]
end Fc
set_option maxHeartbeats 4000000
set_option Elab.async false
set_option linter.all false
set_option maxRecDepth 100000
namespace Fc
open PySem L2
theorem lcL_filt {α : Type} {vs : List Nat} {G : GF} {T : TF} {E : EF} (enc y : α → D) (t : α → Bool) (ρ : En) : ∀ (xs : List α) (acc : List D),
    (∀ x ∈ xs, ∃ ρ1 ρ2, G (enc x) ρ = some ρ1 ∧ T ρ1 = some (t x, ρ1) ∧ noIo vs ρ1 = true ∧ kill vs ρ1 = ρ ∧ (t x = true → E ρ1 = some (y x, ρ2) ∧ noIo vs ρ2 = true ∧ kill vs ρ2 = ρ)) → acc.length + xs.length ≤ 1000000 →
    lcL vs G T E (xs.map enc) acc ρ = some (acc ++ (xs.filter t).map y, ρ)
  | [], acc, _, _ => by simp [lcL_nil]
  | x :: xs, acc, h, hl => by
    obtain ⟨ρ1, ρ2, h1, h2, h3, h4, h5⟩ := h x List.mem_cons_self
    rw [List.length_cons] at hl
    rw [List.map_cons, lcL_cons, h1]
    simp only [Option.bind_some, h2]
    cases ht : t x with
    | true =>
      obtain ⟨h6, h7, h8⟩ := h5 ht
      have ih := lcL_filt enc y t ρ xs (acc ++ [y x]) (fun z hz => h z (List.mem_cons_of_mem _ hz)) (by rw [List.length_append]; simp; omega)
      simp only [if_true, h6, Option.bind_some, h7, h8, and_true, show acc.length < 1000000 by omega, ih, List.filter_cons, ht, List.map_cons, List.append_assoc, List.singleton_append]
    | false =>
      have ih := lcL_filt enc y t ρ xs acc (fun z hz => h z (List.mem_cons_of_mem _ hz)) (by omega)
      simp only [Bool.false_eq_true, if_false, h3, if_true, h4, ih, List.filter_cons, ht]
theorem lcL_pure {α : Type} {vs : List Nat} {G : GF} {E : EF} (enc y : α → D) (ρ : En) (xs : List α) (acc : List D)
    (h : ∀ x ∈ xs, ∃ ρ1 ρ2, G (enc x) ρ = some ρ1 ∧ noIo vs ρ1 = true ∧ kill vs ρ1 = ρ ∧ E ρ1 = some (y x, ρ2) ∧ noIo vs ρ2 = true ∧ kill vs ρ2 = ρ) (hl : acc.length + xs.length ≤ 1000000) :
    lcL vs G tfYes E (xs.map enc) acc ρ = some (acc ++ xs.map y, ρ) := by
  have := lcL_filt (vs := vs) (G := G) (T := tfYes) (E := E) enc y (fun _ => true) ρ xs acc (fun x hx => by
    obtain ⟨ρ1, ρ2, h1, h2, h3, h4, h5, h6⟩ := h x hx
    exact ⟨ρ1, ρ2, h1, rfl, h2, h3, fun _ => ⟨h4, h5, h6⟩⟩) hl
  rw [this, List.filter_eq_self.mpr (fun _ _ => rfl)]
theorem gAll_f {α : Type} (f : α → Bool) (xs : List α) : gAll (.list (xs.map fun x => PyData.bool (f x))) = some (.bool (xs.all f)) := by
  have := gAll_map (xs.map f)
  rw [List.map_map] at this
  rw [show (fun x => PyData.bool (f x)) = PyData.bool ∘ f from rfl, this, List.all_map]
  rfl
theorem gSum_f {α : Type} (f : α → Int) (xs : List α) : gSum (.list (xs.map fun x => PyData.int (f x))) = some (.int (xs.map f).sum) := by
  have := gSum_map (xs.map f)
  rw [List.map_map] at this
  rw [show (fun x => PyData.int (f x)) = PyData.int ∘ f from rfl, this]
end Fc
set_option maxHeartbeats 4000000
set_option Elab.async false
set_option linter.all false
set_option maxRecDepth 100000
namespace Fc
open PySem L2
def numOk (lo hi x : Int) : Bool := decide (lo ≤ x) && decide (x ≤ hi)
theorem fn_are_numbers_eq (xs : List Int) (least most low high : Int) (hl : xs.length ≤ 1000) : fn_are_numbers [eTI xs, .int least, .int most, .int low, .int high] = some (.sh (.bool ((decide (least ≤ xs.length) && decide ((xs.length : Int) ≤ most)) && xs.all (numOk low high))), []) := by
  have e := lcL_pure (vs := [5]) (G := gNm 5) (E := F_are_numbers_e1) PyData.int (fun x => .bool (numOk low high x)) [.sh (eTI xs), .sh (.int least), .sh (.int most), .sh (.int low), .sh (.int high), .em] xs []
    (fun x _ => ⟨[.sh (eTI xs), .sh (.int least), .sh (.int most), .sh (.int low), .sh (.int high), .sh (.int x)], [.sh (eTI xs), .sh (.int least), .sh (.int most), .sh (.int low), .sh (.int high), .sh (.int x)], by simp, by simp, by simp, by simp [F_are_numbers_e1, numOk], by simp, by simp⟩) (by simp; omega)
  simp [fn_are_numbers, F_are_numbers]
  rcases Int.lt_or_le xs.length least with h1 | h1
  · simp [h1, Int.not_le.mpr h1]
  · rcases Int.lt_or_le most xs.length with h2 | h2
    · simp [h2, Int.not_le.mpr h2]
    · simp [h1, h2, Int.not_lt.mpr h1, Int.not_lt.mpr h2, e, gAll_f]
theorem eTI2 (p : Int × Int) : eP p = eTI [p.1, p.2] := rfl
theorem fn_are_most_eq (p : Int × Int) (lo hi sh : Int) (h1 : 0 ≤ p.1 ∧ p.1 ≤ 9) (h2 : 0 ≤ p.2 ∧ p.2 ≤ 9) (h3 : lo ≤ p.1 ∧ p.1 ≤ hi) (h4 : p.2 ≤ sh) : fn_are_most [eP p, .int lo, .int hi, .int sh] = some (.sh (.bool true), []) := by
  have e := fn_are_numbers_eq [p.1, p.2] 2 2 0 9 (by simp)
  rw [← eTI2] at e
  simp [numOk, h1, h2] at e
  simp [fn_are_most, F_are_most, e, h3, h4]
theorem fn_is_range_eq (p : Int × Int) (h1 : 0 ≤ p.1) (h2 : p.1 ≤ p.2) (h3 : p.2 ≤ 9) : fn_is_range [eP p] = some (.sh (.bool true), []) := by
  have e := fn_are_numbers_eq [p.1, p.2] 2 2 0 9 (by simp)
  rw [← eTI2] at e
  simp [numOk, h1, h3, show p.1 ≤ 9 by omega, show 0 ≤ p.2 by omega] at e
  simp [fn_is_range, F_is_range, e, h2]
theorem fn_is_setup_eq {su : Setup} (S : SuOk su) : fn_is_setup [eSetup su] = some (.sh (.bool true), []) := by
  have e1 := fn_are_numbers_eq su.seats 1 2 1 5 (by have := S.n2; omega)
  have a1 : su.seats.all (numOk 1 5) = true := List.all_eq_true.mpr fun x hx => by have := S.se x hx; simp [numOk, this]
  have b1 := S.n1
  have b2 := S.n2
  simp [a1, show (1 : Int) ≤ su.seats.length by omega, show (su.seats.length : Int) ≤ 2 by omega] at e1
  have e2 := fn_are_numbers_eq su.sizes 1 3 1 5 (by have := S.k2; omega)
  have a2 : su.sizes.all (numOk 1 5) = true := List.all_eq_true.mpr fun x hx => by have := S.si x hx; simp [numOk, this]
  have b3 := S.k1
  have b4 := S.k2
  simp [a2, show (1 : Int) ≤ su.sizes.length by omega, show (su.sizes.length : Int) ≤ 3 by omega] at e2
  have r1 := S.r1
  have r2 := S.r2
  have c1 := S.c1
  have c2 := S.c2
  have e3 := fn_are_most_eq su.rooms 1 3 4 (by omega) (by omega) (by omega) (by omega)
  have e4 := fn_are_most_eq su.comers 0 2 2 (by omega) (by omega) (by omega) (by omega)
  have len4 : gLenA (eSetup su) = some (.int 4) := rfl
  have isi : gIsi "tuple" (eSetup su) = some (.bool true) := rfl
  have tp : ∀ Gs ρ, gTp 4 Gs (eSetup su) ρ = Gs [eTI su.seats, eTI su.sizes, eP su.rooms, eP su.comers] ρ := fun _ _ => rfl
  have up := S.up
  have e5 : gSl (some 1) none (eTI su.sizes) = some (eTI su.sizes.tail) := by
    cases su.sizes <;> simp [eTI]
    rfl
  have e6 : ∀ ρ, zipD (eTI su.sizes) (eTI su.sizes.tail) ρ = some ((su.sizes.zip su.sizes.tail).map fun z => PyData.tuple [.int z.1, .int z.2], ρ) := fun ρ => by
    unfold eTI
    rw [zipD_t, List.zip_map, List.map_map]
    rfl
  have e7 := lcL_pure (vs := [5, 6]) (G := gTp 2 (gsCons (gNm 5) (gsCons (gNm 6) gsNil))) (E := F_is_setup_e1) (fun z : Int × Int => PyData.tuple [.int z.1, .int z.2]) (fun z => .bool (decide (z.1 < z.2))) [.sh (eSetup su), .sh (eTI su.seats), .sh (eTI su.sizes), .sh (eP su.rooms), .sh (eP su.comers), .em, .em] (su.sizes.zip su.sizes.tail) []
    (fun x _ => ⟨[.sh (eSetup su), .sh (eTI su.seats), .sh (eTI su.sizes), .sh (eP su.rooms), .sh (eP su.comers), .sh (.int x.1), .sh (.int x.2)], [.sh (eSetup su), .sh (eTI su.seats), .sh (eTI su.sizes), .sh (eP su.rooms), .sh (eP su.comers), .sh (.int x.1), .sh (.int x.2)], by simp, by simp, by simp, by simp [F_is_setup_e1], by simp, by simp⟩) (by simp; omega)
  have e8 : ((su.sizes.zip su.sizes.tail).all fun z => decide (z.1 < z.2)) = true := by
    generalize su.sizes = l at up
    induction up with
    | nil => rfl
    | @cons x l hx hl ih =>
      cases l with
      | nil => rfl
      | cons y l =>
        show (decide (x < y) && ((y :: l).zip (y :: l).tail).all _) = true
        rw [ih, decide_eq_true (hx y List.mem_cons_self)]
        rfl
  simp [fn_is_setup, F_is_setup, len4, isi, tp, e1, e2, e5, e6, e7, gAll_f, e8, e3, e4]
theorem fn_check_setup_eq {su : Setup} (S : SuOk su) : fn_check_setup [eSetup su] = some (.sh .none, []) := by
  simp [fn_check_setup, F_check_setup, fn_is_setup_eq S]
structure RwOk (r : Rw) : Prop where
  m : 0 ≤ r.mood ∧ r.mood ≤ 2
  f : 0 ≤ r.front.1 ∧ r.front.1 ≤ r.front.2 ∧ r.front.2 ≤ 9
  l : 0 ≤ r.left.1 ∧ r.left.1 ≤ r.left.2 ∧ r.left.2 ≤ 9
  w : 0 ≤ r.waiting.1 ∧ r.waiting.1 ≤ r.waiting.2 ∧ r.waiting.2 ≤ 9
  a : 0 ≤ r.after ∧ r.after ≤ 2
structure RuOk (rs : List Rw) : Prop where
  n : rs.length ≤ 8
  r : ∀ r ∈ rs, RwOk r
theorem in_deeds (d : Dk) : gInA false (.str d.s) D_DEEDS = some (.bool true) := by
  have h1 : PyData.eqv (.str "group") (.str d.s) = decide (Dk.group = d) := eqv_s .group d
  have h2 : PyData.eqv (.str "single") (.str d.s) = decide (Dk.single = d) := eqv_s .single d
  have h3 : PyData.eqv (.str "part") (.str d.s) = decide (Dk.part = d) := eqv_s .part d
  have h4 : PyData.eqv (.str "go") (.str d.s) = decide (Dk.go = d) := eqv_s .go d
  simp [gInA, gIn, inD, D_DEEDS, flatD, h1, h2, h3, h4]
  cases d <;> simp
@[simp] theorem gIn_eTI (x : Int) (xs : List Int) : gInA false (.int x) (eTI xs) = some (.bool (decide (x ∈ xs))) := by
  have h1 : ∀ ys : List Int, (ys.map PyData.int).all flatD = true := fun ys => by simp [flatD]
  have h2 : ∀ ys : List Int, ((ys.map PyData.int).any fun z => PyData.eqv z (.int x)) = decide (x ∈ ys) := fun ys => by
    induction ys with
    | nil => rfl
    | cons y ys ih =>
      rw [List.map_cons, List.any_cons, ih, eqv_i]
      by_cases h : x = y
      · subst h; simp
      · have h' : ¬ y = x := fun e => h e.symm
        simp [h, h']
  show (if flatD (.int x) && (xs.map PyData.int).all flatD then some ((xs.map PyData.int).any fun z => PyData.eqv z (.int x)) else none).map _ = _
  rw [h1, h2]
  rfl
theorem fn_is_rule_row_eq {r : Rw} (h : RwOk r) : fn_is_rule_row [eRw r] = some (.sh (.bool true), []) := by
  have len6 : gLenA (eRw r) = some (.int 6) := rfl
  have isi : gIsi "tuple" (eRw r) = some (.bool true) := rfl
  have tp : ∀ Gs ρ, gTp 6 Gs (eRw r) ρ = Gs [.int r.mood, eP r.front, eP r.left, eP r.waiting, .str r.deed.s, .int r.after] ρ := fun _ _ => rfl
  simp [fn_is_rule_row, F_is_rule_row, len6, isi, tp, h.m, h.a, fn_is_range_eq _ h.f.1 h.f.2.1 h.f.2.2, fn_is_range_eq _ h.l.1 h.l.2.1 h.l.2.2, fn_is_range_eq _ h.w.1 h.w.2.1 h.w.2.2, in_deeds]
theorem fn_is_rule_eq {rs : List Rw} (h : RuOk rs) : fn_is_rule [eRule rs] = some (.sh (.bool true), []) := by
  have isi : gIsi "tuple" (eRule rs) = some (.bool true) := rfl
  have ln : gLenA (eRule rs) = some (.int rs.length) := by show some (PyData.int ((rs.map eRw).length : Nat)) = _; rw [List.length_map]
  have e := lcL_pure (vs := [1]) (G := gNm 1) (E := F_is_rule_e1) eRw (fun x => .bool true) [.sh (eRule rs), .em] rs []
    (fun x hx => ⟨[.sh (eRule rs), .sh (eRw x)], [.sh (eRule rs), .sh (eRw x)], by simp, by simp, by simp, by simp [F_is_rule_e1, fn_is_rule_row_eq (h.r x hx)], by simp, by simp⟩) (by have := h.n; simp; omega)
  have hn := h.n
  simp [fn_is_rule, F_is_rule, isi, ln, D_MOST_ROWS, show ¬ ((8 : Int) < rs.length) by omega, show seqD (eRule rs) = some (rs.map eRw) from rfl, e, gAll_f]
theorem fn_check_both_eq {su : Setup} (S : SuOk su) {rs : List Rw} (h : RuOk rs) : fn_check_both [eSetup su, eRule rs] = some (.sh .none, []) := by
  simp [fn_check_both, F_check_both, fn_check_setup_eq S, fn_is_rule_eq h]
end Fc
set_option maxHeartbeats 4000000
set_option Elab.async false
set_option linter.all false
set_option maxRecDepth 100000
namespace Fc
open PySem L2
/-! ### dicts whose keys are typed -/
structure KeyE {α : Type} (enc : α → D) (nk : α → NestedKey) : Prop where
  k : ∀ a, keyOf (enc a) = some (nk a)
  n : ∀ a, keyN (enc a) = some (nk a)
  i : ∀ a b, nk a = nk b → a = b
def kvT {α β : Type} (enc : α → D) (encV : β → D) (m : List (α × β)) : List (D × D) := m.map fun e => (enc e.1, encV e.2)
def lookT {α β : Type} [DecidableEq α] (m : List (α × β)) (a : α) : Option β := (m.find? fun e => decide (e.1 = a)).map (·.2)
theorem getK_kv {α β : Type} [DecidableEq α] {enc : α → D} {nk : α → NestedKey} (K : KeyE enc nk) (encV : β → D) : ∀ (m : List (α × β)) (a : α), getK (kvT enc encV m) (nk a) = (lookT m a).map encV
  | [], a => rfl
  | (b, v) :: m, a => by
    have ih := getK_kv K encV m a
    unfold getK lookT kvT at ih ⊢
    rw [List.map_cons, List.find?_cons, List.find?_cons]
    by_cases h : b = a
    · subst h
      simp [K.k]
    · have h2 : ¬ (nk b = nk a) := fun q => h (K.i _ _ q)
      simp only [K.k, Option.some.injEq, h, h2, decide_false, Bool.false_eq_true, if_false]
      exact ih
theorem lookT_none {α β : Type} [DecidableEq α] {m : List (α × β)} {a : α} : lookT m a = none ↔ a ∉ m.map (·.1) := by
  unfold lookT
  rw [Option.map_eq_none_iff, List.find?_eq_none]
  simp
  constructor
  · intro h x hx
    exact h _ _ hx rfl
  · intro h b v hb e
    subst e
    exact h _ hb
theorem scr_kv {α β : Type} {enc : α → D} {nk : α → NestedKey} (K : KeyE enc nk) (encV : β → D) (ht : ∀ a, ∃ ds, enc a = .tuple ds) (m : List (α × β)) : scrOf (kvT enc encV m) = none := by
  cases m with
  | nil => rfl
  | cons e m =>
    obtain ⟨ds, h⟩ := ht e.1
    show scrOf ((enc e.1, encV e.2) :: kvT enc encV m) = none
    rw [h]
    rfl
theorem putK_new {α β : Type} [DecidableEq α] {enc : α → D} {nk : α → NestedKey} (K : KeyE enc nk) (encV : β → D) (m : List (α × β)) (a : α) (v : β) (h : a ∉ m.map (·.1)) : putK' (kvT enc encV m) (enc a) (nk a) (encV v) = kvT enc encV (m ++ [(a, v)]) := by
  unfold putK'
  rw [getK_kv K, lookT_none.mpr h]
  simp [kvT]
theorem in_kv {α β : Type} [DecidableEq α] {enc : α → D} {nk : α → NestedKey} (K : KeyE enc nk) (encV : β → D) (ht : ∀ a, ∃ ds, enc a = .tuple ds) (m : List (α × β)) (a : α) (neg : Bool) : gInA neg (enc a) (.dict (kvT enc encV m)) = some (.bool (if neg then decide (a ∉ m.map (·.1)) else decide (a ∈ m.map (·.1)))) := by
  show gInE neg (enc a) (kvT enc encV m) = _
  unfold gInE
  rw [scr_kv K encV ht, K.n]
  have e := getK_kv K encV m a
  have : ((lookT m a).map encV).isSome = decide (a ∈ m.map (·.1)) := by
    by_cases h : a ∈ m.map (·.1)
    · rw [decide_eq_true h]
      cases q : lookT m a with
      | none => exact absurd h (lookT_none.mp q)
      | some v => rfl
    · rw [decide_eq_false h, lookT_none.mpr h]; rfl
  show some (PyData.bool (if neg = true then !(getK (kvT enc encV m) (nk a)).isSome else (getK (kvT enc encV m) (nk a)).isSome)) = _
  rw [e, this]
  cases neg <;> simp
theorem ix_kv {α β : Type} [DecidableEq α] {enc : α → D} {nk : α → NestedKey} (K : KeyE enc nk) (encV : β → D) (ht : ∀ a, ∃ ds, enc a = .tuple ds) {m : List (α × β)} {a : α} {v : β} (h : lookT m a = some v) : gIxA (.dict (kvT enc encV m)) (enc a) = some (encV v) := by
  show (match scrOf (kvT enc encV m) with | some ds => gIx (.dict (kvT enc encV m)) (enc a) | none => (keyN (enc a)).bind (getK (kvT enc encV m))) = _
  rw [scr_kv K encV ht]
  show (keyN (enc a)).bind (getK (kvT enc encV m)) = _
  rw [K.n, Option.bind_some, getK_kv K, h]
  rfl
theorem set_new {α β : Type} [DecidableEq α] {enc : α → D} {nk : α → NestedKey} (K : KeyE enc nk) (encV : β → D) (ht : ∀ a, ∃ ds, enc a = .tuple ds) {m : List (α × β)} (a : α) (v : β) (h : a ∉ m.map (·.1)) (hl : m.length < 1000000) : setD (.dict (kvT enc encV m)) (enc a) (encV v) = some (.dict (kvT enc encV (m ++ [(a, v)]))) := by
  show ((keyN (enc a)).bind fun n => if (kvT enc encV m).length < 1000000 ∧ (scrOf (kvT enc encV m)).isNone then some (PyData.dict (putK' (kvT enc encV m) (enc a) n (encV v))) else none) = _
  rw [K.n, Option.bind_some, scr_kv K encV ht, putK_new K encV m a v h, if_pos ⟨by unfold kvT; rw [List.length_map]; exact hl, rfl⟩]
theorem keys_kv {α β : Type} (enc : α → D) (encV : β → D) (m : List (α × β)) : (kvT enc encV m).map (·.1) = (m.map (·.1)).map enc := by
  unfold kvT
  rw [List.map_map, List.map_map]
  rfl
/-! ### states as keys -/
def nSta (s : Sta) : NestedKey := .tup [.num s.turn, .tup (s.line.map NestedKey.num), .num s.singles, .num s.mood]
theorem keysOf_ints : ∀ l : List Int, keysOf (l.map PyData.int) = some (l.map NestedKey.num)
  | [] => by rw [List.map_nil, keysOf]; rfl
  | x :: l => by rw [List.map_cons, keysOf, keyOf, keysOf_ints l]; rfl
theorem depth_ints : ∀ l : List Int, NestedKey.depthAll (l.map NestedKey.num) = 0
  | [] => by rw [List.map_nil, NestedKey.depthAll]
  | x :: l => by rw [List.map_cons, NestedKey.depthAll, NestedKey.depth, depth_ints l]; rfl
theorem keyOf_eSta (s : Sta) : keyOf (eSta s) = some (nSta s) := by
  unfold eSta eTI
  simp only [keyOf, keysOf, keysOf_ints, Option.map_some]
  rfl
theorem nums_inj : ∀ {a b : List Int}, a.map NestedKey.num = b.map NestedKey.num → a = b
  | [], [], _ => rfl
  | [], y :: b, h => by rw [List.map_nil, List.map_cons] at h; cases h
  | x :: a, [], h => by rw [List.map_nil, List.map_cons] at h; cases h
  | x :: a, y :: b, h => by
    rw [List.map_cons, List.map_cons] at h
    injection h with h1 h2
    injection h1 with h1
    rw [h1, nums_inj h2]
theorem KSta : KeyE eSta nSta where
  k := keyOf_eSta
  n s := by
    show (keyOf (eSta s)).bind _ = _
    rw [keyOf_eSta, Option.bind_some, if_pos]
    unfold nSta
    simp only [NestedKey.depth, NestedKey.depthAll, depth_ints]
    decide
  i a b h := by
    obtain ⟨t, l, s, m⟩ := a
    obtain ⟨t', l', s', m'⟩ := b
    unfold nSta at h
    injection h with h
    injection h with h1 h
    injection h with h2 h
    injection h with h3 h
    injection h with h4 h
    injection h1 with h1
    injection h2 with h2
    injection h3 with h3
    injection h4 with h4
    have h5 : l = l' := nums_inj h2
    have h1 : t = t' := h1
    have h3 : s = s' := h3
    have h4 : m = m' := h4
    rw [h1, h5, h3, h4]
theorem tSta (s : Sta) : ∃ ds, eSta s = .tuple ds := ⟨_, rfl⟩
end Fc
set_option maxHeartbeats 4000000
set_option Elab.async false
set_option linter.all false
set_option maxRecDepth 100000
namespace Fc
open PySem L2
/-! ### the good states: there are at most 1980 -/
def GLine (su : Setup) (l : List Int) : Prop := (∀ x ∈ l, 1 ≤ x ∧ x ≤ 5) ∧ ∀ x ∈ l.tail, x ∈ su.sizes
structure Gd (su : Setup) (s : Sta) : Prop where
  o : StOk su s
  s1 : s.singles ≤ su.rooms.2
  m : 0 ≤ s.mood ∧ s.mood ≤ 2
  g : GLine su s.line
theorem gl_here {su : Setup} (S : SuOk su) {line groups : List Int} (h : GLine su line) (hg : ∀ x ∈ groups, x ∈ su.sizes) : GLine su (hereT su line groups) := by
  unfold hereT
  have h1 : ∀ x ∈ line ++ groups, 1 ≤ x ∧ x ≤ 5 := fun x hx => by
    rcases List.mem_append.mp hx with hx | hx
    · exact h.1 x hx
    · exact S.si x (hg x hx)
  have h2 : ∀ x ∈ (line ++ groups).tail, x ∈ su.sizes := fun x hx => by
    cases line with
    | nil => exact hg x (List.mem_of_mem_tail hx)
    | cons y ys =>
      rcases List.mem_append.mp (show x ∈ ys ++ groups from hx) with hx | hx
      · exact h.2 x hx
      · exact hg x hx
  refine ⟨fun x hx => h1 x (List.mem_of_mem_take hx), fun x hx => ?_⟩
  cases q : line ++ groups with
  | nil => rw [q] at hx; simp at hx
  | cons y ys =>
    rw [q] at hx h2
    cases n : (mx su.rooms.1 line.length).toNat with
    | zero => rw [n] at hx; simp at hx
    | succ k =>
      rw [n] at hx
      exact h2 x (List.mem_of_mem_take (show x ∈ ys.take k from hx))
theorem gl_tail {su : Setup} (S : SuOk su) {l : List Int} (h : GLine su l) : GLine su l.tail := ⟨fun x hx => h.1 x (List.mem_of_mem_tail hx), fun x hx => h.2 x (List.mem_of_mem_tail hx)⟩
theorem gl_front {l : List Int} {su : Setup} (h : GLine su l) : frontOf l ≤ 5 := by
  cases l with
  | nil => show (0 : Int) ≤ 5; decide
  | cons x xs => exact (h.1 x List.mem_cons_self).2
structure FlG (su : Setup) (r2 : Int) (f : Fl) : Prop where
  g : GLine su f.line
  s : f.singles ≤ r2
  m : 0 ≤ f.mood ∧ f.mood ≤ 2
theorem fill_good {su : Setup} (S : SuOk su) {rs : List Rw} (R : RuOk rs) (r2 : Int) : ∀ (n : Nat) (acc : List (Dk × Int)) (left : Int) (line : List Int) (singles mood : Int), 0 ≤ left → GLine su line → singles ≤ r2 → (0 ≤ mood ∧ mood ≤ 2) → FlG su r2 (fillT rs n acc left line singles mood)
  | 0, acc, left, line, singles, mood, h0, h1, h2, h3 => ⟨h1, h2, h3⟩
  | n + 1, acc, left, line, singles, mood, h0, h1, h2, h3 => by
    rw [fillT]
    cases h : fitting rs mood line singles left with
    | none => exact ⟨h1, h2, h3⟩
    | some r =>
      obtain ⟨hm, hc⟩ := fitting_can h
      have ha := (R.r r hm).a
      by_cases hg : r.deed = .go
      · simp only [hg, if_true]
        exact ⟨h1, h2, ha⟩
      · obtain ⟨f1, f2, f3, f4⟩ := seated_facts hc hg h0
        simp only [hg, if_false]
        have q1 : GLine su (seatedT r.deed line singles left).2.1 ∧ (seatedT r.deed line singles left).2.2.1 ≤ r2 := by
          have ht := gl_tail S h1
          have hf := gl_front h1
          cases hd : r.deed with
          | group => exact ⟨ht, h2⟩
          | single => exact ⟨h1, by show singles - 1 ≤ r2; omega⟩
          | part =>
            rw [hd] at hc
            simp [canBe] at hc
            refine ⟨⟨fun x hx => ?_, h1.2⟩, h2⟩
            rcases List.mem_cons.mp (show x ∈ (frontOf line - left) :: line.tail from hx) with rfl | hx
            · omega
            · exact ht.1 x hx
          | go => exact absurd hd hg
        exact fill_good S R r2 n _ _ _ _ _ f2 q1.1 q1.2 ha
theorem wait_hi {su : Setup} {singles more : Int} (h : singles ≤ su.rooms.2) : waitT su singles more ≤ su.rooms.2 := by
  unfold waitT mn mx
  split <;> split <;> omega
theorem beat_gd {su : Setup} (S : SuOk su) {rs : List Rw} (R : RuOk rs) {s : Sta} (h : Gd su s) {c : Com} (hc : ComOk su c) : Gd su (beatT su rs s c).st := by
  obtain ⟨a1, a2, a3⟩ := seat_ok S h.o
  have f := fill_good S R su.rooms.2 ((seatT su s).toNat + 1) [] (seatT su s) (letInT su s.line s.singles c).line (letInT su s.line s.singles c).singles s.mood (by omega) (gl_here S h.g hc.g) (wait_hi h.s1) h.m
  exact ⟨beat_ok S h.o hc, f.s, f.m, f.g⟩
def startT : Sta := ⟨0, [], 0, 0⟩
theorem gd_start {su : Setup} (S : SuOk su) : Gd su startT := ⟨⟨by decide, by have := S.n1; show (0 : Int) < su.seats.length; omega, by have := S.r1; show ((0 : Nat) : Int) ≤ su.rooms.1; omega, by decide⟩, S.r2.1, ⟨by decide, by decide⟩, ⟨fun x hx => (List.not_mem_nil hx).elim, fun x hx => (List.not_mem_nil hx).elim⟩⟩
/-! all good states lie in one list -/
def tailU (z : List Int) : List (List Int) := [] :: (z.map (fun a => [a]) ++ z.flatMap fun a => z.map fun b => [a, b])
def lineU (z : List Int) : List (List Int) := [] :: ([1, 2, 3, 4, 5] : List Int).flatMap fun h => (tailU z).map fun t => h :: t
def stU (z : List Int) : List Sta := ([0, 1] : List Int).flatMap fun t => (lineU z).flatMap fun l => ([0, 1, 2, 3, 4] : List Int).flatMap fun s => ([0, 1, 2] : List Int).map fun m => ⟨t, l, s, m⟩
theorem tailU_len {z : List Int} (h : z.length ≤ 3) : (tailU z).length ≤ 13 := by
  unfold tailU
  match z, h with
  | [], _ => decide
  | [a], _ => show 3 ≤ 13; decide
  | [a, b], _ => show 7 ≤ 13; decide
  | [a, b, c], _ => show 13 ≤ 13; decide
theorem flat_len2 {α β : Type} (f : α → List β) (k : Nat) : ∀ xs : List α, (∀ x ∈ xs, (f x).length = k) → (xs.flatMap f).length = xs.length * k
  | [], _ => by simp
  | x :: xs, h => by
    rw [List.flatMap_cons, List.length_append, h x List.mem_cons_self, flat_len2 f k xs fun y hy => h y (List.mem_cons_of_mem _ hy), List.length_cons, Nat.succ_mul]
    omega
theorem stU_len {z : List Int} (h : z.length ≤ 3) : (stU z).length ≤ 1980 := by
  have h1 := tailU_len h
  have h2 : (lineU z).length = 5 * (tailU z).length + 1 := by
    unfold lineU
    rw [List.length_cons, flat_len2 _ (tailU z).length _ fun x _ => by rw [List.length_map]]
    rfl
  have h3 : (stU z).length = 2 * ((lineU z).length * 15) := by
    unfold stU
    rw [flat_len2 _ ((lineU z).length * 15) _ fun t _ => by rw [flat_len2 _ 15 _ fun l _ => rfl]]
    rfl
  omega
theorem gd_mem {su : Setup} (S : SuOk su) {s : Sta} (h : Gd su s) : s ∈ stU su.sizes := by
  obtain ⟨t, l, g, m⟩ := s
  have h1 := h.o.t0
  have h2 := h.o.t1
  have h3 := h.o.l
  have h4 := h.o.s0
  have h5 := h.s1
  have h6 := h.m
  have h7 := h.g
  have q1 := S.n2
  have q2 := S.r1
  have q3 := S.r2
  simp only at h1 h2 h3 h4 h5 h6 h7
  unfold stU
  refine List.mem_flatMap.mpr ⟨t, ?_, List.mem_flatMap.mpr ⟨l, ?_, List.mem_flatMap.mpr ⟨g, ?_, List.mem_map.mpr ⟨m, ?_, rfl⟩⟩⟩⟩
  · simp only [List.mem_cons, List.not_mem_nil, or_false]; omega
  · unfold lineU
    match l, h3, h7 with
    | [], _, _ => exact List.mem_cons_self
    | x :: xs, h3, h7 =>
      refine List.mem_cons_of_mem _ (List.mem_flatMap.mpr ⟨x, ?_, List.mem_map.mpr ⟨xs, ?_, rfl⟩⟩)
      · have := h7.1 x List.mem_cons_self
        simp only [List.mem_cons, List.not_mem_nil, or_false]; omega
      · have hh : ∀ y ∈ xs, y ∈ su.sizes := h7.2
        rw [List.length_cons] at h3
        unfold tailU
        match xs, h3, hh with
        | [], _, _ => exact List.mem_cons_self
        | [a], _, hh => exact List.mem_cons_of_mem _ (List.mem_append_left _ (List.mem_map.mpr ⟨a, hh a List.mem_cons_self, rfl⟩))
        | [a, b], _, hh => exact List.mem_cons_of_mem _ (List.mem_append_right _ (List.mem_flatMap.mpr ⟨a, hh a List.mem_cons_self, List.mem_map.mpr ⟨b, hh b (List.mem_cons_of_mem _ List.mem_cons_self), rfl⟩⟩))
        | a :: b :: c :: d, h3, _ => simp only [List.length_cons] at h3; omega
  · simp only [List.mem_cons, List.not_mem_nil, or_false]; omega
  · simp only [List.mem_cons, List.not_mem_nil, or_false]; omega
theorem nodup_len {α : Type} [DecidableEq α] : ∀ {xs ys : List α}, xs.Nodup → (∀ x ∈ xs, x ∈ ys) → xs.length ≤ ys.length
  | [], ys, _, _ => Nat.zero_le _
  | x :: xs, ys, hn, h => by
    have hn' := List.nodup_cons.mp hn
    have := nodup_len (ys := ys.erase x) hn'.2 fun y hy => (List.mem_erase_of_ne (fun (e : y = x) => hn'.1 (by rw [← e]; exact hy))).mpr (h y (List.mem_cons_of_mem _ hy))
    rw [List.length_erase_of_mem (h x List.mem_cons_self)] at this
    have h0 : 0 < ys.length := List.length_pos_of_mem (h x List.mem_cons_self)
    rw [List.length_cons]
    omega
end Fc
set_option maxHeartbeats 4000000
set_option Elab.async false
set_option linter.all false
set_option maxRecDepth 100000
namespace Fc
open PySem L2
/-! ### slots lent -/
@[simp] theorem slD_bo (d : D) : slD (some (.bo d)) = some d := rfl
@[simp] theorem isIo_bo (d : D) : isIo (some (.bo d)) = false := rfl
@[simp] theorem boD_bo (d : D) : boD (some (.bo d)) = some d := rfl
@[simp] theorem emp_bo (d : D) (ρ : En) : emp 0 (.bo d :: ρ) = .em :: ρ := rfl
@[simp] theorem lendS_ow (d : D) : lendS (some (.ow d)) = some (.ow d, d) := rfl
@[simp] theorem lendS_io (d : D) : lendS (some (.io d)) = some (.io d, d) := rfl
@[simp] theorem unlend_ap (s : Sl) (i : Nat) (ρ : En) : unlend s i ρ = (boD ρ[i]?).map fun d => ρ.set i (s.put d) := rfl
@[simp] theorem outMap_nx (g : En → Option En) (ρ : En) : outMap g (.nx ρ) = (g ρ).map .nx := rfl
@[simp] theorem outMap_rt (g : En → Option En) (r : Rs) (ρ : En) : outMap g (.rt r ρ) = (g ρ).map (.rt r) := rfl
@[simp] theorem sBor_ap (i : Nat) (F : SF) (ρ : En) : sBor i F ρ = (lendS ρ[i]?).bind fun q => (F (ρ.set i (.bo q.2))).bind (outMap (unlend q.1 i)) := rfl
@[simp] theorem eBor_ap (i : Nat) (E : EF) (ρ : En) : eBor i E ρ = (lendS ρ[i]?).bind fun q => (E (ρ.set i (.bo q.2))).bind fun r => (unlend q.1 i r.2).map fun ρ' => (r.1, ρ') := rfl
@[simp] theorem iBo_ap (i : Nat) (ρ : En) : iBo i ρ = (boD ρ[i]?).bind fun d => (seqD d).bind fun ds => some (ds, ρ) := rfl
@[simp] theorem gRev_l (x : List D) : gRev (.list x) = some (.list x.reverse) := rfl
/-! ### one turn of a loop -/
def forB (G : GF) (F : SF) (dead : List Nat) (d : D) : SF := fun ρ => (G d ρ).bind fun ρ1 => (F ρ1).bind fun o => match o with
  | .nx ρ2 => some (.nx (kill dead ρ2))
  | .ct ρ2 => some (.nx (kill dead ρ2))
  | .bk ρ2 => some (.bk (kill dead ρ2))
  | .rt r ρ2 => some (.rt r ρ2)
@[simp] theorem forB_ap (G : GF) (F : SF) (dead : List Nat) (d : D) (ρ : En) : forB G F dead d ρ = (G d ρ).bind fun ρ1 => (F ρ1).bind fun o => match o with
  | .nx ρ2 => some (.nx (kill dead ρ2))
  | .ct ρ2 => some (.nx (kill dead ρ2))
  | .bk ρ2 => some (.bk (kill dead ρ2))
  | .rt r ρ2 => some (.rt r ρ2) := rfl
theorem forL_B (G : GF) (F : SF) (dead : List Nat) (d : D) (ds : List D) (ρ : En) : forL G F dead (d :: ds) ρ = (forB G F dead d ρ).bind fun o => match o with
  | .nx ρ2 => forL G F dead ds ρ2
  | .ct ρ2 => none
  | .bk ρ2 => some (.nx ρ2)
  | .rt r ρ2 => some (.rt r ρ2) := by
  rw [forL_cons]
  unfold forB
  cases G d ρ with
  | none => rfl
  | some ρ1 =>
    simp only [Option.bind_some]
    cases F ρ1 with
    | none => rfl
    | some o => cases o <;> rfl
theorem forL_fold {α β : Type} {G : GF} {F : SF} {dead : List Nat} (enc : α → D) (ρ : β → En) (step : β → α → β) (P : List α → β → Prop) (h : ∀ x xs b, P (x :: xs) b → forB G F dead (enc x) (ρ b) = some (.nx (ρ (step b x))) ∧ P xs (step b x)) :
    ∀ xs b, P xs b → forL G F dead (xs.map enc) (ρ b) = some (.nx (ρ (xs.foldl step b)))
  | [], b, _ => rfl
  | x :: xs, b, hp => by
    obtain ⟨h1, h2⟩ := h x xs b hp
    rw [List.map_cons, forL_B, h1]
    exact forL_fold enc ρ step P h xs (step b x) h2
/-- the state goes on, or the def returns -/
def runX {α β γ : Type} (step : β → α → β ⊕ γ) : List α → β → β ⊕ γ
  | [], b => .inl b
  | x :: xs, b => match step b x with
    | .inl b' => runX step xs b'
    | .inr c => .inr c
theorem forL_X {α β γ : Type} {G : GF} {F : SF} {dead : List Nat} (enc : α → D) (ρ : β → En) (res : γ → Rs) (step : β → α → β ⊕ γ) (P : List α → β → Prop)
    (h : ∀ x xs b, P (x :: xs) b → (∀ b', step b x = .inl b' → forB G F dead (enc x) (ρ b) = some (.nx (ρ b')) ∧ P xs b') ∧ ∀ c, step b x = .inr c → ∃ ρ', forB G F dead (enc x) (ρ b) = some (.rt (res c) ρ')) :
    ∀ xs b, P xs b → (∀ b', runX step xs b = .inl b' → forL G F dead (xs.map enc) (ρ b) = some (.nx (ρ b')) ∧ P [] b') ∧ ∀ c, runX step xs b = .inr c → ∃ ρ', forL G F dead (xs.map enc) (ρ b) = some (.rt (res c) ρ')
  | [], b, hp => ⟨fun b' e => by cases e; exact ⟨rfl, hp⟩, fun c e => by cases e⟩
  | x :: xs, b, hp => by
    have h1 := h x xs b hp
    cases hs : step b x with
    | inl b' =>
      have h2 := h1.1 b' hs
      have ih := forL_X enc ρ res step P h xs b' h2.2
      have hr : runX step (x :: xs) b = runX step xs b' := by rw [runX, hs]
      rw [hr, List.map_cons, forL_B, h2.1]
      exact ih
    | inr c =>
      obtain ⟨ρ', e⟩ := h1.2 c hs
      have hr : runX step (x :: xs) b = .inr c := by rw [runX, hs]
      rw [hr]
      refine ⟨fun b' e => (by cases e), fun c' e' => ?_⟩
      cases e'
      exact ⟨ρ', by rw [List.map_cons, forL_B, e]; rfl⟩
/-- nothing changes until the def returns -/
theorem forL_find {α γ : Type} {G : GF} {F : SF} {dead : List Nat} (enc : α → D) (ρ : En) (res : γ → Rs) (f : α → Option γ) : ∀ xs : List α,
    (∀ x ∈ xs, (f x = none → forB G F dead (enc x) ρ = some (.nx ρ)) ∧ ∀ c, f x = some c → ∃ ρ', forB G F dead (enc x) ρ = some (.rt (res c) ρ')) →
    (xs.findSome? f = none → forL G F dead (xs.map enc) ρ = some (.nx ρ)) ∧ ∀ c, xs.findSome? f = some c → ∃ ρ', forL G F dead (xs.map enc) ρ = some (.rt (res c) ρ')
  | [], _ => ⟨fun _ => rfl, fun c e => by cases e⟩
  | x :: xs, h => by
    have h1 := h x List.mem_cons_self
    have ih := forL_find enc ρ res f xs fun y hy => h y (List.mem_cons_of_mem _ hy)
    rw [List.findSome?_cons]
    cases hf : f x with
    | none =>
      have h2 := h1.1 hf
      rw [List.map_cons, forL_B, h2]
      exact ih
    | some c =>
      obtain ⟨ρ', e⟩ := h1.2 c hf
      refine ⟨fun e' => (by cases e'), fun c' e' => ?_⟩
      cases e'
      exact ⟨ρ', by rw [List.map_cons, forL_B, e]; rfl⟩
/-! ### while -/
theorem while_inv {β : Type} {T : TF} {F : SF} (ρ : β → En) (c : β → Bool) (step : β → β) (P : β → Prop) (μ : β → Nat)
    (h : ∀ b, P b → T (ρ b) = some (c b, ρ b) ∧ (c b = true → F (ρ b) = some (.nx (ρ (step b))) ∧ P (step b) ∧ μ (step b) < μ b)) : ∀ (n : Nat) (b : β), μ b < n → P b → ∃ b', P b' ∧ c b' = false ∧ whN T F n (ρ b) = some (.nx (ρ b'))
  | 0, b, hn, _ => absurd hn (Nat.not_lt_zero _)
  | n + 1, b, hn, hp => by
    obtain ⟨h1, h2⟩ := h b hp
    cases hc : c b with
    | false =>
      refine ⟨b, hp, hc, ?_⟩
      unfold whN
      rw [h1, hc]
      rfl
    | true =>
      obtain ⟨h3, h4, h5⟩ := h2 hc
      obtain ⟨b', q1, q2, q3⟩ := while_inv ρ c step P μ h n (step b) (by omega) h4
      refine ⟨b', q1, q2, ?_⟩
      unfold whN
      rw [h1, hc]
      simp only [Option.bind_some, if_true, h3]
      exact q3
theorem while_run {β : Type} {T : TF} {F : SF} (ρ : β → En) (c : β → Bool) (step : β → β) (P : β → Prop) (μ : β → Nat)
    (h : ∀ b, P b → T (ρ b) = some (c b, ρ b) ∧ (c b = true → F (ρ b) = some (.nx (ρ (step b))) ∧ P (step b) ∧ μ (step b) < μ b)) (b : β) (hp : P b) : ∃ b', P b' ∧ c b' = false ∧ sWhile T F (ρ b) = some (.nx (ρ b')) := by
  obtain ⟨b', q1, q2, q3⟩ := while_inv ρ c step P μ h (μ b + 1) b (Nat.lt_succ_self _) hp
  exact ⟨b', q1, q2, sWhile_of q3⟩
/-! ### one turn of a list comprehension -/
def lcB (vs : List Nat) (G : GF) (T : TF) (E : EF) (d : D) (ρ : En) : Option (Option D × En) := (G d ρ).bind fun ρ1 => (T ρ1).bind fun p => if p.1 then (E p.2).bind fun q => if noIo vs q.2 then some (some q.1, kill vs q.2) else none
  else if noIo vs p.2 then some (none, kill vs p.2) else none
@[simp] theorem lcB_ap (vs : List Nat) (G : GF) (T : TF) (E : EF) (d : D) (ρ : En) : lcB vs G T E d ρ = (G d ρ).bind fun ρ1 => (T ρ1).bind fun p => if p.1 then (E p.2).bind fun q => if noIo vs q.2 then some (some q.1, kill vs q.2) else none
  else if noIo vs p.2 then some (none, kill vs p.2) else none := rfl
theorem lcL_B (vs : List Nat) (G : GF) (T : TF) (E : EF) (d : D) (ds acc : List D) (ρ : En) (hl : acc.length < 1000000) : lcL vs G T E (d :: ds) acc ρ = (lcB vs G T E d ρ).bind fun q => lcL vs G T E ds (acc ++ q.1.toList) q.2 := by
  rw [lcL_cons]
  unfold lcB
  cases G d ρ with
  | none => rfl
  | some ρ1 =>
    simp only [Option.bind_some]
    cases T ρ1 with
    | none => rfl
    | some p =>
      simp only [Option.bind_some]
      obtain ⟨b, ρ2⟩ := p
      cases b with
      | false =>
        simp only [Bool.false_eq_true, if_false]
        cases noIo vs ρ2 <;> simp
      | true =>
        simp only [if_true]
        cases E ρ2 with
        | none => rfl
        | some q =>
          simp only [Option.bind_some]
          cases hq : noIo vs q.2 <;> simp [hl, hq]
theorem lcL_state {α β : Type} {vs : List Nat} {G : GF} {T : TF} {E : EF} (enc : α → D) (ρ : β → En) (step : β → α → Option D × β) (P : List α → β → Prop) (h : ∀ x xs b, P (x :: xs) b → lcB vs G T E (enc x) (ρ b) = some ((step b x).1, ρ (step b x).2) ∧ P xs (step b x).2) :
    ∀ xs acc b, P xs b → acc.length + xs.length ≤ 1000000 → ∃ ys b', lcL vs G T E (xs.map enc) acc (ρ b) = some (acc ++ ys, ρ b') ∧ P [] b' ∧ ys.length ≤ xs.length
  | [], acc, b, hp, _ => ⟨[], b, by simp [lcL_nil], hp, Nat.le_refl _⟩
  | x :: xs, acc, b, hp, hl => by
    rw [List.length_cons] at hl
    obtain ⟨h1, h2⟩ := h x xs b hp
    have hq : (step b x).1.toList.length ≤ 1 := by cases (step b x).1 <;> simp
    obtain ⟨ys, b', q1, q2, q3⟩ := lcL_state enc ρ step P h xs (acc ++ (step b x).1.toList) (step b x).2 h2 (by rw [List.length_append]; omega)
    refine ⟨(step b x).1.toList ++ ys, b', ?_, q2, by rw [List.length_append, List.length_cons]; omega⟩
    rw [List.map_cons, lcL_B _ _ _ _ _ _ _ _ (by omega), h1]
    simp only [Option.bind_some, q1, List.append_assoc]
theorem lcL_fm {α : Type} {vs : List Nat} {G : GF} {T : TF} {E : EF} (enc : α → D) (ρ : En) (f : α → Option D) : ∀ (xs : List α) (acc : List D), (∀ x ∈ xs, lcB vs G T E (enc x) ρ = some (f x, ρ)) → acc.length + xs.length ≤ 1000000 →
    lcL vs G T E (xs.map enc) acc ρ = some (acc ++ xs.filterMap f, ρ)
  | [], acc, _, _ => by simp [lcL_nil]
  | x :: xs, acc, h, hl => by
    rw [List.length_cons] at hl
    have hq : (f x).toList.length ≤ 1 := by cases f x <;> simp
    rw [List.map_cons, lcL_B _ _ _ _ _ _ _ _ (by omega), h x List.mem_cons_self]
    simp only [Option.bind_some]
    rw [lcL_fm enc ρ f xs _ (fun y hy => h y (List.mem_cons_of_mem _ hy)) (by rw [List.length_append]; omega), List.filterMap_cons]
    cases f x <;> simp
theorem lcL_map {α : Type} {vs : List Nat} {G : GF} {T : TF} {E : EF} (enc : α → D) (ρ : En) (y : α → D) (xs : List α) (h : ∀ x ∈ xs, lcB vs G T E (enc x) ρ = some (some (y x), ρ)) (hl : xs.length ≤ 1000000) :
    lcL vs G T E (xs.map enc) [] ρ = some (xs.map y, ρ) := by
  rw [lcL_fm enc ρ (fun x => some (y x)) xs [] h (by simpa using hl), List.nil_append]
  simp
theorem lcL_filter {α : Type} {vs : List Nat} {G : GF} {T : TF} {E : EF} (enc : α → D) (ρ : En) (t : α → Bool) (y : α → D) (xs : List α) (h : ∀ x ∈ xs, lcB vs G T E (enc x) ρ = some (if t x then some (y x) else none, ρ)) (hl : xs.length ≤ 1000000) :
    lcL vs G T E (xs.map enc) [] ρ = some ((xs.filter t).map y, ρ) := by
  rw [lcL_fm enc ρ _ xs [] h (by simpa using hl), List.nil_append]
  congr 2
  induction xs with
  | nil => rfl
  | cons x xs ih =>
    rw [List.filterMap_cons, List.filter_cons]
    have ih := ih (fun z hz => h z (List.mem_cons_of_mem _ hz)) (by rw [List.length_cons] at hl; omega)
    cases t x <;> simp [ih]
theorem lcL_none {α : Type} {vs : List Nat} {G : GF} {T : TF} {E : EF} (enc : α → D) (ρ : En) (xs : List α) (h : ∀ x ∈ xs, lcB vs G T E (enc x) ρ = some (none, ρ)) (hl : xs.length ≤ 1000000) :
    lcL vs G T E (xs.map enc) [] ρ = some ([], ρ) := by
  rw [lcL_fm enc ρ (fun _ => none) xs [] h (by simpa using hl), List.nil_append]
  simp
/-- a slot that may be empty yet -/
def slO {α : Type} (enc : α → D) : Option α → Sl
  | none => .em
  | some a => .sh (enc a)
@[simp] theorem slO_none {α : Type} (enc : α → D) : slO enc none = .em := rfl
@[simp] theorem slO_some {α : Type} (enc : α → D) (a : α) : slO enc (some a) = .sh (enc a) := rfl
@[simp] theorem isIo_slO {α : Type} (enc : α → D) (o : Option α) : isIo (some (slO enc o)) = false := by cases o <;> rfl
@[simp] theorem emp_slO {α : Type} (enc : α → D) (o : Option α) (ρ : En) : emp 0 (slO enc o :: ρ) = .em :: ρ := by cases o <;> rfl
theorem sSeq_nx {F U : SF} {ρ ρ1 : En} {r : Option Out} (h1 : F ρ = some (.nx ρ1)) (h2 : U ρ1 = r) : sSeq F U ρ = r := by rw [sSeq_ap, h1]; exact h2
theorem sSeq_rt {F U : SF} {ρ ρ1 : En} {x : Rs} (h1 : F ρ = some (.rt x ρ1)) : sSeq F U ρ = some (.rt x ρ1) := by rw [sSeq_ap, h1]; rfl
theorem forB_nx {G : GF} {F : SF} {dead : List Nat} {d : D} {ρ ρ1 ρ2 ρ3 : En} (h1 : G d ρ = some ρ1) (h2 : F ρ1 = some (.nx ρ2)) (h3 : kill dead ρ2 = ρ3) : forB G F dead d ρ = some (.nx ρ3) := by rw [forB_ap, h1]; simp only [Option.bind_some, h2, h3]
theorem forB_rt {G : GF} {F : SF} {dead : List Nat} {d : D} {ρ ρ1 ρ2 : En} {x : Rs} (h1 : G d ρ = some ρ1) (h2 : F ρ1 = some (.rt x ρ2)) : forB G F dead d ρ = some (.rt x ρ2) := by rw [forB_ap, h1]; simp only [Option.bind_some, h2]
end Fc
set_option maxHeartbeats 4000000
set_option Elab.async false
set_option linter.all false
set_option maxRecDepth 100000
namespace Fc
open PySem L2
/-! ### rows, beat by beat -/
def runCh (su : Setup) (rs : List Rw) : Sta → List Com → List Chair
  | _, [] => []
  | s, c :: cs => (beatT su rs s c).chair :: runCh su rs (beatT su rs s c).st cs
def runSt (su : Setup) (rs : List Rw) : Sta → List Com → Sta
  | s, [] => s
  | s, c :: cs => runSt su rs (beatT su rs s c).st cs
def eRow (row : List Com) : D := .list (row.map eCom)
def eChs (cs : List Chair) : D := .list (cs.map eChair)
def RowOk (su : Setup) (row : List Com) : Prop := ∀ c ∈ row, ComOk su c
section
variable {su : Setup} {rs : List Rw}
theorem runSt_app : ∀ (a b : List Com) (s : Sta), runSt su rs s (a ++ b) = runSt su rs (runSt su rs s a) b
  | [], b, s => rfl
  | c :: a, b, s => runSt_app a b _
theorem runCh_app : ∀ (a b : List Com) (s : Sta), runCh su rs s (a ++ b) = runCh su rs s a ++ runCh su rs (runSt su rs s a) b
  | [], b, s => rfl
  | c :: a, b, s => by
    show _ :: runCh su rs _ (a ++ b) = _
    rw [runCh_app a b]
    rfl
theorem runCh_len : ∀ (a : List Com) (s : Sta), (runCh su rs s a).length = a.length
  | [], s => rfl
  | c :: a, s => by rw [runCh, List.length_cons, runCh_len a, List.length_cons]
theorem run_gd (S : SuOk su) (R : RuOk rs) : ∀ (a : List Com) {s : Sta}, Gd su s → RowOk su a → Gd su (runSt su rs s a)
  | [], s, h, _ => h
  | c :: a, s, h, hr => run_gd S R a (beat_gd S R h (hr c List.mem_cons_self)) fun d hd => hr d (List.mem_cons_of_mem _ hd)
theorem run_ok (S : SuOk su) : ∀ (a : List Com) {s : Sta}, StOk su s → RowOk su a → StOk su (runSt su rs s a)
  | [], s, h, _ => h
  | c :: a, s, h, hr => run_ok S a (beat_ok S h (hr c List.mem_cons_self)) fun d hd => hr d (List.mem_cons_of_mem _ hd)
end
@[simp] theorem isi_eRow (row : List Com) : gIsi "list" (eRow row) = some (.bool true) := rfl
@[simp] theorem len_eRow (row : List Com) : gLenA (eRow row) = some (.int row.length) := by show some (PyData.int ((row.map eCom).length : Nat)) = _; rw [List.length_map]
@[simp] theorem seq_eRow (row : List Com) : seqD (eRow row) = some (row.map eCom) := rfl
@[simp] theorem seq_eChs (cs : List Chair) : seqD (eChs cs) = some (cs.map eChair) := rfl
end Fc
set_option maxHeartbeats 4000000
set_option Elab.async false
set_option linter.all false
set_option maxRecDepth 100000
namespace Fc
open PySem L2
/-! ### what is drawn -/
def eDk (d : Int × Int) : D := .list [.int d.1, .int d.2]
def takeT (d : Int × Int) (m : Int) : Int × (Int × Int) :=
  if 0 < d.1 then (d.1 % m, (d.1 / m, d.2)) else
    (d.2 * 48271 % 2147483647 * (d.2 * 48271 % 2147483647) % 2147483629 * 40692 % 2147483399 / 8 % m, (d.1, d.2 * 48271 % 2147483647))
theorem take_lo (d : Int × Int) {m : Int} (h : 0 < m) : 0 ≤ (takeT d m).1 := by
  unfold takeT
  split <;> exact Int.emod_nonneg _ (by omega)
theorem take_hi (d : Int × Int) {m : Int} (h : 0 < m) : (takeT d m).1 < m := by
  unfold takeT
  split <;> exact Int.emod_lt_of_pos _ h
@[simp] theorem ixN_20 : ixN 2 0 = some 0 := by decide
@[simp] theorem ixN_21 : ixN 2 1 = some 1 := by decide
@[simp] theorem ownD_eDk (d : Int × Int) : ownD (some (.io (eDk d))) = some (eDk d) := rfl
@[simp] theorem fn_L_take_eq (d : Int × Int) (m : Int) (h : 0 < m) (h2 : m < 1073741824) : fn_L_take [eDk d, .int m] = some (.sh (.int (takeT d m).1), [eDk (takeT d m).2]) := by
  obtain ⟨a, b⟩ := d
  have h3 : 0 ≤ b * 48271 % 2147483647 := Int.emod_nonneg _ (by decide)
  have h4 : b * 48271 % 2147483647 < 2147483647 := Int.emod_lt_of_pos _ (by decide)
  by_cases ha : 0 < a
  · simp [fn_L_take, F_L_take, eDk, takeT, ha, h, h2]
  · have h5 : -18446744073709551616 < b * 48271 % 2147483647 ∧ b * 48271 % 2147483647 < 18446744073709551616 := by omega
    simp [fn_L_take, F_L_take, eDk, takeT, ha, h, h2, h5]
theorem fn_L_deck_eq (ns : List Int) (k : Nat) : ∃ d, fn_L_deck [scrD ns, .int k] = some (.ow (eDk d), []) := by
  by_cases h : k < ns.length
  · have e : atI ns (k : Int) = some ns[k] := atI_nat (List.getElem?_eq_getElem h)
    refine ⟨(mx 0 (ab ns[k] - 10 ^ 18), (ab ns[k] + 7919 * k) % 2147483629 + 1), ?_⟩
    simp [fn_L_deck, F_L_deck, eDk, h, e]
  · refine ⟨(mx 0 (0 - 10 ^ 18), (0 + 7919 * k) % 2147483629 + 1), ?_⟩
    simp [fn_L_deck, F_L_deck, eDk, h]
theorem draw_loop {α : Type} {vs : List Nat} {G : GF} {E : EF} (enc : α → D) (Q : α → Prop) (ρd : Int × Int → En)
    (h : ∀ d (x : Int), ∃ ρ1 y d' ρ2, G (.int x) (ρd d) = some ρ1 ∧ E ρ1 = some (enc y, ρ2) ∧ noIo vs ρ2 = true ∧ kill vs ρ2 = ρd d' ∧ Q y) :
    ∀ (L : List Int) (acc : List D) (d : Int × Int), acc.length + L.length ≤ 1000000 → ∃ (ys : List α) (d' : Int × Int), lcL vs G tfYes E (L.map PyData.int) acc (ρd d) = some (acc ++ ys.map enc, ρd d') ∧ ys.length = L.length ∧ ∀ y ∈ ys, Q y
  | [], acc, d, hl => ⟨[], d, by simp [lcL_nil], rfl, fun y hy => nomatch hy⟩
  | x :: L, acc, d, hl => by
    rw [List.length_cons] at hl
    obtain ⟨ρ1, y, d1, ρ2, h1, h2, h3, h4, h5⟩ := h d x
    obtain ⟨ys, d', e1, e2, e3⟩ := draw_loop enc Q ρd h L (acc ++ [enc y]) d1 (by rw [List.length_append]; simp; omega)
    refine ⟨y :: ys, d', ?_, by rw [List.length_cons, List.length_cons, e2], fun z hz => ?_⟩
    · rw [List.map_cons, lcL_cons, h1]
      simp only [Option.bind_some, tfYes_ap, if_true, h2, h3, h4, and_true, show acc.length < 1000000 by omega, e1, List.append_assoc, List.map_cons, List.singleton_append]
    · rcases List.mem_cons.mp hz with rfl | hz
      · exact h5
      · exact e3 z hz
theorem sizes_loop (M N : D) : ∀ (L : List Int) (acc : List D) (d : Int × Int), acc.length + L.length ≤ 1000 → ∃ (ys : List Int) (d' : Int × Int), lcL [4] (gNm 4) F_L_sizes_c1 (eVar 4) (L.map PyData.int) acc [.io (eDk d), .sh M, .sh N, .em, .em] = some (acc ++ ys.map PyData.int, [.io (eDk d'), .sh M, .sh N, .em, .em]) ∧ ys.Sublist L
  | [], acc, d, h => ⟨[], d, by simp [lcL_nil], .slnil⟩
  | x :: L, acc, d, h => by
    rw [List.length_cons] at h
    have ht : F_L_sizes_c1 [.io (eDk d), .sh M, .sh N, .em, .sh (.int x)] = some (decide ((takeT d 2).1 = 1), [.io (eDk (takeT d 2).2), .sh M, .sh N, .em, .sh (.int x)]) := by
      simp [F_L_sizes_c1]
      rfl
    by_cases hk : (takeT d 2).1 = 1
    · obtain ⟨ys, d', e1, e2⟩ := sizes_loop M N L (acc ++ [.int x]) (takeT d 2).2 (by rw [List.length_append]; simp; omega)
      refine ⟨x :: ys, d', ?_, e2.cons₂ x⟩
      rw [List.map_cons, lcL_cons]
      simp [ht, hk, show acc.length < 1000000 by omega, e1]
    · obtain ⟨ys, d', e1, e2⟩ := sizes_loop M N L acc (takeT d 2).2 (by omega)
      refine ⟨ys, d', ?_, e2.cons x⟩
      rw [List.map_cons, lcL_cons]
      simp [ht, hk, e1]
@[simp] theorem okD_ints (xs : List Int) : okD (.list (xs.map PyData.int)) = true := (Ok.lst (n := 0) (Ok.map (fun a => .int a) xs)).ok (by decide)
@[simp] theorem eqv_ints_nil (xs : List Int) : PyData.eqv (.list (xs.map PyData.int)) (.list []) = decide (xs = []) := by
  have := eqvAll_map eqv_i xs []
  rw [List.map_nil] at this
  rw [eqv_lst, this]
@[simp] theorem eqv_nn : PyData.eqv (.list []) (.list []) = true := by rw [eqv_lst, eqvAll_nil]
theorem fn_L_sizes_eq (d : Int × Int) (most many : Int) (h1 : 1 ≤ most) (h2 : most ≤ 100) (h3 : 1 ≤ many) : ∃ xs d', fn_L_sizes [eDk d, .int most, .int many] = some (.sh (eTI xs), [eDk d']) ∧ 1 ≤ xs.length ∧ (xs.length : Int) ≤ many ∧ (∀ x ∈ xs, 1 ≤ x ∧ x ≤ most) ∧ xs.Pairwise (· < ·) := by
  obtain ⟨ys, d1, e1, e2⟩ := sizes_loop (.int most) (.int many) (rng2 1 (most + 1)) [] d (by rw [rng2_len]; simp; omega)
  have hm : ∀ x ∈ ys, 1 ≤ x ∧ x ≤ most := fun x hx => by have := rng2_mem (e2.subset hx); omega
  have hp : ys.Pairwise (· < ·) := (rng2_up 1 (most + 1)).sublist e2
  have hq : most + 1 ≤ 1000000 ∧ -1000000 ≤ most + 1 := by omega
  have hmany : 0 ≤ many := by omega
  rw [List.nil_append] at e1
  by_cases h : ys = []
  · subst h
    have hc : cutD [PyData.int (1 + (takeT d1 most).1)] none (some many) = [PyData.int (1 + (takeT d1 most).1)] := by
      rw [cut_upI _ hmany]
      exact List.take_of_length_le (by simp; omega)
    refine ⟨[1 + (takeT d1 most).1], (takeT d1 most).2, ?_, Nat.le_refl _, by simpa using h3, fun x hx => ?_, List.pairwise_singleton _ _⟩
    · simp [fn_L_sizes, F_L_sizes, hq, e1, show 0 < most by omega, show most < 1073741824 by omega, hc]
      rfl
    · have := List.mem_singleton.mp hx
      have t1 := take_lo d1 (m := most) (by omega)
      have t2 := take_hi d1 (m := most) (by omega)
      omega
  · refine ⟨ys.take many.toNat, d1, ?_, ?_, ?_, fun x hx => hm x (List.mem_of_mem_take hx), hp.sublist (List.take_sublist _ _)⟩
    · simp [fn_L_sizes, F_L_sizes, hq, e1, h, cut_upI _ hmany, ← List.map_take]
      rfl
    · rw [List.length_take]
      have : 0 < ys.length := List.length_pos_iff.mpr h
      omega
    · rw [List.length_take]; omega
end Fc
set_option maxHeartbeats 4000000
set_option Elab.async false
set_option linter.all false
set_option maxRecDepth 100000
namespace Fc
open PySem L2
def RangeOk (p : Int × Int) : Prop := 0 ≤ p.1 ∧ p.1 ≤ p.2 ∧ p.2 ≤ 9
def rangeT (d : Int × Int) : (Int × Int) × (Int × Int) :=
  if (takeT d 3).1 = 0 then ((0, 9), (takeT d 3).2) else
  if (takeT d 3).1 = 1 then (((takeT (takeT d 3).2 6).1, (takeT (takeT d 3).2 6).1), (takeT (takeT d 3).2 6).2) else
    (((takeT (takeT d 3).2 6).1, (takeT (takeT d 3).2 6).1 + (takeT (takeT (takeT d 3).2 6).2 (10 - (takeT (takeT d 3).2 6).1)).1), (takeT (takeT (takeT d 3).2 6).2 (10 - (takeT (takeT d 3).2 6).1)).2)
@[simp] theorem fn_L_range_eq (d : Int × Int) : fn_L_range [eDk d] = some (.sh (eP (rangeT d).1), [eDk (rangeT d).2]) := by
  have a1 := take_lo (takeT d 3).2 (m := 6) (by decide)
  have a2 := take_hi (takeT d 3).2 (m := 6) (by decide)
  by_cases h : (takeT d 3).1 = 0
  · simp [fn_L_range, F_L_range, rangeT, h, eP]
  · by_cases h1 : (takeT d 3).1 = 1
    · simp [fn_L_range, F_L_range, rangeT, h1, eP]
    · simp [fn_L_range, F_L_range, rangeT, h, h1, eP, fn_L_take_eq (takeT (takeT d 3).2 6).2 (10 - (takeT (takeT d 3).2 6).1) (by omega) (by omega)]
theorem rangeT_ok (d : Int × Int) : RangeOk (rangeT d).1 := by
  have a1 := take_lo (takeT d 3).2 (m := 6) (by decide)
  have a2 := take_hi (takeT d 3).2 (m := 6) (by decide)
  have a3 := take_lo (takeT (takeT d 3).2 6).2 (m := 10 - (takeT (takeT d 3).2 6).1) (by omega)
  have a4 := take_hi (takeT (takeT d 3).2 6).2 (m := 10 - (takeT (takeT d 3).2 6).1) (by omega)
  unfold rangeT RangeOk
  split
  · simp
  · split
    · dsimp only; omega
    · dsimp only; omega
/-! ### rules -/
def deedsL (n : Nat) : List Dk := [.group, .single, .go, .group, .single, .part].take n
def eDks (ds : List Dk) : D := .list (ds.map fun d => .str d.s)
theorem ix_eDks {ds : List Dk} {t : Int} (h0 : 0 ≤ t) (h1 : t < ds.length) : ∃ k, k ∈ ds ∧ gIxA (eDks ds) (.int t) = some (.str k.s) := by
  have hl : t.toNat < ds.length := by omega
  refine ⟨ds[t.toNat], List.getElem_mem hl, ?_⟩
  have e : (ds.map fun d => PyData.str d.s)[t.toNat]? = some (.str ds[t.toNat].s) := by rw [List.getElem?_map, List.getElem?_eq_getElem hl]; rfl
  have := atI_nat e
  rw [Int.toNat_of_nonneg h0] at this
  exact this
@[simp] theorem len_eDks (ds : List Dk) : gLenA (eDks ds) = some (.int ds.length) := by show some (PyData.int ((ds.map fun d => PyData.str d.s).length : Nat)) = _; rw [List.length_map]
@[simp] theorem ownL_eRws (rs : List Rw) : ownL (some (.ow (.list (rs.map eRw)))) = some (rs.map eRw) := rfl
theorem rule_ranges (d : Int × Int) (M O P S : D) (R : D) (k : D) : ∃ (ps : List (Int × Int)) (d' : Int × Int), lcL [12] (gNm 12) tfYes F_L_rule_e1 ((rng0 3).map PyData.int) [] [.io (eDk d), .sh M, .sh O, .sh P, .sh S, .ow R, .sh k, .em, .em, .em, .em, .em, .em] = some (ps.map eP, [.io (eDk d'), .sh M, .sh O, .sh P, .sh S, .ow R, .sh k, .em, .em, .em, .em, .em, .em]) ∧ ps.length = 3 ∧ ∀ p ∈ ps, RangeOk p := by
  obtain ⟨ys, d1, e1, e2, e3⟩ := draw_loop (vs := [12]) (G := gNm 12) (E := F_L_rule_e1) eP RangeOk (fun d => [.io (eDk d), .sh M, .sh O, .sh P, .sh S, .ow R, .sh k, .em, .em, .em, .em, .em, .em])
    (fun d x => ⟨[.io (eDk d), .sh M, .sh O, .sh P, .sh S, .ow R, .sh k, .em, .em, .em, .em, .em, .sh (.int x)], (rangeT d).1, (rangeT d).2, [.io (eDk (rangeT d).2), .sh M, .sh O, .sh P, .sh S, .ow R, .sh k, .em, .em, .em, .em, .em, .sh (.int x)], by simp, by simp [F_L_rule_e1], by simp, by simp, rangeT_ok d⟩) (rng0 3) [] d (by simp)
  exact ⟨ys, d1, e1, by rw [e2, rng0_len]; rfl, e3⟩
theorem rule_loop1 (M P : D) (moods : Int) (hm : 1 ≤ moods ∧ moods ≤ 3) (ds : List Dk) (hd : 1 ≤ ds.length ∧ ds.length ≤ 10) : ∀ (L : List Int) (rs : List Rw) (d : Int × Int), rs.length + L.length ≤ 1000 → (∀ r ∈ rs, RwOk r) →
    ∃ (rs' : List Rw) (d' : Int × Int), forL (gNm 6) F_L_rule_b1 [6, 7, 8] (L.map PyData.int) [.io (eDk d), .sh M, .sh (.int moods), .sh P, .sh (eDks ds), .ow (.list (rs.map eRw)), .em, .em, .em, .em, .em, .em, .em] = some (.nx [.io (eDk d'), .sh M, .sh (.int moods), .sh P, .sh (eDks ds), .ow (.list (rs'.map eRw)), .em, .em, .em, .em, .em, .em, .em]) ∧ rs'.length = rs.length + L.length ∧ ∀ r ∈ rs', RwOk r
  | [], rs, d, hl, hr => ⟨rs, d, by rw [List.map_nil, forL_nil], rfl, hr⟩
  | x :: L, rs, d, hl, hr => by
    rw [List.length_cons] at hl
    obtain ⟨ps, d1, e1, e2, e3⟩ := rule_ranges d M (.int moods) P (eDks ds) (.list (rs.map eRw)) (.int x)
    obtain ⟨p0, p1, p2, rfl⟩ : ∃ p0 p1 p2, ps = [p0, p1, p2] := by
      match ps, e2 with
      | [p0, p1, p2], _ => exact ⟨p0, p1, p2, rfl⟩
    have q0 := e3 p0 (by simp)
    have q1 := e3 p1 (by simp)
    have q2 := e3 p2 (by simp)
    have a1 := take_lo d1 (m := ds.length) (by omega)
    have a2 := take_hi d1 (m := ds.length) (by omega)
    obtain ⟨k, hk, ek⟩ := ix_eDks a1 a2
    have b1 := take_lo (takeT d1 ds.length).2 (m := moods) (by omega)
    have b2 := take_hi (takeT d1 ds.length).2 (m := moods) (by omega)
    have c1 := take_lo (takeT (takeT d1 ds.length).2 moods).2 (m := moods) (by omega)
    have c2 := take_hi (takeT (takeT d1 ds.length).2 moods).2 (m := moods) (by omega)
    let r : Rw := ⟨(takeT (takeT d1 ds.length).2 moods).1, p0, p1, p2, k, (takeT (takeT (takeT d1 ds.length).2 moods).2 moods).1⟩
    obtain ⟨rs', d', f1, f2, f3⟩ := rule_loop1 M P moods hm ds hd L (rs ++ [r]) (takeT (takeT (takeT d1 ds.length).2 moods).2 moods).2 (by rw [List.length_append]; simp; omega) (fun z hz => by
      rcases List.mem_append.mp hz with hz | hz
      · exact hr z hz
      · rw [List.mem_singleton.mp hz]
        exact ⟨by dsimp only [r]; omega, q0, q1, q2, by dsimp only [r]; omega⟩)
    refine ⟨rs', d', ?_, by rw [f2, List.length_append, List.length_cons]; simp; omega, f3⟩
    have hb : F_L_rule_b1 [.io (eDk d), .sh M, .sh (.int moods), .sh P, .sh (eDks ds), .ow (.list (rs.map eRw)), .sh (.int x), .em, .em, .em, .em, .em, .em] = some (.nx [.io (eDk (takeT (takeT (takeT d1 ds.length).2 moods).2 moods).2), .sh M, .sh (.int moods), .sh P, .sh (eDks ds), .ow (.list ((rs ++ [r]).map eRw)), .sh (.int x), .sh (.list [eP p0, eP p1, eP p2]), .sh (.str k.s), .em, .em, .em, .em]) := by
      have e1' := e1
      simp at e1'
      simp [F_L_rule_b1, e1', show (0 : Int) < ds.length by omega, show 0 < ds.length by omega, show (ds.length : Int) < 1073741824 by omega, ek, show 0 < moods by omega, show moods < 1073741824 by omega, show rs.length < 1000000 by omega, r, eRw]
    rw [List.map_cons, forL_cons]
    simp at f1 hb
    simp [hb, f1]
theorem four {t : Int} (h0 : 0 ≤ t) (h1 : t < 4) : t = 0 ∨ t = 1 ∨ t = 2 ∨ t = 3 := by omega
theorem ix_left {t : Int} (h0 : 0 ≤ t) (h1 : t < 4) (q : Int × Int) (hq : RangeOk q) : ∃ p, RangeOk p ∧ atI [PyData.tuple [.int 0, .int 9], .tuple [.int 0, .int 9], .tuple [.int 0, .int 9], eP q] t = some (eP p) := by
  have h9 : RangeOk (0, 9) := by unfold RangeOk; simp
  rcases four h0 h1 with rfl | rfl | rfl | rfl
  · exact ⟨(0, 9), h9, by rw [atI_0]; rfl⟩
  · exact ⟨(0, 9), h9, by rw [atI_1]; rfl⟩
  · exact ⟨(0, 9), h9, by rw [atI_2]; rfl⟩
  · exact ⟨q, hq, by rw [atI_3]⟩
theorem ix_order {t : Int} (h0 : 0 ≤ t) (h1 : t < 4) : ∃ o : List Dk, o.length ≤ 2 ∧ atI [PyData.list [.str "group", .str "single"], .list [.str "single", .str "group"], .list [.str "group"], .list [.str "single"]] t = some (eDks o) := by
  rcases four h0 h1 with rfl | rfl | rfl | rfl
  · exact ⟨[.group, .single], by decide, by rw [atI_0]; rfl⟩
  · exact ⟨[.single, .group], by decide, by rw [atI_1]; rfl⟩
  · exact ⟨[.group], by decide, by rw [atI_2]; rfl⟩
  · exact ⟨[.single], by decide, by rw [atI_3]; rfl⟩
theorem add_part (o : List Dk) (h : o.length ≤ 1000) : gAdd (eDks o) (.list [.str "part"]) = some (eDks (o ++ [.part])) := by
  unfold eDks
  rw [gAdd_lst, if_pos (by simp; omega), List.map_append]
  rfl
theorem rule_loop2 (M P S Z : D) (moods mood : Int) (hm : 1 ≤ moods ∧ moods ≤ 3) (hmo : 0 ≤ mood ∧ mood ≤ 2) : ∀ (o : List Dk) (rs : List Rw) (d : Int × Int), rs.length + o.length ≤ 1000 → (∀ r ∈ rs, RwOk r) →
    ∃ (rs' : List Rw) (d' : Int × Int), forL (gNm 8) F_L_rule_b2 [8, 11] (o.map fun d => PyData.str d.s) [.io (eDk d), .sh M, .sh (.int moods), .sh P, .sh S, .ow (.list (rs.map eRw)), .em, .em, .em, .sh (.int mood), .sh Z, .em, .em] = some (.nx [.io (eDk d'), .sh M, .sh (.int moods), .sh P, .sh S, .ow (.list (rs'.map eRw)), .em, .em, .em, .sh (.int mood), .sh Z, .em, .em]) ∧ rs'.length = rs.length + o.length ∧ ∀ r ∈ rs', RwOk r
  | [], rs, d, hl, hr => ⟨rs, d, by rw [List.map_nil, forL_nil], rfl, hr⟩
  | k :: o, rs, d, hl, hr => by
    rw [List.length_cons] at hl
    have a1 := take_lo (rangeT d).2 (m := 4) (by decide)
    have a2 := take_hi (rangeT d).2 (m := 4) (by decide)
    obtain ⟨p, hp, ep⟩ := ix_left a1 a2 (rangeT d).1 (rangeT_ok d)
    have c1 := take_lo (takeT (rangeT d).2 4).2 (m := moods) (by omega)
    have c2 := take_hi (takeT (rangeT d).2 4).2 (m := moods) (by omega)
    let r : Rw := ⟨mood, (0, 9), p, (0, 9), k, (takeT (takeT (rangeT d).2 4).2 moods).1⟩
    obtain ⟨rs', d', f1, f2, f3⟩ := rule_loop2 M P S Z moods mood hm hmo o (rs ++ [r]) (takeT (takeT (rangeT d).2 4).2 moods).2 (by rw [List.length_append]; simp; omega) (fun z hz => by
      rcases List.mem_append.mp hz with hz | hz
      · exact hr z hz
      · rw [List.mem_singleton.mp hz]
        exact ⟨by dsimp only [r]; omega, by simp [r], hp, by simp [r], by dsimp only [r]; omega⟩)
    refine ⟨rs', d', ?_, by rw [f2, List.length_append, List.length_cons]; simp; omega, f3⟩
    have hb : F_L_rule_b2 [.io (eDk d), .sh M, .sh (.int moods), .sh P, .sh S, .ow (.list (rs.map eRw)), .em, .em, .sh (.str k.s), .sh (.int mood), .sh Z, .em, .em] = some (.nx [.io (eDk (takeT (takeT (rangeT d).2 4).2 moods).2), .sh M, .sh (.int moods), .sh P, .sh S, .ow (.list ((rs ++ [r]).map eRw)), .em, .em, .sh (.str k.s), .sh (.int mood), .sh Z, .sh (eP p), .em]) := by
      simp [F_L_rule_b2, ep, show 0 < moods by omega, show moods < 1073741824 by omega, show rs.length < 1000000 by omega, r, eRw]
      simp [eP]
    rw [List.map_cons, forL_cons]
    simp at f1 hb
    simp [hb, f1]
theorem rule_loop3 (M S : D) (parts moods : Int) (hm : 1 ≤ moods ∧ moods ≤ 3) : ∀ (L : List Int) (rs : List Rw) (d : Int × Int), (∀ x ∈ L, 0 ≤ x ∧ x ≤ 2) → rs.length + 3 * L.length ≤ 900 → (∀ r ∈ rs, RwOk r) →
    ∃ (rs' : List Rw) (d' : Int × Int), forL (gNm 9) F_L_rule_b3 [8, 9, 10, 11] (L.map PyData.int) [.io (eDk d), .sh M, .sh (.int moods), .sh (.int parts), .sh S, .ow (.list (rs.map eRw)), .em, .em, .em, .em, .em, .em, .em] = some (.nx [.io (eDk d'), .sh M, .sh (.int moods), .sh (.int parts), .sh S, .ow (.list (rs'.map eRw)), .em, .em, .em, .em, .em, .em, .em]) ∧ ∀ r ∈ rs', RwOk r
  | [], rs, d, hx, hl, hr => ⟨rs, d, by rw [List.map_nil, forL_nil], hr⟩
  | x :: L, rs, d, hx, hl, hr => by
    rw [List.length_cons] at hl
    have a1 := take_lo d (m := 4) (by decide)
    have a2 := take_hi d (m := 4) (by decide)
    obtain ⟨o, ho, eo⟩ := ix_order a1 a2
    have key : ∃ (o' : List Dk) (d1 : Int × Int), o'.length ≤ 3 ∧ (∀ U : SF, sSeq (sIf (fAnd (tOf (eOp (gEq) (.v 3) (.e (eC (.int 1))))) (tOf (eOp (gEq) (.e (eCall [.io 0, .e (eC (.int 3))] [] fn_L_take)) (.e (eC (.int 1)))))) (sAsg (eOp gAdd (.v 10) (.e (eLst [eC (.str "part")]))) (gNm 10)) (sNext)) U [.io (eDk (takeT d 4).2), .sh M, .sh (.int moods), .sh (.int parts), .sh S, .ow (.list (rs.map eRw)), .em, .em, .em, .sh (.int x), .sh (eDks o), .em, .em] = U [.io (eDk d1), .sh M, .sh (.int moods), .sh (.int parts), .sh S, .ow (.list (rs.map eRw)), .em, .em, .em, .sh (.int x), .sh (eDks o'), .em, .em]) := by
      by_cases hp : parts = 1
      · by_cases hk : (takeT (takeT d 4).2 3).1 = 1
        · exact ⟨o ++ [.part], (takeT (takeT d 4).2 3).2, by simp; omega, fun U => by simp [hp, hk, add_part o (by omega)]⟩
        · exact ⟨o, (takeT (takeT d 4).2 3).2, by omega, fun U => by simp [hp, hk]⟩
      · exact ⟨o, (takeT d 4).2, by omega, fun U => by simp [hp]⟩
    obtain ⟨o', d1, ho', ek⟩ := key
    obtain ⟨rs1, d2, g1, g2, g3⟩ := rule_loop2 M (.int parts) S (eDks o') moods x hm (hx x List.mem_cons_self) o' rs d1 (by omega) hr
    obtain ⟨rs', d', f1, f3⟩ := rule_loop3 M S parts moods hm L rs1 d2 (fun z hz => hx z (List.mem_cons_of_mem _ hz)) (by omega) g3
    refine ⟨rs', d', ?_, f3⟩
    have hb : F_L_rule_b3 [.io (eDk d), .sh M, .sh (.int moods), .sh (.int parts), .sh S, .ow (.list (rs.map eRw)), .em, .em, .em, .sh (.int x), .em, .em, .em] = some (.nx [.io (eDk d2), .sh M, .sh (.int moods), .sh (.int parts), .sh S, .ow (.list (rs1.map eRw)), .em, .em, .em, .sh (.int x), .sh (eDks o'), .em, .em]) := by
      unfold F_L_rule_b3
      rw [sSeq_ap]
      have e1 : sAsg (eOp gIxA (.e (eLst [eLst [eC (.str "group"), eC (.str "single")], eLst [eC (.str "single"), eC (.str "group")], eLst [eC (.str "group")], eLst [eC (.str "single")]])) (.e (eCall [.io 0, .e (eC (.int 4))] [] fn_L_take))) (gNm 10) [.io (eDk d), .sh M, .sh (.int moods), .sh (.int parts), .sh S, .ow (.list (rs.map eRw)), .em, .em, .em, .sh (.int x), .em, .em, .em] = some (.nx [.io (eDk (takeT d 4).2), .sh M, .sh (.int moods), .sh (.int parts), .sh S, .ow (.list (rs.map eRw)), .em, .em, .em, .sh (.int x), .sh (eDks o), .em, .em]) := by
        simp [eo]
      rw [e1]
      simp only [Option.bind_some, sThen_nx]
      rw [ek]
      simp [show seqD (eDks o') = some (o'.map fun d => PyData.str d.s) from rfl, g1]
    rw [List.map_cons, forL_cons]
    simp [hb, f1]
theorem fn_L_rule_eq (d : Int × Int) (most moods parts : Int) (h1 : 0 ≤ most ∧ most ≤ 8) (h2 : 1 ≤ moods ∧ moods ≤ 3) (h3 : parts = 0 ∨ parts = 1) : ∃ rs d', fn_L_rule [eDk d, .int most, .int moods, .int parts] = some (.sh (eRule rs), [eDk d']) ∧ RuOk rs := by
  obtain ⟨ds, hd, ed⟩ : ∃ ds : List Dk, (1 ≤ ds.length ∧ ds.length ≤ 10) ∧ cutD [PyData.str "group", .str "single", .str "go", .str "group", .str "single", .str "part"] none (some (5 + parts)) = ds.map fun d => PyData.str d.s := by
    rcases h3 with rfl | rfl
    · exact ⟨[.group, .single, .go, .group, .single], by decide, by rw [cut_upI _ (by decide)]; rfl⟩
    · exact ⟨[.group, .single, .go, .group, .single, .part], by decide, by rw [cut_upI _ (by decide)]; rfl⟩
  by_cases hk : (takeT d 2).1 = 1
  · have a1 := take_lo (takeT d 2).2 (m := most + 1) (by omega)
    have a2 := take_hi (takeT d 2).2 (m := most + 1) (by omega)
    obtain ⟨rs, d1, e1, e2, e3⟩ := rule_loop1 (.int most) (.int parts) moods h2 ds hd (rng0 (takeT (takeT d 2).2 (most + 1)).1) [] (takeT (takeT d 2).2 (most + 1)).2 (by simp; omega) (fun r hr => nomatch hr)
    refine ⟨rs, d1, ?_, ⟨by rw [e2, rng0_len]; simp; omega, e3⟩⟩
    have hq : (takeT (takeT d 2).2 (most + 1)).1 ≤ 1000000 ∧ -1000000 ≤ (takeT (takeT d 2).2 (most + 1)).1 := by omega
    have e1' : forL (gNm 6) F_L_rule_b1 [6, 7, 8] ((rng0 (takeT (takeT d 2).2 (most + 1)).1).map PyData.int) [.io (eDk (takeT (takeT d 2).2 (most + 1)).2), .sh (.int most), .sh (.int moods), .sh (.int parts), .sh (.list (ds.map fun d => PyData.str d.s)), .ow (.list []), .em, .em, .em, .em, .em, .em, .em] = _ := e1
    simp [fn_L_rule, F_L_rule, ed, hk, show 0 < most + 1 by omega, show most + 1 < 1073741824 by omega, hq, e1']
    rfl
  · obtain ⟨rs, d1, e1, e3⟩ := rule_loop3 (.int most) (eDks ds) parts moods h2 (rng0 moods) [] (takeT d 2).2 (fun x hx => by have := rng0_mem hx; omega) (by simp; omega) (fun r hr => nomatch hr)
    refine ⟨rs.take 8, d1, ?_, ⟨by rw [List.length_take]; omega, fun r hr => e3 r (List.mem_of_mem_take hr)⟩⟩
    have hq : moods ≤ 1000000 ∧ -1000000 ≤ moods := by omega
    have e1' : forL (gNm 9) F_L_rule_b3 [8, 9, 10, 11] ((rng0 moods).map PyData.int) [.io (eDk (takeT d 2).2), .sh (.int most), .sh (.int moods), .sh (.int parts), .sh (.list (ds.map fun d => PyData.str d.s)), .ow (.list []), .em, .em, .em, .em, .em, .em, .em] = _ := e1
    simp [fn_L_rule, F_L_rule, ed, hk, hq, e1', cut_upI, ← List.map_take]
    rfl
end Fc
set_option maxHeartbeats 4000000
set_option Elab.async false
set_option linter.all false
set_option maxRecDepth 100000
namespace Fc
open PySem L2
def eLI (l : List Int) : D := .list (l.map PyData.int)
@[simp] theorem ownL_eLI (l : List Int) : ownL (some (.ow (eLI l))) = some (l.map PyData.int) := rfl
@[simp] theorem ownD_eLI (l : List Int) : ownD (some (.ow (eLI l))) = some (eLI l) := rfl
@[simp] theorem len_eLI (l : List Int) : gLenA (eLI l) = some (.int l.length) := by show some (PyData.int ((l.map PyData.int).length : Nat)) = _; rw [List.length_map]
@[simp] theorem tuple_eLI (l : List Int) : gTuple (eLI l) = some (eTI l) := rfl
@[simp] theorem list_eTI (l : List Int) : gList (eTI l) = some (eLI l) := rfl
theorem fn_L_fits_eq (r : Rw) (mood front left singles : Int) : fn_L_fits [eRw r, .int mood, .int front, .int left, .int singles] = some (.sh (.bool (fitsR mood front singles left r)), []) := by
  simp [fn_L_fits, F_L_fits]
  unfold fitsR inR
  by_cases h1 : r.mood = mood
  · by_cases h2 : r.front.1 ≤ front ∧ front ≤ r.front.2
    · have h2' : ¬ (front < r.front.1 ∨ r.front.2 < front) := by omega
      by_cases h3 : r.left.1 ≤ left ∧ left ≤ r.left.2
      · have h3' : ¬ (left < r.left.1 ∨ r.left.2 < left) := by omega
        by_cases h4 : r.waiting.1 ≤ singles ∧ singles ≤ r.waiting.2
        · have h4' : ¬ (singles < r.waiting.1 ∨ r.waiting.2 < singles) := by omega
          cases hd : r.deed <;> simp [hd, h1, h2, h2', h3, h3', h4, h4', canBe]
        · have h4' : singles < r.waiting.1 ∨ r.waiting.2 < singles := by omega
          have h4'' : (decide (r.waiting.1 ≤ singles) && decide (singles ≤ r.waiting.2)) = false := by simp; omega
          simp [h1, h2, h2', h3, h3', h4', h4'']
      · have h3' : left < r.left.1 ∨ r.left.2 < left := by omega
        have h3'' : (decide (r.left.1 ≤ left) && decide (left ≤ r.left.2)) = false := by simp; omega
        simp [h1, h2, h2', h3', h3'']
    · have h2' : front < r.front.1 ∨ r.front.2 < front := by omega
      have h2'' : (decide (r.front.1 ≤ front) && decide (front ≤ r.front.2)) = false := by simp; omega
      simp [h1, h2', h2'']
  · simp [h1]
theorem ok_eRw (r : Rw) : Ok 2 (eRw r) := .tup (by
  simp only [List.mem_cons, List.not_mem_nil, or_false, forall_eq_or_imp, forall_eq]
  exact ⟨.int _, (ok_eP _).mono (by decide), (ok_eP _).mono (by decide), (ok_eP _).mono (by decide), .str (strOk_s _), .int _⟩)
@[simp] theorem okD_rws (xs : List Rw) : okD (.list (xs.map eRw)) = true := (Ok.lst (n := 2) (Ok.map ok_eRw xs)).ok (by decide)
theorem eqv_rws_nil (xs : List Rw) : PyData.eqv (.list (xs.map eRw)) (.list []) = decide (xs = []) := by
  rw [eqv_lst]
  cases xs with
  | nil => rw [List.map_nil, eqvAll_nil]; rfl
  | cons x xs => rw [List.map_cons, PyData.eqvAll]; rfl
theorem find_filter {α : Type} (p : α → Bool) : ∀ xs : List α, xs.find? p = (xs.filter p).head?
  | [] => rfl
  | x :: xs => by
    rw [List.find?_cons, List.filter_cons]
    cases p x with
    | true => rfl
    | false => exact find_filter p xs
theorem add_eLI0 (l : List Int) (h : l.length ≤ 1000) : gAdd (eLI l) (.list [.int 0]) = some (eLI (l ++ [0])) := by
  show (if (l.map PyData.int).length + 1 ≤ 1000000 then some (PyData.list (l.map PyData.int ++ [.int 0])) else none) = _
  rw [List.length_map, if_pos (by omega)]
  unfold eLI
  rw [List.map_append]
  rfl
theorem ix_front (l : List Int) : gIxA (eLI (l ++ [0])) (.int 0) = some (.int (frontOf l)) := by
  cases l with
  | nil => exact (show atI [PyData.int 0] 0 = some (.int 0) from atI_0 _ _)
  | cons x xs => rw [List.cons_append]; unfold eLI; rw [List.map_cons]; exact atI_0 _ _
theorem sl_eLI (l : List Int) : gSl (some 1) none (eLI l) = some (eLI l.tail) := by
  cases l with
  | nil => rfl
  | cons x xs => show some (PyData.list (cutD (.int x :: xs.map PyData.int) (some 1) none)) = _; rw [cut_from1]; rfl
theorem add_eLI1 (z : Int) (l : List Int) (h : l.length ≤ 1000) : gAdd (.list [.int z]) (eLI l) = some (eLI (z :: l)) := by
  show (if 1 + (l.map PyData.int).length ≤ 1000000 then some (PyData.list ([.int z] ++ l.map PyData.int)) else none) = _
  rw [List.length_map, if_pos (by omega)]
  rfl
theorem Lfilled_loop (rs : List Rw) (hrs : rs.length ≤ 100) : ∀ (n : Nat) (L : List Int) (acc : List (Dk × Int)) (left : Int) (line : List Int) (singles mood : Int), 0 ≤ left → left.toNat < n → n ≤ L.length → acc.length + n ≤ 1000 → line.length ≤ 900 → ∃ ρ',
    forL (gNm 6) F_L_filled_b1 [6, 7, 8] (L.map PyData.int) [.sh (eRule rs), .sh (eLI line), .sh (.int singles), .sh (.int left), .sh (.int mood), .ow (.list (acc.map eDd)), .em, .em, .em, .em]
      = some (.rt (.sh (eFl (fillT rs n acc left line singles mood))) ρ')
  | 0, L, acc, left, line, singles, mood, h0, hn, hL, ha, hl => absurd hn (Nat.not_lt_zero _)
  | n + 1, [], acc, left, line, singles, mood, h0, hn, hL, ha, hl => absurd hL (Nat.not_succ_le_zero _)
  | n + 1, x :: L, acc, left, line, singles, mood, h0, hn, hL, ha, hl => by
    rw [List.length_cons] at hL
    have e := lcL_filt (vs := [9]) (G := gNm 9) (T := F_L_filled_c1) (E := eVar 9) eRw eRw (fitsR mood (frontOf line) singles left) [.sh (eRule rs), .sh (eLI line), .sh (.int singles), .sh (.int left), .sh (.int mood), .ow (.list (acc.map eDd)), .sh (.int x), .sh (.int (frontOf line)), .em, .em] rs []
      (fun r _ => ⟨[.sh (eRule rs), .sh (eLI line), .sh (.int singles), .sh (.int left), .sh (.int mood), .ow (.list (acc.map eDd)), .sh (.int x), .sh (.int (frontOf line)), .em, .sh (eRw r)], [.sh (eRule rs), .sh (eLI line), .sh (.int singles), .sh (.int left), .sh (.int mood), .ow (.list (acc.map eDd)), .sh (.int x), .sh (.int (frontOf line)), .em, .sh (eRw r)], by simp, by simp [F_L_filled_c1, fn_L_fits_eq], by simp, by simp, fun _ => ⟨by simp, by simp, by simp⟩⟩) (by simp; omega)
    rw [List.nil_append] at e
    have a0 := add_eLI0 line (by omega)
    have a1 := ix_front line
    have sq : seqD (eRule rs) = some (rs.map eRw) := rfl
    rw [fillT]
    have hf : fitting rs mood line singles left = (rs.filter (fitsR mood (frontOf line) singles left)).head? := find_filter _ _
    cases hq : rs.filter (fitsR mood (frontOf line) singles left) with
    | nil =>
      rw [hq] at hf e
      rw [show fitting rs mood line singles left = none from hf]
      rw [List.map_cons, forL_cons]
      refine ⟨[.sh (eRule rs), .sh (eLI line), .sh (.int singles), .sh (.int left), .sh (.int mood), .ow (.list (acc.map eDd)), .sh (.int x), .sh (.int (frontOf line)), .sh (.list []), .em], ?_⟩
      have hb : F_L_filled_b1 [.sh (eRule rs), .sh (eLI line), .sh (.int singles), .sh (.int left), .sh (.int mood), .ow (.list (acc.map eDd)), .sh (.int x), .em, .em, .em] = some (.rt (.sh (eFl ⟨acc, left, line, singles, mood⟩)) [.sh (eRule rs), .sh (eLI line), .sh (.int singles), .sh (.int left), .sh (.int mood), .ow (.list (acc.map eDd)), .sh (.int x), .sh (.int (frontOf line)), .sh (.list []), .em]) := by
        have := eqv_rws_nil []
        rw [List.map_nil] at this e
        simp [F_L_filled_b1, a0, a1, sq, e, this, eFl]
      simp [hb]
    | cons r rest =>
      rw [hq] at hf e
      have hfit : fitting rs mood line singles left = some r := hf
      rw [hfit]
      obtain ⟨h1, h2⟩ := fitting_can hfit
      have q0 := eqv_rws_nil (r :: rest)
      have q1 := okD_rws (r :: rest)
      have q2 : gIxA (.list ((r :: rest).map eRw)) (.int 0) = some (eRw r) := atI_0 _ _
      rw [List.map_cons, forL_cons]
      by_cases hg : r.deed = .go
      · refine ⟨[.sh (eRule rs), .sh (eLI line), .sh (.int singles), .sh (.int left), .sh (.int r.after), .ow (.list (acc.map eDd)), .sh (.int x), .sh (.int (frontOf line)), .sh (.list ((r :: rest).map eRw)), .em], ?_⟩
        have hb : F_L_filled_b1 [.sh (eRule rs), .sh (eLI line), .sh (.int singles), .sh (.int left), .sh (.int mood), .ow (.list (acc.map eDd)), .sh (.int x), .em, .em, .em] = some (.rt (.sh (eFl ⟨acc, left, line, singles, r.after⟩)) [.sh (eRule rs), .sh (eLI line), .sh (.int singles), .sh (.int left), .sh (.int r.after), .ow (.list (acc.map eDd)), .sh (.int x), .sh (.int (frontOf line)), .sh (.list ((r :: rest).map eRw)), .em]) := by
          simp [-List.map_cons, F_L_filled_b1, a0, a1, sq, e, q0, q1, q2, hg, eFl]
        simp only [hg, if_true]
        simp [-List.map_cons, hb]
      · obtain ⟨f1, f2, f3, f4⟩ := seated_facts h2 hg h0
        obtain ⟨ρ', ih⟩ := Lfilled_loop rs hrs n L (acc ++ [(seatedT r.deed line singles left).1]) (seatedT r.deed line singles left).2.2.2 (seatedT r.deed line singles left).2.1 (seatedT r.deed line singles left).2.2.1 r.after f2 (by omega) (by omega) (by simp; omega) (by omega)
        refine ⟨ρ', ?_⟩
        have s1 := sl_eLI line
        have s2 := add_eLI1 (frontOf line - left) line.tail (by rw [List.length_tail]; omega)
        have hacc : acc.length < 1000000 := by omega
        have hb : F_L_filled_b1 [.sh (eRule rs), .sh (eLI line), .sh (.int singles), .sh (.int left), .sh (.int mood), .ow (.list (acc.map eDd)), .sh (.int x), .em, .em, .em] = some (.nx [.sh (eRule rs), .sh (eLI (seatedT r.deed line singles left).2.1), .sh (.int (seatedT r.deed line singles left).2.2.1), .sh (.int (seatedT r.deed line singles left).2.2.2), .sh (.int r.after), .ow (.list ((acc ++ [(seatedT r.deed line singles left).1]).map eDd)), .sh (.int x), .sh (.int (frontOf line)), .sh (.list ((r :: rest).map eRw)), .em]) := by
          cases hd : r.deed with
          | go => exact absurd hd hg
          | group => simp [-List.map_cons, F_L_filled_b1, a0, a1, sq, e, q0, q1, q2, hd, seatedT, s1, hacc, eDd]; rfl
          | single => simp [-List.map_cons, F_L_filled_b1, a0, a1, sq, e, q0, q1, q2, hd, seatedT, s1, hacc, eDd]; rfl
          | part => simp [-List.map_cons, F_L_filled_b1, a0, a1, sq, e, q0, q1, q2, hd, seatedT, s1, s2, hacc, eDd]; rfl
        simp only [hg, if_false]
        simp only [gNm_ap, List.getElem?_cons_succ, List.getElem?_cons_zero, isIo_em, Bool.false_eq_true, if_false, List.set_cons_succ, List.set_cons_zero, Option.bind_some, hb, kill_cons, kill_nil, emp_s, emp_sh, ih]
theorem fn_L_filled_eq (rs : List Rw) (hrs : rs.length ≤ 100) (line : List Int) (singles seats mood : Int) (h0 : 0 ≤ seats) (h1 : seats ≤ 6) (hl : line.length ≤ 900) : fn_L_filled [eRule rs, eLI line, .int singles, .int seats, .int mood] = some (.sh (eFl (fillT rs (seats.toNat + 1) [] seats line singles mood)), []) := by
  obtain ⟨ρ', e⟩ := Lfilled_loop rs hrs (seats.toNat + 1) (rng0 7) [] seats line singles mood h0 (by omega) (by rw [rng0_len]; omega) (by simp; omega) hl
  rw [List.map_nil] at e
  simp [fn_L_filled, F_L_filled, e]
/-! ### the law's own beat -/
theorem Lbeat_loop1 (su : Setup) (R C T S M Z : D) : ∀ (gs l : List Int) (a b : Int), (l.length : Int) ≤ su.rooms.1 → su.rooms.1 ≤ 900 → ∃ a', a' = a + ((l.length : Int) + gs.length - ((l ++ gs).take su.rooms.1.toNat).length) ∧
    forL (gNm 9) F_L_beat_b1 [9] (gs.map PyData.int) [.sh (eSetup su), .sh R, .sh Z, .sh C, .sh T, .ow (eLI l), .sh S, .sh M, .ow (.list [.int a, .int b]), .em, .em, .em, .em, .em]
      = some (.nx [.sh (eSetup su), .sh R, .sh Z, .sh C, .sh T, .ow (eLI ((l ++ gs).take su.rooms.1.toNat)), .sh S, .sh M, .ow (.list [.int a', .int b]), .em, .em, .em, .em, .em])
  | [], l, a, b, h, hr => by
    have e : l.take su.rooms.1.toNat = l := List.take_of_length_le (by omega)
    rw [List.map_nil, forL_nil, List.append_nil, e]
    exact ⟨a, by simp, rfl⟩
  | g :: gs, l, a, b, h, hr => by
    rw [List.map_cons, forL_cons]
    by_cases hlt : (l.length : Int) < su.rooms.1
    · obtain ⟨a', ea, ih⟩ := Lbeat_loop1 su R C T S M Z gs (l ++ [g]) a b (by rw [List.length_append]; simp; omega) hr
      have hb : F_L_beat_b1 [.sh (eSetup su), .sh R, .sh Z, .sh C, .sh T, .ow (eLI l), .sh S, .sh M, .ow (.list [.int a, .int b]), .sh (.int g), .em, .em, .em, .em] = some (.nx [.sh (eSetup su), .sh R, .sh Z, .sh C, .sh T, .ow (eLI (l ++ [g])), .sh S, .sh M, .ow (.list [.int a, .int b]), .sh (.int g), .em, .em, .em, .em]) := by
        simp [F_L_beat_b1, hlt, show l.length < 1000000 by omega, eLI]
      rw [List.append_assoc, List.singleton_append] at ih ea
      refine ⟨a', ?_, ?_⟩
      · rw [ea, List.length_append, List.length_cons, List.length_cons, List.length_nil]; omega
      · simp only [gNm_ap, List.getElem?_cons_succ, List.getElem?_cons_zero, isIo_em, Bool.false_eq_true, if_false, List.set_cons_succ, List.set_cons_zero, Option.bind_some, hb, kill_cons, kill_nil, emp_s, emp_sh, ih]
    · obtain ⟨a', ea, ih⟩ := Lbeat_loop1 su R C T S M Z gs l (a + 1) b h hr
      have hb : F_L_beat_b1 [.sh (eSetup su), .sh R, .sh Z, .sh C, .sh T, .ow (eLI l), .sh S, .sh M, .ow (.list [.int a, .int b]), .sh (.int g), .em, .em, .em, .em] = some (.nx [.sh (eSetup su), .sh R, .sh Z, .sh C, .sh T, .ow (eLI l), .sh S, .sh M, .ow (.list [.int (a + 1), .int b]), .sh (.int g), .em, .em, .em, .em]) := by
        simp [F_L_beat_b1, hlt]
      have e1 : (l ++ gs).take su.rooms.1.toNat = l := by rw [List.take_append_of_le_length (by omega), List.take_of_length_le (by omega)]
      have e2 : (l ++ g :: gs).take su.rooms.1.toNat = l := by rw [List.take_append_of_le_length (by omega), List.take_of_length_le (by omega)]
      rw [e1] at ea ih
      refine ⟨a', ?_, ?_⟩
      · rw [ea, e2, List.length_cons]; omega
      · simp only [gNm_ap, List.getElem?_cons_succ, List.getElem?_cons_zero, isIo_em, Bool.false_eq_true, if_false, List.set_cons_succ, List.set_cons_zero, Option.bind_some, hb, kill_cons, kill_nil, emp_s, emp_sh, ih, e2]
theorem wait_step (su : Setup) (s : Int) (n : Nat) : waitT su s (n + 1 : Nat) = if s < su.rooms.2 then waitT su (s + 1) n else s := by
  unfold waitT mn mx
  repeat' split
  all_goals omega
theorem Lbeat_loop2 (su : Setup) (R C T M Z : D) (L5 : Sl) : ∀ (ks : List Int) (s a b : Int), ∃ b', b' = b + (s + ks.length - waitT su s ks.length) ∧
    forL (gNm 10) F_L_beat_b2 [10] (ks.map PyData.int) [.sh (eSetup su), .sh R, .sh Z, .sh C, .sh T, L5, .sh (.int s), .sh M, .ow (.list [.int a, .int b]), .em, .em, .em, .em, .em]
      = some (.nx [.sh (eSetup su), .sh R, .sh Z, .sh C, .sh T, L5, .sh (.int (waitT su s ks.length)), .sh M, .ow (.list [.int a, .int b']), .em, .em, .em, .em, .em])
  | [], s, a, b => by
    have e : waitT su s (([] : List Int).length : Nat) = s := by unfold waitT mn mx; repeat' split <;> simp_all <;> omega
    refine ⟨b, ?_, ?_⟩
    · rw [e]; simp
    · rw [List.map_nil, forL_nil, e]
  | k :: ks, s, a, b => by
    rw [List.map_cons, forL_cons, List.length_cons, wait_step]
    by_cases hlt : s < su.rooms.2
    · obtain ⟨b', eb, ih⟩ := Lbeat_loop2 su R C T M Z L5 ks (s + 1) a b
      have hb : F_L_beat_b2 [.sh (eSetup su), .sh R, .sh Z, .sh C, .sh T, L5, .sh (.int s), .sh M, .ow (.list [.int a, .int b]), .em, .sh (.int k), .em, .em, .em] = some (.nx [.sh (eSetup su), .sh R, .sh Z, .sh C, .sh T, L5, .sh (.int (s + 1)), .sh M, .ow (.list [.int a, .int b]), .em, .sh (.int k), .em, .em, .em]) := by
        simp [F_L_beat_b2, hlt]
      refine ⟨b', ?_, ?_⟩
      · rw [if_pos hlt, eb]; omega
      · rw [if_pos hlt]
        simp only [gNm_ap, List.getElem?_cons_succ, List.getElem?_cons_zero, isIo_em, Bool.false_eq_true, if_false, List.set_cons_succ, List.set_cons_zero, Option.bind_some, hb, kill_cons, kill_nil, emp_s, emp_sh, ih]
    · obtain ⟨b', eb, ih⟩ := Lbeat_loop2 su R C T M Z L5 ks s a (b + 1)
      have hb : F_L_beat_b2 [.sh (eSetup su), .sh R, .sh Z, .sh C, .sh T, L5, .sh (.int s), .sh M, .ow (.list [.int a, .int b]), .em, .sh (.int k), .em, .em, .em] = some (.nx [.sh (eSetup su), .sh R, .sh Z, .sh C, .sh T, L5, .sh (.int s), .sh M, .ow (.list [.int a, .int (b + 1)]), .em, .sh (.int k), .em, .em, .em]) := by
        simp [F_L_beat_b2, hlt]
      have e : waitT su s (ks.length : Nat) = s := by unfold waitT mn mx; repeat' split <;> simp_all <;> omega
      rw [e] at eb ih
      refine ⟨b', ?_, ?_⟩
      · rw [if_neg hlt, eb]; omega
      · rw [if_neg hlt]
        simp only [gNm_ap, List.getElem?_cons_succ, List.getElem?_cons_zero, isIo_em, Bool.false_eq_true, if_false, List.set_cons_succ, List.set_cons_zero, Option.bind_some, hb, kill_cons, kill_nil, emp_s, emp_sh, ih]
end Fc
set_option maxHeartbeats 4000000
set_option Elab.async false
set_option linter.all false
set_option maxRecDepth 100000
namespace Fc
open PySem L2
@[simp] theorem ix_com0 (c : Com) : gIxA (eCom c) (.int 0) = some (eTI c.groups) := rfl
@[simp] theorem ix_com1 (c : Com) : gIxA (eCom c) (.int 1) = some (.int c.singles) := rfl
theorem here_eq (su : Setup) (line gs : List Int) (h : (line.length : Int) ≤ su.rooms.1) : hereT su line gs = (line ++ gs).take su.rooms.1.toNat := by
  unfold hereT
  have : mx su.rooms.1 line.length = su.rooms.1 := by unfold mx; rw [if_neg (by omega)]
  rw [this]
theorem rng0_cast (z : Int) (h : 0 ≤ z) : ((rng0 z).length : Int) = z := by rw [rng0_len]; omega
theorem fn_L_beat_eq {su : Setup} (S : SuOk su) (rs : List Rw) (hrs : rs.length ≤ 100) {s : Sta} (h : StOk su s) {c : Com} (hc : ComOk su c) : fn_L_beat [eSetup su, eRule rs, eSta s, eCom c] = some (.sh (eBt (beatT su rs s c)), []) := by
  obtain ⟨a1, a2, a3⟩ := seat_ok S h
  have hn := S.n1
  have hr := S.r1
  have hl := h.l
  have hg := hc.n
  have hcc := S.c1
  have hs := hc.s
  obtain ⟨a', ea, L1⟩ := Lbeat_loop1 su (eRule rs) (eCom c) (.int s.turn) (.int s.singles) (.int s.mood) (eSta s) c.groups s.line 0 0 hl (by omega)
  rw [← here_eq su s.line c.groups hl] at ea L1
  obtain ⟨b', eb, L2⟩ := Lbeat_loop2 su (eRule rs) (eCom c) (.int s.turn) (.int s.mood) (eSta s) (.ow (eLI (hereT su s.line c.groups))) (rng0 c.singles) s.singles a' 0
  rw [rng0_cast _ hs.1] at eb L2
  have hh := here_len su s.line c.groups (by omega) h.l
  have e2 := fn_L_filled_eq rs hrs (hereT su s.line c.groups) (waitT su s.singles c.singles) (seatT su s) s.mood (by omega) (by omega) (by omega)
  have e2' : fn_L_filled [eRule rs, eLI (hereT su s.line c.groups), .int (waitT su s.singles c.singles), .int (seatT su s), .int s.mood] = some (.sh (eFl (flT su rs s c)), []) := e2
  have hpos : 0 < su.seats.length := by omega
  have haw : (letInT su s.line s.singles c).away = (a', b') := by
    show ((s.line.length + c.groups.length : Int) - (hereT su s.line c.groups).length, (s.singles + c.singles) - waitT su s.singles c.singles) = _
    rw [ea, eb]
    ext <;> simp <;> omega
  have hq3 : c.singles ≤ 1000000 ∧ -1000000 ≤ c.singles := by have := S.c2; omega
  simp [fn_L_beat, F_L_beat, hq3, L1, L2, a1, e2', eFl, hpos]
  by_cases hq : (flT su rs s c).line = []
  · by_cases hq2 : 0 < (flT su rs s c).singles
    · simp [hpos, hq, hq2, eBt, beatT, eChair, eSta, eP, haw]
    · simp [hpos, hq, hq2, eBt, beatT, eChair, eSta, eP, haw]
  · simp [hpos, hq, eBt, beatT, eChair, eSta, eP, haw]
end Fc
set_option maxHeartbeats 400000
set_option Elab.async false
set_option linter.all false
set_option maxRecDepth 100000
namespace Fc
open PySem L2
theorem fn_L_run_eq {su : Setup} (S : SuOk su) {rs : List Rw} (R : RuOk rs) {s : Sta} (h : StOk su s) {row : List Com} (hr : RowOk su row) (hl : row.length ≤ 100000) : fn_L_run [eSetup su, eRule rs, eSta s, eRow row] = some (.sh (.tuple [eChs (runCh su rs s row), eSta (runSt su rs s row)]), []) := by
  have k : ∀ (cs : List Com) (t : Sta) (acc : List Chair), StOk su t → RowOk su cs → acc.length + cs.length ≤ 100000 → forL (gNm 5) F_L_run_b1 [5, 6] (cs.map eCom) [.sh (eSetup su), .sh (eRule rs), .sh (eSta t), .sh (eRow row), .ow (.list (acc.map eChair)), .em, .em] = some (.nx [.sh (eSetup su), .sh (eRule rs), .sh (eSta (runSt su rs t cs)), .sh (eRow row), .ow (.list ((acc ++ runCh su rs t cs).map eChair)), .em, .em]) := fun cs => by
    induction cs with
    | nil => intro t acc _ _ _; rw [List.map_nil, forL_nil, runCh, runSt, List.append_nil]
    | cons c cs ih =>
      intro t acc ht hc hl
      rw [List.length_cons] at hl
      have hcc := hc c List.mem_cons_self
      have e1 := fn_L_beat_eq S rs (by have := R.n; omega) ht hcc
      have ih := ih (beatT su rs t c).st (acc ++ [(beatT su rs t c).chair]) (beat_ok S ht hcc) (fun d hd => hc d (List.mem_cons_of_mem _ hd)) (by rw [List.length_append, List.length_singleton]; omega)
      have hb : forB (gNm 5) F_L_run_b1 [5, 6] (eCom c) [.sh (eSetup su), .sh (eRule rs), .sh (eSta t), .sh (eRow row), .ow (.list (acc.map eChair)), .em, .em] = some (.nx [.sh (eSetup su), .sh (eRule rs), .sh (eSta (beatT su rs t c).st), .sh (eRow row), .ow (.list ((acc ++ [(beatT su rs t c).chair]).map eChair)), .em, .em]) := by
        simp [F_L_run_b1, e1, eBt, show acc.length < 1000000 by omega]
      rw [List.map_cons, forL_B, hb]
      rw [List.append_assoc] at ih
      exact ih
  have k := k row s [] h hr (by simpa using hl)
  simp at k
  simp [fn_L_run, F_L_run, k, eChs]
end Fc
set_option maxHeartbeats 4000000
set_option Elab.async false
set_option linter.all false
set_option maxRecDepth 100000
namespace Fc
open PySem L2
theorem ix_1102 {z : Int} (h : 0 ≤ z) (h2 : z < 4) : ∃ y : Int, gIxA (.list [.int 1, .int 1, .int 0, .int 2]) (.int z) = some (.int y) ∧ 0 ≤ y ∧ y ≤ 2 := by
  have : z = 0 ∨ z = 1 ∨ z = 2 ∨ z = 3 := by omega
  rcases this with rfl | rfl | rfl | rfl
  · exact ⟨1, rfl, by decide⟩
  · exact ⟨1, rfl, by decide⟩
  · exact ⟨0, rfl, by decide⟩
  · exact ⟨2, rfl, by decide⟩
/-- what is said of the setups that have few states -/
def FewA (su : Setup) : Prop := (∀ x ∈ su.sizes, x ≤ 3) ∧ su.sizes.length ≤ 2 ∧ su.rooms.1 ≤ 2 ∧ su.rooms.2 ≤ 2
theorem fn_L_small_setup_few (d : Int × Int) : ∃ su d', fn_L_small_setup [eDk d] = some (.sh (eSetup su), [eDk d']) ∧ SuOk su ∧ FewA su := by
  have t0 := take_lo d (m := 4) (by decide)
  have t1 := take_hi d (m := 4) (by decide)
  obtain ⟨ys, d1, e1, e2, e3⟩ := draw_loop (vs := [4]) (G := gNm 4) (E := F_L_small_setup_e1) PyData.int (fun y => 1 ≤ y ∧ y ≤ 5) (fun d => [.io (eDk d), .em, .em, .em, .em])
    (fun d x => ⟨[.io (eDk d), .em, .em, .em, .sh (.int x)], 1 + (takeT d 3).1, (takeT d 3).2, [.io (eDk (takeT d 3).2), .em, .em, .em, .sh (.int x)], by simp, by simp [F_L_small_setup_e1], by simp, by simp, by have := take_lo d (m := 3) (by decide); have := take_hi d (m := 3) (by decide); omega⟩) (rng0 (1 + (takeT d 4).1 / 3)) [] (takeT d 4).2 (by simp; omega)
  obtain ⟨xs, d2, f1, f2, f3, f4, f5⟩ := fn_L_sizes_eq d1 3 2 (by decide) (by decide) (by decide)
  rw [List.nil_append] at e1
  have hq : 1 + (takeT d 4).1 / 3 ≤ 1000000 ∧ -1000000 ≤ 1 + (takeT d 4).1 / 3 := by omega
  rw [rng0_len] at e2
  have a1 := take_lo d2 (m := 2) (by decide)
  have a2 := take_hi d2 (m := 2) (by decide)
  have a3 := take_lo (takeT d2 2).2 (m := 3) (by decide)
  have a4 := take_hi (takeT d2 2).2 (m := 3) (by decide)
  have a5 := take_lo (takeT (takeT d2 2).2 3).2 (m := 3) (by decide)
  have a6 := take_hi (takeT (takeT d2 2).2 3).2 (m := 3) (by decide)
  obtain ⟨y, g1, g2, g3⟩ := ix_1102 (take_lo (takeT (takeT (takeT d2 2).2 3).2 3).2 (m := 4) (by decide)) (take_hi (takeT (takeT (takeT d2 2).2 3).2 3).2 (m := 4) (by decide))
  refine ⟨⟨ys, xs, (1 + (takeT d2 2).1, (takeT (takeT d2 2).2 3).1), (2 - (takeT (takeT (takeT d2 2).2 3).2 3).1, y)⟩, (takeT (takeT (takeT (takeT d2 2).2 3).2 3).2 4).2, ?_, ?_, ?_⟩
  · simp [fn_L_small_setup, F_L_small_setup, hq, e1, f1, g1]
    rfl
  · exact ⟨by show 1 ≤ ys.length; omega, by show ys.length ≤ 2; omega, e3, f2, by show xs.length ≤ 3; omega, fun x hx => by have := f4 x hx; omega, f5, by dsimp only; omega, by dsimp only; omega, by dsimp only; omega, ⟨g2, g3⟩⟩
  · exact ⟨fun x hx => (f4 x hx).2, by show xs.length ≤ 2; omega, by dsimp only; omega, by dsimp only; omega⟩
theorem fn_L_small_setup_eq (d : Int × Int) : ∃ su d', fn_L_small_setup [eDk d] = some (.sh (eSetup su), [eDk d']) ∧ SuOk su :=
  let ⟨su, d', h, S, _⟩ := fn_L_small_setup_few d
  ⟨su, d', h, S⟩
end Fc
set_option maxHeartbeats 4000000
set_option Elab.async false
set_option linter.all false
set_option maxRecDepth 100000
namespace Fc
open PySem L2
theorem sl_up1 (l : List Int) : gSl none (some 1) (eTI l) = some (eTI (l.take 1)) := by
  show some (PyData.tuple (cutD (l.map PyData.int) none (some 1))) = _
  rw [cut_upI _ (by decide), ← List.map_take]
  rfl
def eCs (su : Setup) (rs : List Rw) : D := .tuple [eSetup su, eRule rs]
theorem fn_L_case_few (d : Int × Int) (most : Int) (h1 : 0 ≤ most ∧ most ≤ 8) : ∃ su rs d', fn_L_case [eDk d, .int most] = some (.sh (eCs su rs), [eDk d']) ∧ SuOk su ∧ RuOk rs ∧ (FewA su ∨ su.seats.length = 1 ∧ su.rooms.2 = 0) := by
  obtain ⟨su, d1, e1, S, W⟩ := fn_L_small_setup_few d
  have c0 := sl_up1 su.seats
  by_cases h7 : (takeT d1 8).1 = 7
  · obtain ⟨rs, d', e2, R⟩ := fn_L_rule_eq (takeT d1 8).2 most 3 1 h1 (by decide) (.inr rfl)
    refine ⟨{ su with seats := su.seats.take 1 }, rs, d', ?_, ?_, R, .inl W⟩
    · simp [fn_L_case, F_L_case, e1, h7, e2, c0, eCs]
      rfl
    · exact { S with n1 := by have := S.n1; show 1 ≤ (su.seats.take 1).length; rw [List.length_take]; omega, n2 := by show (su.seats.take 1).length ≤ 2; rw [List.length_take]; omega, se := fun x hx => S.se x (List.mem_of_mem_take hx) }
  · by_cases h6 : (takeT d1 8).1 = 6
    · have t1 := take_lo (takeT d1 8).2 (m := 2) (by decide)
      have t2 := take_hi (takeT d1 8).2 (m := 2) (by decide)
      obtain ⟨xs, d2, f1, f2, f3, f4, f5⟩ := fn_L_sizes_eq (takeT (takeT d1 8).2 2).2 5 3 (by decide) (by decide) (by decide)
      have t3 := take_lo d2 (m := 3) (by decide)
      have t4 := take_hi d2 (m := 3) (by decide)
      obtain ⟨rs, d', e2, R⟩ := fn_L_rule_eq (takeT d2 3).2 most 2 1 h1 (by decide) (.inr rfl)
      refine ⟨⟨[4 + (takeT (takeT d1 8).2 2).1], xs, (1 + (takeT d2 3).1, 0), (1, 0)⟩, rs, d', ?_, ?_, R, .inr ⟨rfl, rfl⟩⟩
      · simp [fn_L_case, F_L_case, e1, h6, f1, e2, eCs]
        rfl
      · exact ⟨Nat.le_refl _, (by decide : 1 ≤ 2), fun x hx => by have := List.mem_singleton.mp hx; omega, f2, by show xs.length ≤ 3; omega, f4, f5, by dsimp only; omega, by dsimp only; omega, by dsimp only; omega, by dsimp only; omega⟩
    · obtain ⟨rs, d', e2, R⟩ := fn_L_rule_eq (takeT d1 8).2 most 2 1 h1 (by decide) (.inr rfl)
      refine ⟨su, rs, d', ?_, S, R, .inl W⟩
      simp [fn_L_case, F_L_case, e1, h6, h7, e2, eCs]
theorem fn_L_case_eq (d : Int × Int) (most : Int) (h1 : 0 ≤ most ∧ most ≤ 8) : ∃ su rs d', fn_L_case [eDk d, .int most] = some (.sh (eCs su rs), [eDk d']) ∧ SuOk su ∧ RuOk rs :=
  let ⟨su, rs, d', h, S, R, _⟩ := fn_L_case_few d most h1
  ⟨su, rs, d', h, S, R⟩
end Fc
set_option maxHeartbeats 400000
set_option Elab.async false
set_option linter.all false
set_option maxRecDepth 100000
namespace Fc
open PySem L2
/-! ### the setups that are drawn have few states -/
def LowL (B : Int) (l : List Int) : Prop := ∀ x ∈ l, x ≤ B
theorem low_tail {B : Int} {l : List Int} (h : LowL B l) : LowL B l.tail := fun x hx => h x (List.mem_of_mem_tail hx)
theorem low_fill {rs : List Rw} {B : Int} : ∀ (n : Nat) (acc : List (Dk × Int)) (left : Int) (line : List Int) (singles mood : Int), 0 ≤ left → LowL B line → LowL B (fillT rs n acc left line singles mood).line
  | 0, acc, left, line, singles, mood, h0, h1 => h1
  | n + 1, acc, left, line, singles, mood, h0, h1 => by
    rw [fillT]
    cases h : fitting rs mood line singles left with
    | none => exact h1
    | some r =>
      obtain ⟨hm, hc⟩ := fitting_can h
      by_cases hg : r.deed = .go
      · simp only [hg, if_true]
        exact h1
      · obtain ⟨f1, f2, f3, f4⟩ := seated_facts hc hg h0
        simp only [hg, if_false]
        refine low_fill n _ _ _ _ _ f2 ?_
        cases hd : r.deed with
        | group => exact low_tail h1
        | single => exact h1
        | part =>
          rw [hd] at hc
          simp [canBe] at hc
          intro x hx
          rcases List.mem_cons.mp (show x ∈ (frontOf line - left) :: line.tail from hx) with rfl | hx
          · cases line with
            | nil =>
              have : frontOf ([] : List Int) = 0 := rfl
              omega
            | cons y ys =>
              have : y ≤ B := h1 y List.mem_cons_self
              have : frontOf (y :: ys) = y := rfl
              omega
          · exact low_tail h1 x hx
        | go => exact absurd hd hg
section
variable {su : Setup} {rs : List Rw}
theorem low_beat (S : SuOk su) {B : Int} (hz : ∀ x ∈ su.sizes, x ≤ B) {s : Sta} (h : StOk su s) (hl : LowL B s.line) {c : Com} (hc : ComOk su c) : LowL B (beatT su rs s c).st.line := by
  obtain ⟨a1, a2, a3⟩ := seat_ok S h
  refine low_fill _ _ _ _ _ _ (by omega) fun x hx => ?_
  have hx : x ∈ (s.line ++ c.groups).take (mx su.rooms.1 s.line.length).toNat := hx
  rcases List.mem_append.mp (List.mem_of_mem_take hx) with h | h
  · exact hl x h
  · exact hz x (hc.g x h)
def lineA (z : List Int) : List (List Int) := [] :: ([1, 2, 3] : List Int).flatMap fun h => (([] : List Int) :: z.map fun a => [a]).map fun t => h :: t
def stA (z : List Int) : List Sta := ([0, 1] : List Int).flatMap fun t => (lineA z).flatMap fun l => ([0, 1, 2] : List Int).flatMap fun s => ([0, 1, 2] : List Int).map fun m => ⟨t, l, s, m⟩
def stB (z : List Int) : List Sta := (lineU z).flatMap fun l => ([0, 1, 2] : List Int).map fun m => ⟨0, l, 0, m⟩
theorem stA_len {z : List Int} (h : z.length ≤ 2) : (stA z).length ≤ 198 := by
  have h2 : (lineA z).length = 3 * (z.length + 1) + 1 := by
    unfold lineA
    rw [List.length_cons, flat_len2 _ (z.length + 1) _ fun x _ => by rw [List.length_map, List.length_cons, List.length_map]]
    rfl
  have h3 : (stA z).length = 2 * ((lineA z).length * 9) := by
    unfold stA
    rw [flat_len2 _ ((lineA z).length * 9) _ fun t _ => by rw [flat_len2 _ 9 _ fun l _ => rfl]]
    rfl
  omega
theorem stB_len {z : List Int} (h : z.length ≤ 3) : (stB z).length ≤ 198 := by
  have h1 := tailU_len h
  have h2 : (lineU z).length = 5 * (tailU z).length + 1 := by
    unfold lineU
    rw [List.length_cons, flat_len2 _ (tailU z).length _ fun x _ => by rw [List.length_map]]
    rfl
  have h3 : (stB z).length = (lineU z).length * 3 := by
    unfold stB
    rw [flat_len2 _ 3 _ fun l _ => rfl]
  omega
/-- what the drawn setups' states keep -/
structure FewS (su : Setup) (s : Sta) : Prop where
  g : Gd su s
  l : FewA su → LowL 3 s.line
theorem few_memA (S : SuOk su) (W : FewA su) {s : Sta} (h : FewS su s) : s ∈ stA su.sizes := by
  have hl := h.l W
  obtain ⟨w1, w2, w3, w4⟩ := W
  have hm := gd_mem S h.g
  obtain ⟨t, l, g, m⟩ := s
  have h3 := h.g.o.l
  have h4 := h.g.o.s0
  have h5 := h.g.s1
  have h7 := h.g.g
  simp only at hl h3 h4 h5 h7
  unfold stU at hm
  obtain ⟨t', ht, hm⟩ := List.mem_flatMap.mp hm
  obtain ⟨l', hl', hm⟩ := List.mem_flatMap.mp hm
  obtain ⟨g', hg', hm⟩ := List.mem_flatMap.mp hm
  obtain ⟨m', hm', e⟩ := List.mem_map.mp hm
  cases e
  unfold stA
  refine List.mem_flatMap.mpr ⟨t, ht, List.mem_flatMap.mpr ⟨l, ?_, List.mem_flatMap.mpr ⟨g, ?_, List.mem_map.mpr ⟨m, hm', rfl⟩⟩⟩⟩
  · unfold lineA
    match l, h3, h7, hl with
    | [], _, _, _ => exact List.mem_cons_self
    | x :: xs, h3, h7, hl =>
      have b1 := (h7.1 x List.mem_cons_self).1
      have b2 : x ≤ 3 := hl x List.mem_cons_self
      refine List.mem_cons_of_mem _ (List.mem_flatMap.mpr ⟨x, ?_, List.mem_map.mpr ⟨xs, ?_, rfl⟩⟩)
      · simp only [List.mem_cons, List.not_mem_nil, or_false]; omega
      · have hh : ∀ y ∈ xs, y ∈ su.sizes := h7.2
        rw [List.length_cons] at h3
        match xs, h3, hh with
        | [], _, _ => exact List.mem_cons_self
        | [a], _, hh => exact List.mem_cons_of_mem _ (List.mem_map.mpr ⟨a, hh a List.mem_cons_self, rfl⟩)
        | a :: b :: c, h3, _ => simp only [List.length_cons] at h3; omega
  · simp only [List.mem_cons, List.not_mem_nil, or_false]; omega
theorem few_memB (S : SuOk su) (h1 : su.seats.length = 1) (h2 : su.rooms.2 = 0) {s : Sta} (h : Gd su s) : s ∈ stB su.sizes := by
  have hm := gd_mem S h
  obtain ⟨t, l, g, m⟩ := s
  have k1 := h.o.t0
  have k2 := h.o.t1
  have h4 := h.o.s0
  have h5 := h.s1
  simp only at k1 k2 h4 h5
  unfold stU at hm
  obtain ⟨t', ht, hm⟩ := List.mem_flatMap.mp hm
  obtain ⟨l', hl', hm⟩ := List.mem_flatMap.mp hm
  obtain ⟨g', hg', hm⟩ := List.mem_flatMap.mp hm
  obtain ⟨m', hm', e⟩ := List.mem_map.mp hm
  cases e
  have e1 : t = 0 := by omega
  have e2 : g = 0 := by omega
  subst e1 e2
  unfold stB
  exact List.mem_flatMap.mpr ⟨l, hl', List.mem_map.mpr ⟨m, hm', rfl⟩⟩
theorem few_len (S : SuOk su) (W : FewA su ∨ su.seats.length = 1 ∧ su.rooms.2 = 0) {q : List Sta} (hn : q.Nodup) (h : ∀ s ∈ q, FewS su s) : q.length ≤ 198 := by
  rcases W with W | ⟨w1, w2⟩
  · exact Nat.le_trans (nodup_len hn fun s hs => few_memA S W (h s hs)) (stA_len W.2.1)
  · exact Nat.le_trans (nodup_len hn fun s hs => few_memB S w1 w2 (h s hs).g) (stB_len S.k2)
theorem few_start (S : SuOk su) : FewS su startT := ⟨gd_start S, fun _ x hx => absurd hx List.not_mem_nil⟩
theorem few_beat (S : SuOk su) (R : RuOk rs) {s : Sta} (h : FewS su s) {c : Com} (hc : ComOk su c) : FewS su (beatT su rs s c).st := ⟨beat_gd S R h.g hc, fun W => low_beat S W.1 h.g.o (h.l W) hc⟩
end
end Fc
set_option maxHeartbeats 400000
set_option Elab.async false
set_option linter.all false
set_option maxRecDepth 100000
namespace Fc
open PySem L2
section
variable {su : Setup} {rs : List Rw}
/-! ### comers of any form -/
structure BadC (su : Setup) (d : D) : Prop where
  p : fn_is_comers [eSetup su, d] = some (.sh (.bool false), [])
  l : fn_L_is_comers [eSetup su, d] = some (.sh (.bool false), [])
structure GoodC (su : Setup) (c : Com) : Prop where
  p : fn_is_comers [eSetup su, eCom c] = some (.sh (.bool true), [])
  l : fn_L_is_comers [eSetup su, eCom c] = some (.sh (.bool true), [])
def CmOk (su : Setup) (d : D) : Prop := (∃ c, d = eCom c ∧ ComOk su c ∧ GoodC su c) ∨ BadC su d
def szB (su : Setup) : D → Bool
  | .int x => (decide (1 ≤ x) && decide (x ≤ 5)) && decide (x ∈ su.sizes)
  | _ => false
def yB (hi : Int) : D → Bool
  | .int z => decide (0 ≤ z) && decide (z ≤ hi)
  | _ => false
def SzD (d : D) : Prop := (∃ x, d = .int x) ∨ d = .bool true ∨ d = .str "1" ∨ d = .none
def YD (d : D) : Prop := (∃ x, d = .int x) ∨ d = .bool true ∨ d = .none ∨ d = .str "1" ∨ d = .tuple [.int 1]
theorem num_odd {d : D} (lo hi : Int) (h : d = .bool true ∨ d = .none ∨ d = .str "1" ∨ d = .tuple [.int 1]) : fn_is_number [d, .int lo, .int hi] = some (.sh (.bool false), []) ∧ fn_L_whole [d, .int lo, .int hi] = some (.sh (.bool false), []) := by
  have k1 : gIsi "int" (.bool true) = some (.bool true) := rfl
  have k2 : gIsi "bool" (.bool true) = some (.bool true) := rfl
  have k3 : gIsi "int" .none = some (.bool false) := rfl
  have k4 : gIsi "int" (.str "1") = some (.bool false) := rfl
  have k5 : gIsi "int" (.tuple [.int 1]) = some (.bool false) := rfl
  rcases h with rfl | rfl | rfl | rfl
  · exact ⟨by simp [fn_is_number, F_is_number, fn_is_integer, F_is_integer, k1, k2], by simp [fn_L_whole, F_L_whole, k1, k2]⟩
  · exact ⟨by simp [fn_is_number, F_is_number, fn_is_integer, F_is_integer, k3], by simp [fn_L_whole, F_L_whole, k3]⟩
  · exact ⟨by simp [fn_is_number, F_is_number, fn_is_integer, F_is_integer, k4], by simp [fn_L_whole, F_L_whole, k4]⟩
  · exact ⟨by simp [fn_is_number, F_is_number, fn_is_integer, F_is_integer, k5], by simp [fn_L_whole, F_L_whole, k5]⟩
theorem L_whole_int (x lo hi : Int) : fn_L_whole [.int x, .int lo, .int hi] = some (.sh (.bool (decide (lo ≤ x) && decide (x ≤ hi))), []) := by simp [fn_L_whole, F_L_whole]
theorem notIn_eTI (x : Int) (xs : List Int) : gInA true (.int x) (eTI xs) = some (.bool (!decide (x ∈ xs))) := by
  have h := gIn_eTI x xs
  have h1 : gInA false (.int x) (eTI xs) = gIn false (.int x) (eTI xs) := rfl
  have h2 : gInA true (.int x) (eTI xs) = gIn true (.int x) (eTI xs) := rfl
  rw [h1] at h
  rw [h2]
  unfold gIn at h ⊢
  cases q : inD (.int x) (eTI xs) with
  | none => rw [q] at h; cases h
  | some b =>
    rw [q] at h
    simp at h ⊢
    rw [h]
theorem fn_is_size_any {d : D} (h : SzD d) : fn_is_size [eSetup su, d] = some (.sh (.bool (szB su d)), []) := by
  rcases h with ⟨x, rfl⟩ | h
  · by_cases h1 : 1 ≤ x ∧ x ≤ 5
    · simp [fn_is_size, F_is_size, szB, h1]
    · by_cases h2 : 1 ≤ x
      · have h3 : ¬ x ≤ 5 := fun z => h1 ⟨h2, z⟩
        simp [fn_is_size, F_is_size, szB, h2, h3]
      · simp [fn_is_size, F_is_size, szB, h2]
  · have k := (num_odd 1 5 (d := d) (by rcases h with h | h | h <;> simp [h])).1
    have e : szB su d = false := by rcases h with rfl | rfl | rfl <;> rfl
    simp [fn_is_size, F_is_size, k, e]
theorem y_num {y : D} (hi : Int) (h : YD y) : fn_is_number [y, .int 0, .int hi] = some (.sh (.bool (yB hi y)), []) ∧ fn_L_whole [y, .int 0, .int hi] = some (.sh (.bool (yB hi y)), []) := by
  rcases h with ⟨x, rfl⟩ | h
  · exact ⟨fn_is_number_int x 0 hi, L_whole_int x 0 hi⟩
  · have e : yB hi y = false := by rcases h with rfl | rfl | rfl | rfl <;> rfl
    rw [e]
    exact num_odd 0 hi h
theorem c1_any {ds : List D} {y : D} {d : D} (h : SzD d) : lcB [2] (gNm 2) F_L_is_comers_c1 (eVar 2) d [.sh (eSetup su), .sh (.tuple [.tuple ds, y]), .em] = some (if !szB su d then some d else none, [.sh (eSetup su), .sh (.tuple [.tuple ds, y]), .em]) := by
  rcases h with ⟨x, rfl⟩ | h
  · have k := L_whole_int x 1 5
    have k2 := notIn_eTI x su.sizes
    by_cases h1 : 1 ≤ x
    · by_cases h2 : x ≤ 5
      · by_cases h3 : x ∈ su.sizes <;> simp [F_L_is_comers_c1, szB, k, k2, h1, h2, h3]
      · simp [F_L_is_comers_c1, szB, k, h1, h2]
    · simp [F_L_is_comers_c1, szB, k, h1]
  · have k := (num_odd 1 5 (d := d) (by rcases h with h | h | h <;> simp [h])).2
    have e : szB su d = false := by rcases h with rfl | rfl | rfl <;> rfl
    simp [F_L_is_comers_c1, k, e]
theorem filt_nil {α : Type} (p : α → Bool) : ∀ ds : List α, (ds.filter fun d => !p d).isEmpty = ds.all p
  | [] => rfl
  | d :: ds => by
    rw [List.filter_cons, List.all_cons]
    cases h : p d <;> simp [filt_nil p ds]
theorem cm_judge {ds : List D} {y : D} (hd : ∀ d ∈ ds, SzD d) (hy : YD y) (hl : ds.length ≤ 1000) :
    fn_is_comers [eSetup su, .tuple [.tuple ds, y]] = some (.sh (.bool ((decide ((ds.length : Int) ≤ su.comers.1) && ds.all (szB su)) && yB su.comers.2 y)), []) ∧
    fn_L_is_comers [eSetup su, .tuple [.tuple ds, y]] = some (.sh (.bool ((decide ((ds.length : Int) ≤ su.comers.1) && ds.all (szB su)) && yB su.comers.2 y)), []) := by
  obtain ⟨y1, y2⟩ := y_num su.comers.2 hy
  have h1 : gIsi "tuple" (.tuple [.tuple ds, y]) = some (.bool true) := rfl
  have h2 : gLenA (.tuple [.tuple ds, y]) = some (.int 2) := rfl
  have h3 : gIsi "tuple" (.tuple ds) = some (.bool true) := rfl
  have h4 : gLenA (.tuple ds) = some (.int ds.length) := rfl
  have h5 : gIxA (.tuple [.tuple ds, y]) (.int 0) = some (.tuple ds) := rfl
  have h6 : gIxA (.tuple [.tuple ds, y]) (.int 1) = some y := rfl
  have hsq : seqD (.tuple ds) = some ds := rfl
  have k1 := lcL_map (vs := [4]) (G := gNm 4) (T := (tfYes)) (E := F_is_comers_e1) (fun d : D => d) [.sh (eSetup su), .sh (.tuple [.tuple ds, y]), .sh (.tuple ds), .sh y, .em] (fun d => .bool (szB su d)) ds (fun d hd' => by
    have e := fn_is_size_any (su := su) (hd d hd')
    simp [F_is_comers_e1, e]) (by omega)
  rw [List.map_id'] at k1
  have k2 := lcL_filter (vs := [2]) (G := gNm 2) (T := F_L_is_comers_c1) (E := (eVar 2)) (fun d : D => d) [.sh (eSetup su), .sh (.tuple [.tuple ds, y]), .em] (fun d => !szB su d) (fun d => d) ds (fun d hd' => c1_any (hd d hd')) (by omega)
  rw [List.map_id', List.map_id'] at k2
  have e3 := gAll_f (szB su) ds
  have e4 := filt_nil (szB su) ds
  by_cases hlen : (ds.length : Int) ≤ su.comers.1
  · have hlen' : ¬ su.comers.1 < (ds.length : Int) := by omega
    cases ha : ds.all (szB su) with
    | false =>
      rw [ha] at e3 e4
      refine ⟨by simp [fn_is_comers, F_is_comers, h1, h2, h3, h4, hsq, k1, e3, hlen'], ?_⟩
      cases hy2 : yB su.comers.2 y <;> rw [hy2] at y2 <;> simp [fn_L_is_comers, F_L_is_comers, h1, h2, h3, h4, h5, h6, hsq, k2, e4, y2, hlen']
    | true =>
      rw [ha] at e3 e4
      refine ⟨by simp [fn_is_comers, F_is_comers, h1, h2, h3, h4, hsq, k1, e3, hlen', y1, hlen], ?_⟩
      cases hy2 : yB su.comers.2 y <;> rw [hy2] at y2 <;> simp [fn_L_is_comers, F_L_is_comers, h1, h2, h3, h4, h5, h6, hsq, k2, e4, y2, hlen', hlen]
  · have hlen' : su.comers.1 < (ds.length : Int) := by omega
    exact ⟨by simp [fn_is_comers, F_is_comers, h1, h2, h3, h4, hlen', hlen], by simp [fn_L_is_comers, F_L_is_comers, h1, h2, h3, h4, h5, hlen', hlen]⟩
theorem ints_of : ∀ {ds : List D}, ds.all (szB su) = true → ∃ l : List Int, ds = l.map PyData.int ∧ ∀ x ∈ l, x ∈ su.sizes
  | [], _ => ⟨[], rfl, fun x hx => absurd hx List.not_mem_nil⟩
  | d :: ds, h => by
    rw [List.all_cons, Bool.and_eq_true] at h
    obtain ⟨l, h1, h2⟩ := ints_of h.2
    cases d with
    | int x =>
      have hx : ((decide (1 ≤ x) && decide (x ≤ 5)) && decide (x ∈ su.sizes)) = true := h.1
      rw [Bool.and_eq_true, decide_eq_true_eq] at hx
      refine ⟨x :: l, by rw [h1]; rfl, fun z hz => ?_⟩
      rcases List.mem_cons.mp hz with rfl | hz
      · exact hx.2
      · exact h2 z hz
    | _ => exact absurd h.1 (by simp [szB])
theorem cm_any {ds : List D} {y : D} (hd : ∀ d ∈ ds, SzD d) (hy : YD y) (hl : ds.length ≤ 1000) : CmOk su (.tuple [.tuple ds, y]) := by
  obtain ⟨k1, k2⟩ := cm_judge (su := su) hd hy hl
  cases h : ((decide ((ds.length : Int) ≤ su.comers.1) && ds.all (szB su)) && yB su.comers.2 y) with
  | false =>
    rw [h] at k1 k2
    exact .inr ⟨k1, k2⟩
  | true =>
    rw [h] at k1 k2
    rw [Bool.and_eq_true, Bool.and_eq_true, decide_eq_true_eq] at h
    obtain ⟨l, rfl, hm⟩ := ints_of h.1.2
    have hy' := h.2
    cases y with
    | int z =>
      have hz : (decide (0 ≤ z) && decide (z ≤ su.comers.2)) = true := hy'
      rw [Bool.and_eq_true, decide_eq_true_eq, decide_eq_true_eq] at hz
      have hln := h.1.1
      rw [List.length_map] at hln
      exact .inl ⟨⟨l, z⟩, rfl, ⟨hln, hm, hz⟩, k1, k2⟩
    | _ => exact absurd hy' (by simp [yB])
theorem cm_com (c : Com) (hl : c.groups.length ≤ 1000) : CmOk su (eCom c) := cm_any (ds := c.groups.map PyData.int) (y := .int c.singles) (fun d hd => by
    obtain ⟨x, _, rfl⟩ := List.mem_map.mp hd
    exact .inl ⟨x, rfl⟩) (.inl ⟨_, rfl⟩) (by rw [List.length_map]; exact hl)
theorem good_com (S : SuOk su) {c : Com} (h : ComOk su c) : GoodC su c := by
  have hn := h.n
  have hc := S.c1
  obtain ⟨k1, k2⟩ := cm_judge (su := su) (ds := c.groups.map PyData.int) (y := .int c.singles) (fun d hd => by
    obtain ⟨x, _, rfl⟩ := List.mem_map.mp hd
    exact .inl ⟨x, rfl⟩) (.inl ⟨_, rfl⟩) (by rw [List.length_map]; omega)
  have e : ((decide (((c.groups.map PyData.int).length : Int) ≤ su.comers.1) && (c.groups.map PyData.int).all (szB su)) && yB su.comers.2 (.int c.singles)) = true := by
    rw [Bool.and_eq_true, Bool.and_eq_true, decide_eq_true_eq, List.length_map]
    refine ⟨⟨hn, List.all_eq_true.mpr fun d hd => ?_⟩, ?_⟩
    · obtain ⟨x, hx, rfl⟩ := List.mem_map.mp hd
      have h1 := S.si x (h.g x hx)
      show ((decide (1 ≤ x) && decide (x ≤ 5)) && decide (x ∈ su.sizes)) = true
      rw [decide_eq_true h1.1, decide_eq_true h1.2, decide_eq_true (h.g x hx)]
      rfl
    · show (decide (0 ≤ c.singles) && decide (c.singles ≤ su.comers.2)) = true
      rw [decide_eq_true h.s.1, decide_eq_true h.s.2]
      rfl
  rw [e] at k1 k2
  exact ⟨k1, k2⟩
theorem cm_ok (S : SuOk su) {c : Com} (h : ComOk su c) : CmOk su (eCom c) := .inl ⟨c, rfl, h, good_com S h⟩
theorem badc_nt {d : D} (h : gIsi "tuple" d = some (.bool false)) : BadC su d := ⟨by simp [fn_is_comers, F_is_comers, h], by simp [fn_L_is_comers, F_L_is_comers, h]⟩
theorem badc_len {ds : List D} (h : ds.length ≠ 2) : BadC su (.tuple ds) := by
  have h1 : gIsi "tuple" (.tuple ds) = some (.bool true) := rfl
  have h2 : gLenA (.tuple ds) = some (.int ds.length) := rfl
  have h3 : ¬ (ds.length : Int) = 2 := by omega
  exact ⟨by simp [fn_is_comers, F_is_comers, h1, h2, h3], by simp [fn_L_is_comers, F_L_is_comers, h1, h2, h3]⟩
theorem badc_in {x y : D} (h : gIsi "tuple" x = some (.bool false)) : BadC su (.tuple [x, y]) := by
  have h1 : gIsi "tuple" (.tuple [x, y]) = some (.bool true) := rfl
  have h2 : gLenA (.tuple [x, y]) = some (.int 2) := rfl
  have h3 : gIxA (.tuple [x, y]) (.int 0) = some x := rfl
  exact ⟨by simp [fn_is_comers, F_is_comers, h1, h2, h], by simp [fn_L_is_comers, F_L_is_comers, h1, h2, h3, h]⟩
end
end Fc
set_option maxHeartbeats 400000
set_option Elab.async false
set_option linter.all false
set_option maxRecDepth 100000
namespace Fc
open PySem L2
section
variable {su : Setup} {rs : List Rw}
/-! ### rows of any form -/
def AllG (su : Setup) (row : List Com) : Prop := ∀ c ∈ row, GoodC su c
theorem row_split : ∀ {ds : List D}, (∀ d ∈ ds, CmOk su d) → (∃ row, ds = row.map eCom ∧ RowOk su row ∧ AllG su row) ∨ ∃ d ∈ ds, BadC su d
  | [], _ => .inl ⟨[], rfl, fun c hc => absurd hc List.not_mem_nil, fun c hc => absurd hc List.not_mem_nil⟩
  | d :: ds, h => by
    rcases h d List.mem_cons_self with ⟨c, rfl, hc, hg⟩ | hb
    · rcases row_split fun x hx => h x (List.mem_cons_of_mem _ hx) with ⟨row, rfl, h1, h2⟩ | ⟨x, hx, hb⟩
      · refine .inl ⟨c :: row, rfl, fun y hy => ?_, fun y hy => ?_⟩
        · rcases List.mem_cons.mp hy with rfl | hy
          · exact hc
          · exact h1 y hy
        · rcases List.mem_cons.mp hy with rfl | hy
          · exact hg
          · exact h2 y hy
      · exact .inr ⟨x, List.mem_cons_of_mem _ hx, hb⟩
    · exact .inr ⟨d, List.mem_cons_self, hb⟩
theorem rf_good (W M : D) : ∀ (row : List Com) (k : Nat), AllG su row → forL (gTp 2 (gsCons (gNm 3) (gsCons (gNm 4) (gsNil)))) F_row_fault_b1 [3, 4] (enumD k (row.map eCom)) [.sh (eSetup su), .sh W, .sh M, .em, .em] = some (.nx [.sh (eSetup su), .sh W, .sh M, .em, .em])
  | [], k, _ => rfl
  | c :: row, k, h => by
    have ih := rf_good W M row (k + 1) fun x hx => h x (List.mem_cons_of_mem _ hx)
    have e := (h c List.mem_cons_self).p
    have hb : forB (gTp 2 (gsCons (gNm 3) (gsCons (gNm 4) (gsNil)))) F_row_fault_b1 [3, 4] (.tuple [.int k, eCom c]) [.sh (eSetup su), .sh W, .sh M, .em, .em] = some (.nx [.sh (eSetup su), .sh W, .sh M, .em, .em]) := by
      simp [F_row_fault_b1, e]
    rw [List.map_cons, enumD, forL_B, hb]
    exact ih
theorem rf_bad (W M : D) : ∀ (ds : List D) (k : Nat), (∀ d ∈ ds, CmOk su d) → (∃ d ∈ ds, BadC su d) → ∃ (j : Int) (ρ' : En), forL (gTp 2 (gsCons (gNm 3) (gsCons (gNm 4) (gsNil)))) F_row_fault_b1 [3, 4] (enumD k ds) [.sh (eSetup su), .sh W, .sh M, .em, .em] = some (.rt (.sh (.int j)) ρ')
  | [], k, _, ⟨d, hd, _⟩ => absurd hd List.not_mem_nil
  | d :: ds, k, h, hb => by
    have bad : BadC su d → ∃ (j : Int) (ρ' : En), forL (gTp 2 (gsCons (gNm 3) (gsCons (gNm 4) (gsNil)))) F_row_fault_b1 [3, 4] (enumD k (d :: ds)) [.sh (eSetup su), .sh W, .sh M, .em, .em] = some (.rt (.sh (.int j)) ρ') := fun hd => by
      have e := hd.p
      have hb : ∃ ρ', forB (gTp 2 (gsCons (gNm 3) (gsCons (gNm 4) (gsNil)))) F_row_fault_b1 [3, 4] (.tuple [.int k, d]) [.sh (eSetup su), .sh W, .sh M, .em, .em] = some (.rt (.sh (.int k)) ρ') := ⟨_, forB_rt (G := gTp 2 (gsCons (gNm 3) (gsCons (gNm 4) (gsNil)))) (F := F_row_fault_b1) (dead := [3, 4]) (d := .tuple [.int k, d]) (ρ := [.sh (eSetup su), .sh W, .sh M, .em, .em]) (ρ1 := [.sh (eSetup su), .sh W, .sh M, .sh (.int k), .sh d]) (by simp) (by simp [F_row_fault_b1, e]; rfl)⟩
      obtain ⟨ρ', hb⟩ := hb
      exact ⟨k, ρ', by rw [enumD, forL_B, hb]; rfl⟩
    rcases h d List.mem_cons_self with ⟨c, rfl, hc, hg⟩ | hd
    · obtain ⟨x, hx, hxb⟩ := hb
      rcases List.mem_cons.mp hx with rfl | hx
      · exact bad hxb
      · obtain ⟨j, ρ', k1⟩ := rf_bad W M ds (k + 1) (fun y hy => h y (List.mem_cons_of_mem _ hy)) ⟨x, hx, hxb⟩
        have e := hg.p
        have hb : forB (gTp 2 (gsCons (gNm 3) (gsCons (gNm 4) (gsNil)))) F_row_fault_b1 [3, 4] (.tuple [.int k, eCom c]) [.sh (eSetup su), .sh W, .sh M, .em, .em] = some (.nx [.sh (eSetup su), .sh W, .sh M, .em, .em]) := by
          simp [F_row_fault_b1, e]
        exact ⟨j, ρ', by rw [enumD, forL_B, hb]; exact k1⟩
    · exact bad hd
theorem sl_all (ds : List D) : gSl none (some (ds.length : Int)) (.list ds) = some (.list ds) := by
  show some (PyData.list (cutD ds none (some (ds.length : Int)))) = _
  rw [cut_up, List.take_of_length_le (Nat.le_refl _)]
theorem fn_row_fault_good {row : List Com} (h : AllG su row) : fn_row_fault [eSetup su, eRow row, .int row.length] = some (.sh .none, []) := by
  have k := rf_good (su := su) (eRow row) (.int row.length) row 0 h
  have e := sl_all (row.map eCom)
  rw [List.length_map] at e
  have e : gSl none (some (row.length : Int)) (eRow row) = some (.list (row.map eCom)) := e
  have hi : gIsi "list" (eRow row) = some (.bool true) := rfl
  simp [fn_row_fault, F_row_fault, hi, e, k]
theorem fn_row_fault_bad {ds : List D} (h : ∀ d ∈ ds, CmOk su d) (hb : ∃ d ∈ ds, BadC su d) : ∃ j : Int, fn_row_fault [eSetup su, .list ds, .int ds.length] = some (.sh (.int j), []) := by
  obtain ⟨j, ρ', k⟩ := rf_bad (.list ds) (.int ds.length) ds 0 h hb
  have e := sl_all ds
  have hi : gIsi "list" (.list ds) = some (.bool true) := rfl
  exact ⟨j, by simp [fn_row_fault, F_row_fault, hi, e, k]⟩
/-! ### run -/
theorem fn_run_sh (S : SuOk su) {s : Sta} (h : StOk su s) {row : List Com} (hr : RowOk su row) (hl : row.length ≤ 100000) : fn_run [eSetup su, eRule rs, eSta s, eRow row] = some (.sh (.tuple [eChs (runCh su rs s row), eSta (runSt su rs s row)]), []) := by
  have k : ∀ (cs : List Com) (t : Sta) (acc : List Chair), StOk su t → RowOk su cs → acc.length + cs.length ≤ 100000 → forL (gNm 5) F_run_b1 [5, 6] (cs.map eCom) [.sh (eSetup su), .sh (eRule rs), .sh (eSta t), .sh (eRow row), .ow (.list (acc.map eChair)), .em, .em] = some (.nx [.sh (eSetup su), .sh (eRule rs), .sh (eSta (runSt su rs t cs)), .sh (eRow row), .ow (.list ((acc ++ runCh su rs t cs).map eChair)), .em, .em]) := fun cs => by
    induction cs with
    | nil => intro t acc _ _ _; rw [List.map_nil, forL_nil, runCh, runSt, List.append_nil]
    | cons c cs ih =>
      intro t acc ht hc hl
      rw [List.length_cons] at hl
      have hcc := hc c List.mem_cons_self
      have e1 := fn_beat_eq S rs ht hcc
      have ih := ih (beatT su rs t c).st (acc ++ [(beatT su rs t c).chair]) (beat_ok S ht hcc) (fun d hd => hc d (List.mem_cons_of_mem _ hd)) (by rw [List.length_append, List.length_singleton]; omega)
      have hb : forB (gNm 5) F_run_b1 [5, 6] (eCom c) [.sh (eSetup su), .sh (eRule rs), .sh (eSta t), .sh (eRow row), .ow (.list (acc.map eChair)), .em, .em] = some (.nx [.sh (eSetup su), .sh (eRule rs), .sh (eSta (beatT su rs t c).st), .sh (eRow row), .ow (.list ((acc ++ [(beatT su rs t c).chair]).map eChair)), .em, .em]) := by
        simp [F_run_b1, e1, eBt, show acc.length < 1000000 by omega]
      rw [List.map_cons, forL_B, hb]
      rw [List.append_assoc] at ih
      exact ih
  have k := k row s [] h hr (by simpa using hl)
  simp at k
  simp [fn_run, F_run, k, eChs]
theorem first_start : fn_first_state [] = some (.sh (eSta startT), []) := by
  simp [fn_first_state, F_first_state]
  rfl
/-! ### rings of any form -/
def lossR (l : List Chair) : Int := (l.map (·.lost)).sum
inductive ThingR (su : Setup) : D → Prop
  | nt {W : D} : gIsi "tuple" W = some (.bool false) → ThingR su W
  | ln {ds : List D} : ds.length ≠ 2 → ThingR su (.tuple ds)
  | l1 {x y : D} : gIsi "list" x = some (.bool false) → ThingR su (.tuple [x, y])
  | l2 {ds : List D} {y : D} : gIsi "list" y = some (.bool false) → ThingR su (.tuple [.list ds, y])
  | ok {ds es : List D} : (∀ d ∈ ds, CmOk su d) → (∀ d ∈ es, CmOk su d) → ds.length ≤ 3000 → es.length ≤ 3000 → ThingR su (.tuple [.list ds, .list es])
def eRg : Option (Int × Int) → D
  | none => .none
  | some p => eP p
def dueT (a b : Int) : Option (Int × Int) → Bool
  | none => false
  | some p => decide (p.1 * b = a * p.2)
structure RingJ (su : Setup) (rs : List Rw) (W : D) (r : Option (Int × Int)) : Prop where
  l : fn_L_ring_right [eSetup su, eRule rs, W] = some (.sh (eRg r), [])
  b : ∀ p, r = some p → 1 ≤ p.2 ∧ p.2 ≤ 3000
  p : ∀ a b : Int, 0 ≤ a → 1 ≤ b → b ≤ 1000000 → fn_ring_holds [eSetup su, eRule rs, .int a, .int b, W] = some (.sh (.bool (dueT a b r)), [])
theorem ring_no (S : SuOk su) (R : RuOk rs) {W : D} (h1 : fn_L_ring_right [eSetup su, eRule rs, W] = some (.sh .none, [])) (h2 : fn_is_ring [eSetup su, eRule rs, W] = some (.sh (.bool false), [])) : RingJ su rs W none := by
  refine ⟨h1, fun p h => (nomatch h), fun a b ha hb hb2 => ?_⟩
  have e1 := fn_check_both_eq (su := su) (rs := rs) S R
  have e2 : fn_check_fraction [.int a, .int b] = some (.sh .none, []) := by
    simp [fn_check_fraction, F_check_fraction, fn_is_integer, F_is_integer, show ¬ a < 0 by omega, show ¬ b < 1 by omega]
  simp [fn_ring_holds, F_ring_holds, e1, e2, h2, dueT]
theorem ring_rows (S : SuOk su) (R : RuOk rs) {x y : List Com} (hx : RowOk su x) (gx : AllG su x) (hy : RowOk su y) (gy : AllG su y) (lx : x.length ≤ 3000) (ly : y.length ≤ 3000) (hne : y ≠ []) :
    RingJ su rs (.tuple [eRow x, eRow y]) (if runSt su rs (runSt su rs startT x) y = runSt su rs startT x then some (lossR (runCh su rs (runSt su rs startT x) y), (y.length : Int)) else none) := by
  have hs1 := run_ok (rs := rs) S x (gd_start S).o hx
  have e1 := fn_run_sh (rs := rs) S (gd_start S).o hx (by omega)
  have e2 := fn_run_sh (rs := rs) S hs1 hy (by omega)
  have e3 := first_start
  have f1 := fn_row_fault_good gx
  have f2 := fn_row_fault_good gy
  have l1 := fn_L_run_eq S R (gd_start S).o hx (by omega)
  have l2 := fn_L_run_eq S R hs1 hy (by omega)
  have h1 : gIsi "tuple" (.tuple [eRow x, eRow y]) = some (.bool true) := rfl
  have h2 : gLenA (.tuple [eRow x, eRow y]) = some (.int 2) := rfl
  have h3 : ∀ z : List Com, gIsi "list" (eRow z) = some (.bool true) := fun _ => rfl
  have h4 : gNil false (eRow y) (.list []) = some (.bool false) := by
    cases y with
    | nil => exact absurd rfl hne
    | cons c y => rfl
  have h5 : gIxA (.tuple [eRow x, eRow y]) (.int 0) = some (eRow x) := rfl
  have h6 : gIxA (.tuple [eRow x, eRow y]) (.int 1) = some (eRow y) := rfl
  have h7 : gAdd (eRow x) (eRow y) = some (eRow (x ++ y)) := by
    show gAdd (.list _) (.list _) = _
    rw [gAdd_lst, if_pos (by rw [List.length_map, List.length_map]; omega), ← List.map_append]
    rfl
  have hsq : ∀ z : List Com, seqD (eRow z) = some (z.map eCom) := fun _ => rfl
  have hsc : ∀ z : List Chair, seqD (eChs z) = some (z.map eChair) := fun _ => rfl
  have k0 := lcL_none (vs := [8]) (G := gNm 8) (T := F_L_ring_right_c1) (E := (eVar 8)) eCom [.sh (eSetup su), .sh (eRule rs), .sh (.tuple [eRow x, eRow y]), .sh (eRow x), .sh (eRow y), .em, .em, .em, .em, .em] (x ++ y) (fun c hc => by
    have e := (show GoodC su c from by
      rcases List.mem_append.mp hc with h | h
      · exact gx c h
      · exact gy c h).l
    simp [F_L_ring_right_c1, e]) (by rw [List.length_append]; omega)
  rw [List.map_append] at k0
  have n0 : gNil true (.list []) (.list []) = some (.bool false) := rfl
  have hr0 : gIxA (.tuple [eChs (runCh su rs startT x), eSta (runSt su rs startT x)]) (.int 1) = some (eSta (runSt su rs startT x)) := rfl
  have hr1 : gIxA (.tuple [eChs (runCh su rs (runSt su rs startT x) y), eSta (runSt su rs (runSt su rs startT x) y)]) (.int 1) = some (eSta (runSt su rs (runSt su rs startT x) y)) := rfl
  have hr2 : gIxA (.tuple [eChs (runCh su rs (runSt su rs startT x) y), eSta (runSt su rs (runSt su rs startT x) y)]) (.int 0) = some (eChs (runCh su rs (runSt su rs startT x) y)) := rfl
  have z0 : PyData.tuple [.int 0, .tuple [], .int 0, .int 0] = eSta startT := rfl
  have hcl : (runCh su rs (runSt su rs startT x) y).length ≤ 3000 := by rw [runCh_len]; exact ly
  generalize runSt su rs startT x = s1 at *
  generalize runCh su rs s1 y = ch at *
  generalize runSt su rs s1 y = s2 at *
  have c2 : ∀ c : Chair, gIxA (eChair c) (.int 2) = some (.int c.lost) := fun _ => rfl
  have m1 := lcL_map (vs := [9]) (G := gNm 9) (T := (tfYes)) (E := F_L_ring_right_e1) eChair [.sh (eSetup su), .sh (eRule rs), .sh (.tuple [eRow x, eRow y]), .sh (eRow x), .sh (eRow y), .sh (eSta s1), .sh (eChs ch), .sh (eSta s2), .em, .em] (fun c => .int c.lost) ch (fun c _ => by simp [F_L_ring_right_e1, c2]) (by omega)
  have m2 : ∀ a b : Int, lcL [7] (gNm 7) tfYes F_ring_holds_e1 (ch.map eChair) [] [.sh (eSetup su), .sh (eRule rs), .sh (.int a), .sh (.int b), .sh (.tuple [eRow x, eRow y]), .sh (eSta s1), .em, .em] = some (ch.map fun c => .int c.lost, [.sh (eSetup su), .sh (eRule rs), .sh (.int a), .sh (.int b), .sh (.tuple [eRow x, eRow y]), .sh (eSta s1), .em, .em]) := fun a b => lcL_map (vs := [7]) (G := gNm 7) (T := (tfYes)) (E := F_ring_holds_e1) eChair [.sh (eSetup su), .sh (eRule rs), .sh (.int a), .sh (.int b), .sh (.tuple [eRow x, eRow y]), .sh (eSta s1), .em, .em] (fun c => .int c.lost) ch (fun c _ => by simp [F_ring_holds_e1, c2]) (by omega)
  have m3 := gSum_f (fun c : Chair => c.lost) ch
  have hloss : (ch.map fun c => c.lost).sum = lossR ch := rfl
  have ir : fn_is_ring [eSetup su, eRule rs, .tuple [eRow x, eRow y]] = some (.sh (.bool (decide (s2 = s1))), []) := by
    simp [fn_is_ring, F_is_ring, h1, h2, h3, h4, f1, f2, e3, e1, e2, hr0, hr1, -gNil_ap]
  have yl : (1 : Int) ≤ y.length := by have := List.length_pos_iff.mpr hne; omega
  by_cases hq : s2 = s1
  · subst hq
    rw [if_pos rfl]
    rw [decide_eq_true rfl] at ir
    refine ⟨?_, fun p h => (by cases h; exact ⟨yl, by show (y.length : Int) ≤ 3000; omega⟩), fun a b ha hb hb2 => ?_⟩
    · simp [fn_L_ring_right, F_L_ring_right, h1, h2, h3, h4, h7, hsq, k0, n0, z0, l1, l2, hr0, hsc, m1, m3, eRg, eP, hloss, -gNil_ap]
    · have q1 := fn_check_both_eq (su := su) (rs := rs) S R
      have q2 : fn_check_fraction [.int a, .int b] = some (.sh .none, []) := by
        simp [fn_check_fraction, F_check_fraction, fn_is_integer, F_is_integer, show ¬ a < 0 by omega, show ¬ b < 1 by omega]
      have g1 : -18446744073709551616 < b ∧ b < 18446744073709551616 := by omega
      have g2 : -18446744073709551616 < (y.length : Int) ∧ (y.length : Int) < 18446744073709551616 := by omega
      simp [fn_ring_holds, F_ring_holds, q1, q2, ir, e3, h5, h6, e1, e2, hr0, hr2, hsc, m2, m3, g1, g2, hloss, dueT]
      by_cases hz : lossR ch * b = a * (y.length : Int) <;> simp [hz]
  · rw [if_neg hq]
    rw [decide_eq_false hq] at ir
    refine ring_no S R ?_ ir
    simp [fn_L_ring_right, F_L_ring_right, h1, h2, h3, h4, h7, hsq, k0, n0, z0, l1, l2, hr0, hsc, hq, -gNil_ap]
theorem ring_judged (S : SuOk su) (R : RuOk rs) {W : D} (h : ThingR su W) : ∃ r, RingJ su rs W r := by
  cases h with
  | nt h => exact ⟨none, ring_no S R (by simp [fn_L_ring_right, F_L_ring_right, h]) (by simp [fn_is_ring, F_is_ring, h])⟩
  | @ln ds h =>
    have h1 : gIsi "tuple" (.tuple ds) = some (.bool true) := rfl
    have h2 : gLenA (.tuple ds) = some (.int ds.length) := rfl
    have h3 : ¬ (ds.length : Int) = 2 := by omega
    exact ⟨none, ring_no S R (by simp [fn_L_ring_right, F_L_ring_right, h1, h2, h3]) (by simp [fn_is_ring, F_is_ring, h1, h2, h3])⟩
  | @l1 x y h =>
    have h1 : gIsi "tuple" (.tuple [x, y]) = some (.bool true) := rfl
    have h2 : gLenA (.tuple [x, y]) = some (.int 2) := rfl
    exact ⟨none, ring_no S R (by simp [fn_L_ring_right, F_L_ring_right, h1, h2, h]) (by simp [fn_is_ring, F_is_ring, h1, h2, h])⟩
  | @l2 ds y h =>
    have h1 : gIsi "tuple" (.tuple [.list ds, y]) = some (.bool true) := rfl
    have h2 : gLenA (.tuple [.list ds, y]) = some (.int 2) := rfl
    have h3 : gIsi "list" (.list ds) = some (.bool true) := rfl
    exact ⟨none, ring_no S R (by simp [fn_L_ring_right, F_L_ring_right, h1, h2, h3, h]) (by simp [fn_is_ring, F_is_ring, h1, h2, h3, h])⟩
  | @ok ds es hd he ld le =>
    have h1 : gIsi "tuple" (.tuple [.list ds, .list es]) = some (.bool true) := rfl
    have h2 : gLenA (.tuple [.list ds, .list es]) = some (.int 2) := rfl
    have h3 : ∀ z : List D, gIsi "list" (.list z) = some (.bool true) := fun _ => rfl
    by_cases hne : es = []
    · have h4 : gNil false (.list es) (.list []) = some (.bool true) := by rw [hne]; rfl
      exact ⟨none, ring_no S R (by simp [fn_L_ring_right, F_L_ring_right, h1, h2, h3, h4, -gNil_ap]) (by simp [fn_is_ring, F_is_ring, h1, h2, h3, h4, -gNil_ap])⟩
    · have h4 : gNil false (.list es) (.list []) = some (.bool false) := by
        cases es with
        | nil => exact absurd rfl hne
        | cons c y => rfl
      have law_bad : (∃ d ∈ ds ++ es, BadC su d) → fn_L_ring_right [eSetup su, eRule rs, .tuple [.list ds, .list es]] = some (.sh .none, []) := fun hb => by
        have h7 : gAdd (.list ds) (.list es) = some (.list (ds ++ es)) := by rw [gAdd_lst, if_pos (by omega)]
        have hsq : seqD (.list (ds ++ es)) = some (ds ++ es) := rfl
        classical
        have hall : ∀ d ∈ ds ++ es, CmOk su d := fun d hd' => by
          rcases List.mem_append.mp hd' with h | h
          · exact hd d h
          · exact he d h
        have k := lcL_filter (vs := [8]) (G := gNm 8) (T := F_L_ring_right_c1) (E := (eVar 8)) (fun d : D => d) [.sh (eSetup su), .sh (eRule rs), .sh (.tuple [.list ds, .list es]), .sh (.list ds), .sh (.list es), .em, .em, .em, .em, .em] (fun d => decide (BadC su d)) (fun d => d) (ds ++ es) (fun d hd' => by
          rcases hall d hd' with ⟨c, rfl, hc, hg⟩ | hb
          · have hn : ¬ BadC su (eCom c) := fun hb => by
              have := hg.l
              rw [hb.l] at this
              cases this
            have e := hg.l
            simp [F_L_ring_right_c1, e, hn]
          · have e := hb.l
            simp [F_L_ring_right_c1, e, hb]) (by rw [List.length_append]; omega)
        rw [List.map_id', List.map_id'] at k
        obtain ⟨d, hd', hbd⟩ := hb
        have hf : ((ds ++ es).filter fun d => decide (BadC su d)) ≠ [] := fun z => by
          have := (List.mem_filter (p := fun d => decide (BadC su d))).mpr ⟨hd', decide_eq_true hbd⟩
          rw [z] at this
          exact List.not_mem_nil this
        have n1 : gNil true (.list ((ds ++ es).filter fun d => decide (BadC su d))) (.list []) = some (.bool true) := by
          cases hz : ((ds ++ es).filter fun d => decide (BadC su d)) with
          | nil => exact absurd hz hf
          | cons _ _ => rfl
        simp [fn_L_ring_right, F_L_ring_right, h1, h2, h3, h4, h7, hsq, k, n1, -gNil_ap, -gAdd_lst, -List.filter_append]
      rcases row_split hd with ⟨x, rfl, hx, gx⟩ | hb
      · rcases row_split he with ⟨y, rfl, hy, gy⟩ | hb
        · rw [List.length_map] at ld le
          exact ⟨_, ring_rows S R hx gx hy gy ld le fun z => hne (by rw [z]; rfl)⟩
        · obtain ⟨j, k⟩ := fn_row_fault_bad he hb
          have k0 := fn_row_fault_good gx
          have k0 : fn_row_fault [eSetup su, .list (x.map eCom), .int x.length] = some (.sh .none, []) := k0
          obtain ⟨d, hd', hbd⟩ := hb
          have q1 : gLenA (.list (x.map eCom)) = some (.int x.length) := by show some (PyData.int ((x.map eCom).length : Nat)) = _; rw [List.length_map]
          have q2 : gLenA (.list es) = some (.int es.length) := rfl
          exact ⟨none, ring_no S R (law_bad ⟨d, List.mem_append_right _ hd', hbd⟩) (by simp [fn_is_ring, F_is_ring, h1, h2, h3, h4, q1, q2, k0, k, -gNil_ap])⟩
      · obtain ⟨j, k⟩ := fn_row_fault_bad hd hb
        obtain ⟨d, hd', hbd⟩ := hb
        have q1 : gLenA (.list ds) = some (.int ds.length) := rfl
        exact ⟨none, ring_no S R (law_bad ⟨d, List.mem_append_left _ hd', hbd⟩) (by simp [fn_is_ring, F_is_ring, h1, h2, h3, h4, q1, k, -gNil_ap])⟩
end
end Fc
set_option maxHeartbeats 4000000
set_option Elab.async false
set_option linter.all false
set_option maxRecDepth 100000
namespace Fc
open PySem L2
@[simp] theorem sl_eRow_up (row : List Com) (z : Int) (h : 0 ≤ z) : gSl none (some z) (eRow row) = some (eRow (row.take z.toNat)) := by
  show some (PyData.list (cutD (row.map eCom) none (some z))) = _
  rw [cut_upI _ h, ← List.map_take]
  rfl
theorem ix_eTI {xs : List Int} {t : Int} (h0 : 0 ≤ t) (h1 : t < xs.length) : ∃ x, x ∈ xs ∧ atI xs t = some x := by
  have hl : t.toNat < xs.length := by omega
  refine ⟨xs[t.toNat], List.getElem_mem hl, ?_⟩
  have := atI_nat (List.getElem?_eq_getElem hl)
  rw [Int.toNat_of_nonneg h0] at this
  exact this
theorem fn_L_comers_eq {su : Setup} (S : SuOk su) (d : Int × Int) : ∃ c d', fn_L_comers [eDk d, eSetup su] = some (.sh (eCom c), [eDk d']) ∧ ComOk su c := by
  have hk1 := S.k1
  have hk2 := S.k2
  have hc1 := S.c1
  have hc2 := S.c2
  have a1 := take_lo d (m := su.comers.1 + 1) (by omega)
  have a2 := take_hi d (m := su.comers.1 + 1) (by omega)
  obtain ⟨ys, d1, e1, e2, e3⟩ := draw_loop (vs := [3]) (G := gNm 3) (E := F_L_comers_e1) PyData.int (fun y => y ∈ su.sizes) (fun d => [.io (eDk d), .sh (eSetup su), .em, .em])
    (fun d x => by
      have b1 := take_lo d (m := su.sizes.length) (by omega)
      have b2 := take_hi d (m := su.sizes.length) (by omega)
      obtain ⟨y, hy, ey⟩ := ix_eTI b1 b2
      exact ⟨[.io (eDk d), .sh (eSetup su), .em, .sh (.int x)], y, (takeT d su.sizes.length).2, [.io (eDk (takeT d su.sizes.length).2), .sh (eSetup su), .em, .sh (.int x)], by simp, by simp [F_L_comers_e1, show 0 < su.sizes.length by omega, show (su.sizes.length : Int) < 1073741824 by omega, ey], by simp, by simp, hy⟩)
    (rng0 (takeT d (su.comers.1 + 1)).1) [] (takeT d (su.comers.1 + 1)).2 (by simp; omega)
  have b1 := take_lo d1 (m := su.comers.2 + 1) (by omega)
  have b2 := take_hi d1 (m := su.comers.2 + 1) (by omega)
  have hq : (takeT d (su.comers.1 + 1)).1 ≤ 1000000 ∧ -1000000 ≤ (takeT d (su.comers.1 + 1)).1 := by omega
  refine ⟨⟨ys, (takeT d1 (su.comers.2 + 1)).1⟩, (takeT d1 (su.comers.2 + 1)).2, ?_, ⟨?_, e3, by dsimp only; omega⟩⟩
  · simp at e1
    simp [fn_L_comers, F_L_comers, show 0 < su.comers.1 + 1 by omega, show su.comers.1 + 1 < 1073741824 by omega, show 0 < su.comers.2 + 1 by omega, show su.comers.2 + 1 < 1073741824 by omega, hq, e1]
    rfl
  · rw [rng0_len] at e2
    dsimp only
    omega
end Fc
set_option maxHeartbeats 4000000
set_option Elab.async false
set_option linter.all false
set_option maxRecDepth 100000
namespace Fc
open PySem L2
theorem fn_L_row_eq {su : Setup} (S : SuOk su) (d : Int × Int) (beats : Int) (h : 0 ≤ beats ∧ beats ≤ 1000) : ∃ row d', fn_L_row [eDk d, eSetup su, .int beats] = some (.sh (eRow row), [eDk d']) ∧ RowOk su row ∧ (row.length : Int) = beats := by
  obtain ⟨ys, d1, e1, e2, e3⟩ := draw_loop (vs := [3]) (G := gNm 3) (E := F_L_row_e1) eCom (ComOk su) (fun d => [.io (eDk d), .sh (eSetup su), .sh (.int beats), .em])
    (fun d x => by
      obtain ⟨c, d', ec, hc⟩ := fn_L_comers_eq S d
      exact ⟨[.io (eDk d), .sh (eSetup su), .sh (.int beats), .sh (.int x)], c, d', [.io (eDk d'), .sh (eSetup su), .sh (.int beats), .sh (.int x)], by simp, by simp [F_L_row_e1, ec], by simp, by simp, hc⟩)
    (rng0 beats) [] d (by simp; omega)
  rw [rng0_len] at e2
  refine ⟨ys, d1, ?_, e3, by omega⟩
  simp at e1
  simp [fn_L_row, F_L_row, show beats ≤ 1000000 ∧ -1000000 ≤ beats by omega, e1]
  rfl
end Fc
set_option maxHeartbeats 1000000
set_option Elab.async false
set_option linter.all false
set_option maxRecDepth 100000
namespace Fc
open PySem L2
theorem upto_eTI (l : List Int) (n : Nat) : gSl none (some (n : Int)) (eTI l) = some (eTI (l.take n)) := by
  show some (PyData.tuple (cutD (l.map PyData.int) none (some (n : Int)))) = _
  rw [cut_up, ← List.map_take]
  rfl
theorem cut_fromJ (xs : List D) (n : Nat) : cutD xs (some (n : Int)) none = xs.drop n := by
  unfold cutD
  rw [HT.sIx_none, HT.sIx_nat, List.take_of_length_le (by rw [List.length_drop]; exact Nat.le_refl _)]
  by_cases h : n ≤ xs.length
  · rw [Nat.min_eq_left h]
  · rw [Nat.min_eq_right (by omega), List.drop_eq_nil_of_le (Nat.le_refl _), List.drop_eq_nil_of_le (by omega)]
theorem from_eTI (l : List Int) (n : Nat) : gSl (some (n : Int)) none (eTI l) = some (eTI (l.drop n)) := by
  show some (PyData.tuple (cutD (l.map PyData.int) (some (n : Int)) none)) = _
  rw [cut_fromJ, ← List.map_drop]
  rfl
theorem addT (a b : List D) (h : a.length + b.length ≤ 100000) : gAdd (.tuple a) (.tuple b) = some (.tuple (a ++ b)) := by
  show (if a.length + b.length ≤ 1000000 then some (PyData.tuple (a ++ b)) else none) = _
  rw [if_pos (by omega)]
theorem mul_oneJ (x k : Int) (h1 : 0 ≤ k) (h2 : k ≤ 1000) : gMulA (.tuple [.int x]) (.int k) = some (.tuple ((List.replicate k.toNat x).map PyData.int)) := by
  show (if [PyData.int x] ≠ [] ∧ repOk [PyData.int x].length k = true then some (PyData.tuple (List.replicate k.toNat [PyData.int x]).flatten) else none) = _
  rw [if_pos ⟨by simp, by rw [repOk_eq]; simp; omega⟩]
  congr 2
  induction k.toNat with
  | zero => rfl
  | succ n ih => rw [List.replicate_succ, List.flatten_cons, ih]; rfl
section
variable {su : Setup} {rs : List Rw}
/-! ### odd things -/
def oddL : List D := [.none, .bool true, .bool false, .str "", .str "2", .tuple [], .list [], .dict [(.int 0, .none)], .tuple [.int 1], .list [.int 1], .int (-1), .str "group", .tuple [.int 0, .int 0], .list [.tuple [.int 1, .int 2]], .dict [(.int 1, .none)], .tuple [.tuple []]]
theorem fn_L_odd_eq (d : Int × Int) : ∃ W d', fn_L_odd [eDk d] = some (.sh W, [eDk d']) ∧ W ∈ oddL := by
  have t1 := take_lo d (m := 16) (by decide)
  have t2 := take_hi d (m := 16) (by decide)
  have et := fn_L_take_eq d 16 (by decide) (by decide)
  obtain ⟨i, hi⟩ := Int.eq_ofNat_of_zero_le t1
  have hlt : i < oddL.length := by show i < 16; omega
  have e : atI oddL (i : Int) = some oddL[i] := atI_nat (List.getElem?_eq_getElem hlt)
  rw [hi] at et
  refine ⟨oddL[i], (takeT d 16).2, ?_, List.getElem_mem hlt⟩
  have z : [PyData.none, .bool true, .bool false, .str "", .str "2", .tuple [], .list [], .dict [(.int 0, .none)], .tuple [.int 1], .list [.int 1], .int (-1), .str "group", .tuple [.int 0, .int 0], .list [.tuple [.int 1, .int 2]], .dict [(.int 1, .none)], .tuple [.tuple []]] = oddL := rfl
  simp [fn_L_odd, F_L_odd, eOdd0, eOdd1, et, z, e, show oddL.length = 16 from rfl]
theorem odd_badc {W : D} (h : W ∈ oddL) : BadC su W := by
  unfold oddL at h
  simp only [List.mem_cons, List.not_mem_nil, or_false] at h
  rcases h with rfl | rfl | rfl | rfl | rfl | rfl | rfl | rfl | rfl | rfl | rfl | rfl | rfl | rfl | rfl | rfl
  · exact badc_nt rfl
  · exact badc_nt rfl
  · exact badc_nt rfl
  · exact badc_nt rfl
  · exact badc_nt rfl
  · exact badc_len (by decide)
  · exact badc_nt rfl
  · exact badc_nt rfl
  · exact badc_len (by decide)
  · exact badc_nt rfl
  · exact badc_nt rfl
  · exact badc_nt rfl
  · exact badc_in rfl
  · exact badc_nt rfl
  · exact badc_nt rfl
  · exact badc_len (by decide)
theorem odd_ring {W : D} (h : W ∈ oddL) : ThingR su W := by
  unfold oddL at h
  simp only [List.mem_cons, List.not_mem_nil, or_false] at h
  rcases h with rfl | rfl | rfl | rfl | rfl | rfl | rfl | rfl | rfl | rfl | rfl | rfl | rfl | rfl | rfl | rfl
  · exact .nt rfl
  · exact .nt rfl
  · exact .nt rfl
  · exact .nt rfl
  · exact .nt rfl
  · exact .ln (by decide)
  · exact .nt rfl
  · exact .nt rfl
  · exact .ln (by decide)
  · exact .nt rfl
  · exact .nt rfl
  · exact .nt rfl
  · exact .l1 rfl
  · exact .nt rfl
  · exact .nt rfl
  · exact .ln (by decide)
/-! ### comers with one thing that may be wrong -/
theorem fn_L_bad_comers_eq (S : SuOk su) (d : Int × Int) : ∃ W d', fn_L_bad_comers [eDk d, eSetup su] = some (.sh W, [eDk d']) ∧ CmOk su W := by
  obtain ⟨c, d1, e1, hc⟩ := fn_L_comers_eq S d
  obtain ⟨gs, sg⟩ := c
  have hgl : gs.length ≤ 2 := by have := hc.n; have := S.c1; simp only at *; omega
  have hgm : (gs.length : Int) ≤ su.comers.1 := hc.n
  have c1 := S.c1
  have e1 : fn_L_comers [eDk d, eSetup su] = some (.sh (.tuple [eTI gs, .int sg]), [eDk d1]) := e1
  have e3 := fn_L_take_eq d1 8 (by decide) (by decide)
  have k1 := take_lo d1 (m := 8) (by decide)
  have k2 := take_hi d1 (m := 8) (by decide)
  obtain ⟨k, hk⟩ : ∃ k, k = (takeT d1 8).1 := ⟨_, rfl⟩
  obtain ⟨d2, hd2⟩ : ∃ d2, d2 = (takeT d1 8).2 := ⟨_, rfl⟩
  rw [← hk] at k1 k2
  rw [← hk, ← hd2] at e3
  obtain ⟨z, hz⟩ : ∃ z, atI su.sizes 0 = some z := by
    cases hq : su.sizes with
    | nil => have := S.k1; rw [hq] at this; exact absurd this (by decide)
    | cons z l => exact ⟨z, atI_0 _ _⟩
  have hz' : gIxA (eTI su.sizes) (.int 0) = some (.int z) := by rw [atI_eTI, hz]; rfl
  have hgi : ∀ d ∈ gs.map PyData.int, SzD d := fun d hd => by
    obtain ⟨x, _, rfl⟩ := List.mem_map.mp hd
    exact .inl ⟨x, rfl⟩
  have hkk : k = 0 ∨ k = 1 ∨ k = 2 ∨ k = 3 ∨ k = 4 ∨ (k ≠ 0 ∧ k ≠ 1 ∧ k ≠ 2 ∧ k ≠ 3 ∧ k ≠ 4) := by omega
  clear hk hd2
  rcases hkk with rfl | rfl | rfl | rfl | rfl | hkk
  · have a1 := take_lo d2 (m := 4) (by decide)
    have a2 := take_hi d2 (m := 4) (by decide)
    have e5 := fn_L_take_eq d2 4 (by decide) (by decide)
    obtain ⟨j, hj⟩ : ∃ j, j = (takeT d2 4).1 := ⟨_, rfl⟩
    rw [← hj] at a1 a2 e5
    clear hj
    have gl : gList (eTI gs) = some (.list (gs.map PyData.int)) := rfl
    have hjj : j = 0 ∨ j = 1 ∨ j = 2 ∨ j = 3 := by omega
    rcases hjj with rfl | rfl | rfl | rfl
    · have ix : gIxA (.list [.tuple [.list (gs.map PyData.int), .int sg], .list [eTI gs, .int sg], .tuple [eTI gs], .tuple [eTI gs, .int sg, .int 0]]) (.int 0) = some (.tuple [.list (gs.map PyData.int), .int sg]) := rfl
      have body : F_L_bad_comers [.io (eDk d), .sh (eSetup su), .em, .em, .em, .em, .em] = some (.rt (.sh (.tuple [.list (gs.map PyData.int), .int sg])) [.io (eDk (takeT d2 4).2), .sh (eSetup su), .sh (eTI gs), .sh (.int sg), .sh (.int 0), .em, .em]) := by
        unfold F_L_bad_comers
        refine sSeq_nx (ρ1 := [.io (eDk d1), .sh (eSetup su), .sh (eTI gs), .sh (.int sg), .em, .em, .em]) (by simp [F_L_bad_comers_s1, e1]) ?_
        refine sSeq_nx (ρ1 := [.io (eDk d2), .sh (eSetup su), .sh (eTI gs), .sh (.int sg), .sh (.int 0), .em, .em]) (by simp [F_L_bad_comers_s2, e3]) ?_
        exact sSeq_rt (by simp [F_L_bad_comers_s3, -gIx_lst, gl, e5, ix])
      exact ⟨(.tuple [.list (gs.map PyData.int), .int sg]), (takeT d2 4).2, by simp [fn_L_bad_comers, body], .inr (badc_in rfl)⟩
    · have ix : gIxA (.list [.tuple [.list (gs.map PyData.int), .int sg], .list [eTI gs, .int sg], .tuple [eTI gs], .tuple [eTI gs, .int sg, .int 0]]) (.int 1) = some (.list [eTI gs, .int sg]) := rfl
      have body : F_L_bad_comers [.io (eDk d), .sh (eSetup su), .em, .em, .em, .em, .em] = some (.rt (.sh (.list [eTI gs, .int sg])) [.io (eDk (takeT d2 4).2), .sh (eSetup su), .sh (eTI gs), .sh (.int sg), .sh (.int 0), .em, .em]) := by
        unfold F_L_bad_comers
        refine sSeq_nx (ρ1 := [.io (eDk d1), .sh (eSetup su), .sh (eTI gs), .sh (.int sg), .em, .em, .em]) (by simp [F_L_bad_comers_s1, e1]) ?_
        refine sSeq_nx (ρ1 := [.io (eDk d2), .sh (eSetup su), .sh (eTI gs), .sh (.int sg), .sh (.int 0), .em, .em]) (by simp [F_L_bad_comers_s2, e3]) ?_
        exact sSeq_rt (by simp [F_L_bad_comers_s3, -gIx_lst, gl, e5, ix])
      exact ⟨(.list [eTI gs, .int sg]), (takeT d2 4).2, by simp [fn_L_bad_comers, body], .inr (badc_nt rfl)⟩
    · have ix : gIxA (.list [.tuple [.list (gs.map PyData.int), .int sg], .list [eTI gs, .int sg], .tuple [eTI gs], .tuple [eTI gs, .int sg, .int 0]]) (.int 2) = some (.tuple [eTI gs]) := rfl
      have body : F_L_bad_comers [.io (eDk d), .sh (eSetup su), .em, .em, .em, .em, .em] = some (.rt (.sh (.tuple [eTI gs])) [.io (eDk (takeT d2 4).2), .sh (eSetup su), .sh (eTI gs), .sh (.int sg), .sh (.int 0), .em, .em]) := by
        unfold F_L_bad_comers
        refine sSeq_nx (ρ1 := [.io (eDk d1), .sh (eSetup su), .sh (eTI gs), .sh (.int sg), .em, .em, .em]) (by simp [F_L_bad_comers_s1, e1]) ?_
        refine sSeq_nx (ρ1 := [.io (eDk d2), .sh (eSetup su), .sh (eTI gs), .sh (.int sg), .sh (.int 0), .em, .em]) (by simp [F_L_bad_comers_s2, e3]) ?_
        exact sSeq_rt (by simp [F_L_bad_comers_s3, -gIx_lst, gl, e5, ix])
      exact ⟨(.tuple [eTI gs]), (takeT d2 4).2, by simp [fn_L_bad_comers, body], .inr (badc_len (show 1 ≠ 2 by decide))⟩
    · have ix : gIxA (.list [.tuple [.list (gs.map PyData.int), .int sg], .list [eTI gs, .int sg], .tuple [eTI gs], .tuple [eTI gs, .int sg, .int 0]]) (.int 3) = some (.tuple [eTI gs, .int sg, .int 0]) := rfl
      have body : F_L_bad_comers [.io (eDk d), .sh (eSetup su), .em, .em, .em, .em, .em] = some (.rt (.sh (.tuple [eTI gs, .int sg, .int 0])) [.io (eDk (takeT d2 4).2), .sh (eSetup su), .sh (eTI gs), .sh (.int sg), .sh (.int 0), .em, .em]) := by
        unfold F_L_bad_comers
        refine sSeq_nx (ρ1 := [.io (eDk d1), .sh (eSetup su), .sh (eTI gs), .sh (.int sg), .em, .em, .em]) (by simp [F_L_bad_comers_s1, e1]) ?_
        refine sSeq_nx (ρ1 := [.io (eDk d2), .sh (eSetup su), .sh (eTI gs), .sh (.int sg), .sh (.int 0), .em, .em]) (by simp [F_L_bad_comers_s2, e3]) ?_
        exact sSeq_rt (by simp [F_L_bad_comers_s3, -gIx_lst, gl, e5, ix])
      exact ⟨(.tuple [eTI gs, .int sg, .int 0]), (takeT d2 4).2, by simp [fn_L_bad_comers, body], .inr (badc_len (show 3 ≠ 2 by decide))⟩
  · have a1 := take_lo d2 (m := 6) (by decide)
    have a2 := take_hi d2 (m := 6) (by decide)
    have e5 := fn_L_take_eq d2 6 (by decide) (by decide)
    obtain ⟨j, hj⟩ : ∃ j, j = (takeT d2 6).1 := ⟨_, rfl⟩
    rw [← hj] at a1 a2 e5
    clear hj
    obtain ⟨y, ix, hy⟩ : ∃ y, gIxA (.list [.int (-1), .bool true, .none, .str "1", .int (su.comers.2 + 1), .tuple [.int 1]]) (.int j) = some y ∧ YD y := by
      have hjj : j = 0 ∨ j = 1 ∨ j = 2 ∨ j = 3 ∨ j = 4 ∨ j = 5 := by omega
      rcases hjj with rfl | rfl | rfl | rfl | rfl | rfl
      · exact ⟨_, rfl, .inl ⟨_, rfl⟩⟩
      · exact ⟨_, rfl, .inr (.inl rfl)⟩
      · exact ⟨_, rfl, .inr (.inr (.inl rfl))⟩
      · exact ⟨_, rfl, .inr (.inr (.inr (.inl rfl)))⟩
      · exact ⟨_, rfl, .inl ⟨_, rfl⟩⟩
      · exact ⟨_, rfl, .inr (.inr (.inr (.inr rfl)))⟩
    have body : F_L_bad_comers [.io (eDk d), .sh (eSetup su), .em, .em, .em, .em, .em] = some (.rt (.sh (.tuple [eTI gs, y])) [.io (eDk (takeT d2 6).2), .sh (eSetup su), .sh (eTI gs), .sh (.int sg), .sh (.int 1), .em, .em]) := by
      unfold F_L_bad_comers
      refine sSeq_nx (ρ1 := [.io (eDk d1), .sh (eSetup su), .sh (eTI gs), .sh (.int sg), .em, .em, .em]) (by simp [F_L_bad_comers_s1, e1]) ?_
      refine sSeq_nx (ρ1 := [.io (eDk d2), .sh (eSetup su), .sh (eTI gs), .sh (.int sg), .sh (.int 1), .em, .em]) (by simp [F_L_bad_comers_s2, e3]) ?_
      refine sSeq_nx (ρ1 := [.io (eDk d2), .sh (eSetup su), .sh (eTI gs), .sh (.int sg), .sh (.int 1), .em, .em]) (by simp [F_L_bad_comers_s3]) ?_
      exact sSeq_rt (by simp [F_L_bad_comers_s4, -gIx_lst, e5, ix])
    exact ⟨(.tuple [eTI gs, y]), (takeT d2 6).2, by simp [fn_L_bad_comers, body], cm_any hgi hy (by rw [List.length_map]; omega)⟩
  · have m1 := mul_oneJ z (1 + su.comers.1 - gs.length) (by omega) (by omega)
    obtain ⟨r, hr⟩ : ∃ r, r = List.replicate (1 + su.comers.1 - (gs.length : Int)).toNat z := ⟨_, rfl⟩
    have hrl : r.length ≤ 10 := by rw [hr, List.length_replicate]; omega
    rw [← hr] at m1
    have ad : gAdd (eTI gs) (.tuple (r.map PyData.int)) = some (.tuple (gs.map PyData.int ++ r.map PyData.int)) := addT _ _ (by rw [List.length_map, List.length_map]; omega)
    have hrd : ∀ d ∈ gs.map PyData.int ++ r.map PyData.int, SzD d := fun d hd => by
      rcases List.mem_append.mp hd with h | h
      · exact hgi d h
      · obtain ⟨x, _, rfl⟩ := List.mem_map.mp h
        exact .inl ⟨x, rfl⟩
    have body : F_L_bad_comers [.io (eDk d), .sh (eSetup su), .em, .em, .em, .em, .em] = some (.rt (.sh (.tuple [.tuple (gs.map PyData.int ++ r.map PyData.int), .int sg])) [.io (eDk d2), .sh (eSetup su), .sh (eTI gs), .sh (.int sg), .sh (.int 2), .em, .em]) := by
      unfold F_L_bad_comers
      refine sSeq_nx (ρ1 := [.io (eDk d1), .sh (eSetup su), .sh (eTI gs), .sh (.int sg), .em, .em, .em]) (by simp [F_L_bad_comers_s1, e1]) ?_
      refine sSeq_nx (ρ1 := [.io (eDk d2), .sh (eSetup su), .sh (eTI gs), .sh (.int sg), .sh (.int 2), .em, .em]) (by simp [F_L_bad_comers_s2, e3]) ?_
      refine sSeq_nx (ρ1 := [.io (eDk d2), .sh (eSetup su), .sh (eTI gs), .sh (.int sg), .sh (.int 2), .em, .em]) (by simp [F_L_bad_comers_s3]) ?_
      refine sSeq_nx (ρ1 := [.io (eDk d2), .sh (eSetup su), .sh (eTI gs), .sh (.int sg), .sh (.int 2), .em, .em]) (by simp [F_L_bad_comers_s4]) ?_
      exact sSeq_rt (by simp [F_L_bad_comers_s5, hz', hz, m1, ad])
    exact ⟨(.tuple [.tuple (gs.map PyData.int ++ r.map PyData.int), .int sg]), d2, by simp [fn_L_bad_comers, body], cm_any hrd (.inl ⟨_, rfl⟩) (by rw [List.length_append, List.length_map, List.length_map]; omega)⟩
  · obtain ⟨O1, d4, o1, o2⟩ := fn_L_odd_eq d2
    have body : F_L_bad_comers [.io (eDk d), .sh (eSetup su), .em, .em, .em, .em, .em] = some (.rt (.sh O1) [.io (eDk d4), .sh (eSetup su), .sh (eTI gs), .sh (.int sg), .sh (.int 3), .em, .em]) := by
      unfold F_L_bad_comers
      refine sSeq_nx (ρ1 := [.io (eDk d1), .sh (eSetup su), .sh (eTI gs), .sh (.int sg), .em, .em, .em]) (by simp [F_L_bad_comers_s1, e1]) ?_
      refine sSeq_nx (ρ1 := [.io (eDk d2), .sh (eSetup su), .sh (eTI gs), .sh (.int sg), .sh (.int 3), .em, .em]) (by simp [F_L_bad_comers_s2, e3]) ?_
      refine sSeq_nx (ρ1 := [.io (eDk d2), .sh (eSetup su), .sh (eTI gs), .sh (.int sg), .sh (.int 3), .em, .em]) (by simp [F_L_bad_comers_s3]) ?_
      refine sSeq_nx (ρ1 := [.io (eDk d2), .sh (eSetup su), .sh (eTI gs), .sh (.int sg), .sh (.int 3), .em, .em]) (by simp [F_L_bad_comers_s4]) ?_
      refine sSeq_nx (ρ1 := [.io (eDk d2), .sh (eSetup su), .sh (eTI gs), .sh (.int sg), .sh (.int 3), .em, .em]) (by simp [F_L_bad_comers_s5]) ?_
      exact sSeq_rt (by simp [F_L_bad_comers_s6, o1])
    exact ⟨O1, d4, by simp [fn_L_bad_comers, body], .inr (odd_badc o2)⟩
  · skip
    have body : F_L_bad_comers [.io (eDk d), .sh (eSetup su), .em, .em, .em, .em, .em] = some (.rt (.sh (.tuple [.int sg, eTI gs])) [.io (eDk d2), .sh (eSetup su), .sh (eTI gs), .sh (.int sg), .sh (.int 4), .em, .em]) := by
      unfold F_L_bad_comers
      refine sSeq_nx (ρ1 := [.io (eDk d1), .sh (eSetup su), .sh (eTI gs), .sh (.int sg), .em, .em, .em]) (by simp [F_L_bad_comers_s1, e1]) ?_
      refine sSeq_nx (ρ1 := [.io (eDk d2), .sh (eSetup su), .sh (eTI gs), .sh (.int sg), .sh (.int 4), .em, .em]) (by simp [F_L_bad_comers_s2, e3]) ?_
      refine sSeq_nx (ρ1 := [.io (eDk d2), .sh (eSetup su), .sh (eTI gs), .sh (.int sg), .sh (.int 4), .em, .em]) (by simp [F_L_bad_comers_s3]) ?_
      refine sSeq_nx (ρ1 := [.io (eDk d2), .sh (eSetup su), .sh (eTI gs), .sh (.int sg), .sh (.int 4), .em, .em]) (by simp [F_L_bad_comers_s4]) ?_
      refine sSeq_nx (ρ1 := [.io (eDk d2), .sh (eSetup su), .sh (eTI gs), .sh (.int sg), .sh (.int 4), .em, .em]) (by simp [F_L_bad_comers_s5]) ?_
      refine sSeq_nx (ρ1 := [.io (eDk d2), .sh (eSetup su), .sh (eTI gs), .sh (.int sg), .sh (.int 4), .em, .em]) (by simp [F_L_bad_comers_s6]) ?_
      exact sSeq_rt (by simp [F_L_bad_comers_s7, true_and])
    exact ⟨(.tuple [.int sg, eTI gs]), d2, by simp [fn_L_bad_comers, body], .inr (badc_in rfl)⟩
  · obtain ⟨n0, n1, n2, n3, n4⟩ := hkk
    have a1 := take_lo d2 (m := (gs.length : Int) + 1) (by omega)
    have a2 := take_hi d2 (m := (gs.length : Int) + 1) (by omega)
    have e5 := fn_L_take_eq d2 ((gs.length : Int) + 1) (by omega) (by omega)
    obtain ⟨n, hn⟩ := Int.eq_ofNat_of_zero_le a1
    obtain ⟨d3, hd3⟩ : ∃ d3, d3 = (takeT d2 ((gs.length : Int) + 1)).2 := ⟨_, rfl⟩
    rw [hn, ← hd3] at e5
    have b1 := take_lo d3 (m := 8) (by decide)
    have e6 := fn_L_take_eq d3 8 (by decide) (by decide)
    obtain ⟨w, hw⟩ : ∃ w, w = (takeT d3 8).1 := ⟨_, rfl⟩
    obtain ⟨d4, hd4⟩ : ∃ d4, d4 = (takeT d3 8).2 := ⟨_, rfl⟩
    rw [← hw, ← hd4] at e6
    have f1 := take_lo d4 (m := 5) (by decide)
    have f2 := take_hi d4 (m := 5) (by decide)
    have e7 := fn_L_take_eq d4 5 (by decide) (by decide)
    obtain ⟨j, hj⟩ : ∃ j, j = (takeT d4 5).1 := ⟨_, rfl⟩
    rw [← hj] at f1 f2 e7
    clear hj
    obtain ⟨y, ix, hy⟩ : ∃ y, gIxA (.list [.int w, .bool true, .str "1", .none, .int z]) (.int j) = some y ∧ SzD y := by
      have hjj : j = 0 ∨ j = 1 ∨ j = 2 ∨ j = 3 ∨ j = 4 := by omega
      rcases hjj with rfl | rfl | rfl | rfl | rfl
      · exact ⟨_, rfl, .inl ⟨_, rfl⟩⟩
      · exact ⟨_, rfl, .inr (.inl rfl)⟩
      · exact ⟨_, rfl, .inr (.inr (.inl rfl))⟩
      · exact ⟨_, rfl, .inr (.inr (.inr rfl))⟩
      · exact ⟨_, rfl, .inl ⟨_, rfl⟩⟩
    obtain ⟨P, u1, hP, hPl⟩ : ∃ P, gSl none (some (n : Int)) (eTI gs) = some (.tuple P) ∧ (∀ d ∈ P, SzD d) ∧ P.length ≤ 10 := ⟨(gs.take n).map PyData.int, upto_eTI gs n, fun d hd => by
      obtain ⟨x, _, rfl⟩ := List.mem_map.mp hd
      exact .inl ⟨x, rfl⟩, by rw [List.length_map, List.length_take]; omega⟩
    obtain ⟨Q, u2, hQ, hQl⟩ : ∃ Q, gSl (some ((n : Int) + 1)) none (eTI gs) = some (.tuple Q) ∧ (∀ d ∈ Q, SzD d) ∧ Q.length ≤ 10 := ⟨(gs.drop (n + 1)).map PyData.int, from_eTI gs (n + 1), fun d hd => by
      obtain ⟨x, _, rfl⟩ := List.mem_map.mp hd
      exact .inl ⟨x, rfl⟩, by rw [List.length_map, List.length_drop]; omega⟩
    have q1 : gAdd (.tuple P) (.tuple [y]) = some (.tuple (P ++ [y])) := addT _ _ (by rw [List.length_singleton]; omega)
    have q2 : gAdd (.tuple (P ++ [y])) (.tuple Q) = some (.tuple (P ++ [y] ++ Q)) := addT _ _ (by rw [List.length_append, List.length_singleton]; omega)
    have hs : ∀ d ∈ P ++ [y] ++ Q, SzD d := fun d hd => by
      rcases List.mem_append.mp hd with h | h
      · rcases List.mem_append.mp h with h | h
        · exact hP d h
        · rw [List.mem_singleton] at h
          subst h
          exact hy
      · exact hQ d h
    have body : F_L_bad_comers [.io (eDk d), .sh (eSetup su), .em, .em, .em, .em, .em] = some (.rt (.sh (.tuple [.tuple (P ++ [y] ++ Q), .int sg])) [.io (eDk (takeT d4 5).2), .sh (eSetup su), .sh (eTI gs), .sh (.int sg), .sh (.int k), .sh (.int n), .sh y]) := by
      unfold F_L_bad_comers
      refine sSeq_nx (ρ1 := [.io (eDk d1), .sh (eSetup su), .sh (eTI gs), .sh (.int sg), .em, .em, .em]) (by simp [F_L_bad_comers_s1, e1]) ?_
      refine sSeq_nx (ρ1 := [.io (eDk d2), .sh (eSetup su), .sh (eTI gs), .sh (.int sg), .sh (.int k), .em, .em]) (by simp [F_L_bad_comers_s2, e3]) ?_
      refine sSeq_nx (ρ1 := [.io (eDk d2), .sh (eSetup su), .sh (eTI gs), .sh (.int sg), .sh (.int k), .em, .em]) (by simp [F_L_bad_comers_s3, n0, n1, n2, n3, n4]) ?_
      refine sSeq_nx (ρ1 := [.io (eDk d2), .sh (eSetup su), .sh (eTI gs), .sh (.int sg), .sh (.int k), .em, .em]) (by simp [F_L_bad_comers_s4, n0, n1, n2, n3, n4]) ?_
      refine sSeq_nx (ρ1 := [.io (eDk d2), .sh (eSetup su), .sh (eTI gs), .sh (.int sg), .sh (.int k), .em, .em]) (by simp [F_L_bad_comers_s5, n0, n1, n2, n3, n4]) ?_
      refine sSeq_nx (ρ1 := [.io (eDk d2), .sh (eSetup su), .sh (eTI gs), .sh (.int sg), .sh (.int k), .em, .em]) (by simp [F_L_bad_comers_s6, n0, n1, n2, n3, n4]) ?_
      refine sSeq_nx (ρ1 := [.io (eDk d2), .sh (eSetup su), .sh (eTI gs), .sh (.int sg), .sh (.int k), .em, .em]) (by simp [F_L_bad_comers_s7, n0, n1, n2, n3, n4]) ?_
      refine sSeq_nx (ρ1 := [.io (eDk d3), .sh (eSetup su), .sh (eTI gs), .sh (.int sg), .sh (.int k), .sh (.int n), .em]) (by simp [F_L_bad_comers_s8, e5]) ?_
      refine sSeq_nx (ρ1 := [.io (eDk (takeT d4 5).2), .sh (eSetup su), .sh (eTI gs), .sh (.int sg), .sh (.int k), .sh (.int n), .sh y]) (by simp [F_L_bad_comers_s9, -gIx_lst, e6, e7, hz', hz, ix]) ?_
      simp [F_L_bad_comers_s10, u1, u2, q1, q2, -List.append_assoc]
    exact ⟨(.tuple [.tuple (P ++ [y] ++ Q), .int sg]), (takeT d4 5).2, by simp [fn_L_bad_comers, body], cm_any hs (.inl ⟨_, rfl⟩) (by rw [List.length_append, List.length_append, List.length_singleton]; omega)⟩
end
end Fc
set_option maxHeartbeats 1000000
set_option Elab.async false
set_option linter.all false
set_option maxRecDepth 100000
namespace Fc
open PySem L2
def repL (k : Nat) (row : List Com) : List Com := (List.replicate k row).flatten
theorem repL_succ (k : Nat) (row : List Com) : repL (k + 1) row = row ++ repL k row := by unfold repL; rw [List.replicate_succ, List.flatten_cons]
theorem repL_map : ∀ (k : Nat) (row : List Com), (List.replicate k (row.map eCom)).flatten = (repL k row).map eCom
  | 0, row => rfl
  | k + 1, row => by rw [repL_succ, List.map_append, List.replicate_succ, List.flatten_cons, repL_map k]
theorem repL_len : ∀ (k : Nat) (row : List Com), (repL k row).length = k * row.length
  | 0, row => by rw [Nat.zero_mul]; rfl
  | k + 1, row => by rw [repL_succ, List.length_append, repL_len k, Nat.succ_mul, Nat.add_comm]
theorem mul_rowJ (row : List Com) (k : Nat) (h1 : row.length ≤ 1000) (h2 : k ≤ 1000) : gMulA (eRow row) (.int k) = some (eRow (repL k row)) := by
  show (if repOk (row.map eCom).length (k : Int) = true then some (PyData.list (List.replicate (k : Int).toNat (row.map eCom)).flatten) else none) = _
  rw [if_pos (by rw [repOk_eq, List.length_map]; simp; omega), Int.toNat_natCast, repL_map]
  rfl
theorem add_rowJ (x y : List Com) (h : x.length + y.length ≤ 100000) : gAdd (eRow x) (eRow y) = some (eRow (x ++ y)) := by
  show gAdd (.list _) (.list _) = _
  rw [gAdd_lst, if_pos (by rw [List.length_map, List.length_map]; omega), ← List.map_append]
  rfl
theorem sl_fromJ (xs : List D) (n : Nat) : gSl (some (n : Int)) none (.list xs) = some (.list (xs.drop n)) := by
  show some (PyData.list (cutD xs (some (n : Int)) none)) = _
  rw [cut_fromJ]
theorem sl_uptoJ (xs : List D) (n : Nat) : gSl none (some (n : Int)) (.list xs) = some (.list (xs.take n)) := by
  show some (PyData.list (cutD xs none (some (n : Int)))) = _
  rw [cut_up]
theorem addLJ (a b : List D) (h : a.length + b.length ≤ 100000) : gAdd (.list a) (.list b) = some (.list (a ++ b)) := by
  rw [gAdd_lst, if_pos (by omega)]
theorem at_endJ {α : Type} (A : List α) (x : α) : atI (A ++ [x]) (-1) = some x := by
  unfold atI ixN
  rw [if_neg (by decide), List.length_append, List.length_singleton, if_pos (by omega), Option.bind_some]
  rw [show ((-1 : Int) + ((A.length + 1 : Nat) : Int)).toNat = A.length by omega, List.getElem?_append_right (Nat.le_refl _), Nat.sub_self]
  rfl
theorem range_appJ {α : Type} (g : Nat → α) (j : Nat) : (List.range (j + 1)).map g = (List.range j).map g ++ [g j] := by rw [List.range_succ, List.map_append]; rfl
section
variable {su : Setup} {rs : List Rw}
theorem repL_ok {row : List Com} (h : RowOk su row) : ∀ k, RowOk su (repL k row)
  | 0 => fun c hc => absurd hc List.not_mem_nil
  | k + 1 => fun c hc => by
    rw [repL_succ] at hc
    rcases List.mem_append.mp hc with hc | hc
    · exact h c hc
    · exact repL_ok h k c hc
theorem rows_cm (S : SuOk su) {row : List Com} (h : RowOk su row) : ∀ d ∈ row.map eCom, CmOk su d := fun d hd => by
  obtain ⟨c, hc, rfl⟩ := List.mem_map.mp hd
  exact cm_ok S (h c hc)
/-! ### nothing that is lost is below 0 -/
theorem left_nn : ∀ (n : Nat) (acc : List (Dk × Int)) (left : Int) (line : List Int) (singles mood : Int), 0 ≤ left → 0 ≤ (fillT rs n acc left line singles mood).left
  | 0, acc, left, line, singles, mood, h => h
  | n + 1, acc, left, line, singles, mood, h0 => by
    rw [fillT]
    cases h : fitting rs mood line singles left with
    | none => exact h0
    | some r =>
      obtain ⟨hm, hc⟩ := fitting_can h
      by_cases hg : r.deed = .go
      · simp only [hg, if_true]
        exact h0
      · obtain ⟨f1, f2, f3, f4⟩ := seated_facts hc hg h0
        simp only [hg, if_false]
        exact left_nn n _ _ _ _ _ f2
theorem loss_nn (S : SuOk su) : ∀ {row : List Com} {s : Sta}, StOk su s → RowOk su row → 0 ≤ lossR (runCh su rs s row)
  | [], s, _, _ => Int.le_refl _
  | c :: cs, s, hs, hr => by
    have ih := loss_nn S (row := cs) (beat_ok S hs (hr c List.mem_cons_self) (rs := rs)) fun d hd => hr d (List.mem_cons_of_mem _ hd)
    obtain ⟨_, a2, _⟩ := seat_ok S hs
    have h1 : 0 ≤ (beatT su rs s c).chair.lost := by
      show 0 ≤ if (flT su rs s c).line ≠ [] ∨ 0 < (flT su rs s c).singles then (flT su rs s c).left else 0
      split
      · exact left_nn _ _ _ _ _ _ (by omega)
      · exact Int.le_refl _
    have e : lossR (runCh su rs s (c :: cs)) = (beatT su rs s c).chair.lost + lossR (runCh su rs (beatT su rs s c).st cs) := rfl
    omega
/-! ### a row repeated till a state comes back -/
def stK (su : Setup) (rs : List Rw) (s0 : Sta) (row : List Com) : Nat → Sta
  | 0 => s0
  | j + 1 => runSt su rs (stK su rs s0 row j) row
theorem stK_run (s0 : Sta) (row : List Com) : ∀ (k j : Nat), runSt su rs (stK su rs s0 row j) (repL k row) = stK su rs s0 row (j + k)
  | 0, j => rfl
  | k + 1, j => by
    rw [repL_succ, runSt_app]
    have := stK_run s0 row k (j + 1)
    rw [show j + 1 + k = j + (k + 1) by omega] at this
    exact this
theorem run_few (S : SuOk su) (R : RuOk rs) : ∀ {row : List Com} {s : Sta}, RowOk su row → FewS su s → FewS su (runSt su rs s row)
  | [], s, _, h => h
  | c :: cs, s, hr, h => run_few S R (row := cs) (fun d hd => hr d (List.mem_cons_of_mem _ hd)) (few_beat S R h (hr c List.mem_cons_self))
theorem stK_few (S : SuOk su) (R : RuOk rs) {row : List Com} (hr : RowOk su row) {s0 : Sta} (h : FewS su s0) : ∀ j, FewS su (stK su rs s0 row j)
  | 0 => h
  | j + 1 => run_few S R hr (stK_few S R hr h j)
def stKL (su : Setup) (rs : List Rw) (s0 : Sta) (row : List Com) (j : Nat) : List Sta := (List.range (j + 1)).map (stK su rs s0 row)
theorem stKL_len (s0 : Sta) (row : List Com) (j : Nat) : (stKL su rs s0 row j).length = j + 1 := by unfold stKL; rw [List.length_map, List.length_range]
theorem stKL_at (s0 : Sta) (row : List Com) (j i : Nat) (h : i ≤ j) : atI ((stKL su rs s0 row j).map eSta) (i : Int) = some (eSta (stK su rs s0 row i)) := by
  refine atI_nat ?_
  unfold stKL
  rw [List.map_map, List.getElem?_map, List.getElem?_range (by omega)]
  rfl
theorem stKL_end (s0 : Sta) (row : List Com) (j : Nat) : atI ((stKL su rs s0 row j).map eSta) (-1) = some (eSta (stK su rs s0 row j)) := by
  unfold stKL
  rw [range_appJ, List.map_append]
  exact at_endJ _ _
def findK (su : Setup) (rs : List Rw) (s0 : Sta) (row : List Com) (j : Nat) (i : Nat) : Option Nat := if stK su rs s0 row i = stK su rs s0 row (j + 1) then some i else none
def ringD (x y : List Com) (j i : Nat) : D := .tuple [eRow (x ++ repL i y), eRow (repL (j + 1 - i) y)]
theorem forL_findE {α γ : Type} {G : GF} {F : SF} {dead : List Nat} (enc : α → D) (ρ : En) (res : γ → Rs) (out : γ → En) (f : α → Option γ) : ∀ xs : List α,
    (∀ x ∈ xs, (f x = none → forB G F dead (enc x) ρ = some (.nx ρ)) ∧ ∀ c, f x = some c → forB G F dead (enc x) ρ = some (.rt (res c) (out c))) →
    (xs.findSome? f = none → forL G F dead (xs.map enc) ρ = some (.nx ρ)) ∧ ∀ c, xs.findSome? f = some c → forL G F dead (xs.map enc) ρ = some (.rt (res c) (out c))
  | [], _ => ⟨fun _ => rfl, fun c e => by cases e⟩
  | x :: xs, h => by
    have h1 := h x List.mem_cons_self
    have ih := forL_findE enc ρ res out f xs fun y hy => h y (List.mem_cons_of_mem _ hy)
    rw [List.findSome?_cons]
    cases hf : f x with
    | none =>
      have h2 := h1.1 hf
      rw [List.map_cons, forL_B, h2]
      exact ih
    | some c =>
      have e := h1.2 c hf
      refine ⟨fun e' => (by cases e'), fun c' e' => ?_⟩
      cases e'
      rw [List.map_cons, forL_B, e]
      rfl
theorem tr_find (s0 : Sta) (x y : List Com) (hx : x.length ≤ 100) (hy : y.length ≤ 4) (j : Nat) (hj : j ≤ 400) (z : Int) (d : Int × Int) :
    ((List.range (j + 1)).findSome? (findK su rs s0 y j) = none → forL (gNm 8) F_L_true_ring_b1 [8] ((List.range (j + 1)).map fun i : Nat => PyData.int i) [.io (eDk d), .sh (eSetup su), .sh (eRule rs), .sh (eRow x), .sh (eRow y), .ow (.list ((stKL su rs s0 y j).map eSta)), .sh (.int z), .sh (eSta (stK su rs s0 y (j + 1))), .em] = some (.nx [.io (eDk d), .sh (eSetup su), .sh (eRule rs), .sh (eRow x), .sh (eRow y), .ow (.list ((stKL su rs s0 y j).map eSta)), .sh (.int z), .sh (eSta (stK su rs s0 y (j + 1))), .em])) ∧
    ∀ i, (List.range (j + 1)).findSome? (findK su rs s0 y j) = some i → forL (gNm 8) F_L_true_ring_b1 [8] ((List.range (j + 1)).map fun i : Nat => PyData.int i) [.io (eDk d), .sh (eSetup su), .sh (eRule rs), .sh (eRow x), .sh (eRow y), .ow (.list ((stKL su rs s0 y j).map eSta)), .sh (.int z), .sh (eSta (stK su rs s0 y (j + 1))), .em] = some (.rt (.sh (ringD x y j i)) [.io (eDk d), .sh (eSetup su), .sh (eRule rs), .sh (eRow x), .sh (eRow y), .ow (.list ((stKL su rs s0 y j).map eSta)), .sh (.int z), .sh (eSta (stK su rs s0 y (j + 1))), .sh (.int i)]) := by
  refine forL_findE (G := gNm 8) (F := F_L_true_ring_b1) (dead := [8]) (fun i : Nat => PyData.int i) _ (fun i => .sh (ringD x y j i)) (fun i => [.io (eDk d), .sh (eSetup su), .sh (eRule rs), .sh (eRow x), .sh (eRow y), .ow (.list ((stKL su rs s0 y j).map eSta)), .sh (.int z), .sh (eSta (stK su rs s0 y (j + 1))), .sh (.int i)]) (findK su rs s0 y j) (List.range (j + 1)) fun i hi => ?_
  have hi : i < j + 1 := List.mem_range.mp hi
  have e1 := stKL_at (su := su) (rs := rs) s0 y j i (by omega)
  have e3 := stKL_len (su := su) (rs := rs) s0 y j
  unfold findK
  refine ⟨fun h => ?_, fun c h => ?_⟩
  · have hne : ¬ stK su rs s0 y i = stK su rs s0 y (j + 1) := fun z => by rw [if_pos z] at h; cases h
    simp [F_L_true_ring_b1, e1, hne]
  · split at h
    · rename_i hq
      cases h
      have m1 := mul_rowJ y i (by omega) (by omega)
      have hil : (repL i y).length ≤ 4 * 400 := by
        rw [repL_len, Nat.mul_comm]
        exact Nat.mul_le_mul hy (by omega)
      have a1 := add_rowJ x (repL i y) (by omega)
      have m2 := mul_rowJ y (j + 1 - i) (by omega) (by omega)
      rw [show ((j + 1 - i : Nat) : Int) = (j : Int) + 1 - i by omega] at m2
      refine forB_rt (d := .int i) (ρ := [.io (eDk d), .sh (eSetup su), .sh (eRule rs), .sh (eRow x), .sh (eRow y), .ow (.list ((stKL su rs s0 y j).map eSta)), .sh (.int z), .sh (eSta (stK su rs s0 y (j + 1))), .em]) (ρ1 := [.io (eDk d), .sh (eSetup su), .sh (eRule rs), .sh (eRow x), .sh (eRow y), .ow (.list ((stKL su rs s0 y j).map eSta)), .sh (.int z), .sh (eSta (stK su rs s0 y (j + 1))), .sh (.int i)]) (by simp) ?_
      simp [F_L_true_ring_b1, e1, hq, m1, a1, m2, e3, ringD]
    · cases h
theorem tr_turn (S : SuOk su) (R : RuOk rs) {s0 : Sta} (h0 : FewS su s0) {x y : List Com} (hr : RowOk su y) (hx : x.length ≤ 100) (hy : y.length ≤ 4) (j : Nat) (hj : j ≤ 400) (z : Int) (d : Int × Int) :
    ((List.range (j + 1)).findSome? (findK su rs s0 y j) = none → forB (gNm 6) F_L_true_ring_b2 [6, 7, 8] (.int z) [.io (eDk d), .sh (eSetup su), .sh (eRule rs), .sh (eRow x), .sh (eRow y), .ow (.list ((stKL su rs s0 y j).map eSta)), .em, .em, .em] = some (.nx [.io (eDk d), .sh (eSetup su), .sh (eRule rs), .sh (eRow x), .sh (eRow y), .ow (.list ((stKL su rs s0 y (j + 1)).map eSta)), .em, .em, .em])) ∧
    ∀ i, (List.range (j + 1)).findSome? (findK su rs s0 y j) = some i → forB (gNm 6) F_L_true_ring_b2 [6, 7, 8] (.int z) [.io (eDk d), .sh (eSetup su), .sh (eRule rs), .sh (eRow x), .sh (eRow y), .ow (.list ((stKL su rs s0 y j).map eSta)), .em, .em, .em] = some (.rt (.sh (ringD x y j i)) [.io (eDk d), .sh (eSetup su), .sh (eRule rs), .sh (eRow x), .sh (eRow y), .ow (.list ((stKL su rs s0 y j).map eSta)), .sh (.int z), .sh (eSta (stK su rs s0 y (j + 1))), .sh (.int i)]) := by
  obtain ⟨f1, f2⟩ := tr_find (su := su) (rs := rs) s0 x y hx hy j hj z d
  have e0 := stKL_end (su := su) (rs := rs) s0 y j
  have e1 := fn_L_run_eq S R (stK_few S R hr h0 j).g.o hr (by omega)
  have e2 : runSt su rs (stK su rs s0 y j) y = stK su rs s0 y (j + 1) := rfl
  rw [e2] at e1
  have x1 : gIxA (.tuple [eChs (runCh su rs (stK su rs s0 y j) y), eSta (stK su rs s0 y (j + 1))]) (.int 1) = some (eSta (stK su rs s0 y (j + 1))) := rfl
  have n1 := stKL_len (su := su) (rs := rs) s0 y j
  have hrg : (rng0 ((j : Int) + 1)).map PyData.int = (List.range (j + 1)).map fun i : Nat => PyData.int i := by
    unfold rng0
    rw [List.map_map, show ((j : Int) + 1).toNat = j + 1 by omega]
    rfl
  have g1 : (stKL su rs s0 y (j + 1)).map eSta = (stKL su rs s0 y j).map eSta ++ [eSta (stK su rs s0 y (j + 1))] := by unfold stKL; rw [range_appJ _ (j + 1), List.map_append]; rfl
  refine ⟨fun h => ?_, fun i h => ?_⟩
  · refine forB_nx (ρ1 := [.io (eDk d), .sh (eSetup su), .sh (eRule rs), .sh (eRow x), .sh (eRow y), .ow (.list ((stKL su rs s0 y j).map eSta)), .sh (.int z), .em, .em]) (by simp) (ρ2 := [.io (eDk d), .sh (eSetup su), .sh (eRule rs), .sh (eRow x), .sh (eRow y), .ow (.list ((stKL su rs s0 y (j + 1)).map eSta)), .sh (.int z), .sh (eSta (stK su rs s0 y (j + 1))), .em]) ?_ (by simp)
    unfold F_L_true_ring_b2
    refine sSeq_nx (ρ1 := [.io (eDk d), .sh (eSetup su), .sh (eRule rs), .sh (eRow x), .sh (eRow y), .ow (.list ((stKL su rs s0 y j).map eSta)), .sh (.int z), .sh (eSta (stK su rs s0 y (j + 1))), .em]) (by simp [e0, e1, x1]) ?_
    refine sSeq_nx (ρ1 := [.io (eDk d), .sh (eSetup su), .sh (eRule rs), .sh (eRow x), .sh (eRow y), .ow (.list ((stKL su rs s0 y j).map eSta)), .sh (.int z), .sh (eSta (stK su rs s0 y (j + 1))), .em]) (by simp [n1, hrg, f1 h, show (j : Int) + 1 ≤ 1000000 ∧ -1000000 ≤ (j : Int) + 1 by omega]) ?_
    simp [g1, n1, show j + 1 < 1000000 by omega]
  · have f2 := f2 i h
    refine forB_rt (d := .int z) (ρ := [.io (eDk d), .sh (eSetup su), .sh (eRule rs), .sh (eRow x), .sh (eRow y), .ow (.list ((stKL su rs s0 y j).map eSta)), .em, .em, .em]) (ρ1 := [.io (eDk d), .sh (eSetup su), .sh (eRule rs), .sh (eRow x), .sh (eRow y), .ow (.list ((stKL su rs s0 y j).map eSta)), .sh (.int z), .em, .em]) (by simp) ?_
    unfold F_L_true_ring_b2
    refine sSeq_nx (ρ1 := [.io (eDk d), .sh (eSetup su), .sh (eRule rs), .sh (eRow x), .sh (eRow y), .ow (.list ((stKL su rs s0 y j).map eSta)), .sh (.int z), .sh (eSta (stK su rs s0 y (j + 1))), .em]) (by simp [e0, e1, x1]) ?_
    exact sSeq_rt (by simp [n1, hrg, f2, show (j : Int) + 1 ≤ 1000000 ∧ -1000000 ≤ (j : Int) + 1 by omega])
theorem findK_some {s0 : Sta} {y : List Com} {j i : Nat} (h : (List.range (j + 1)).findSome? (findK su rs s0 y j) = some i) : i ≤ j ∧ stK su rs s0 y i = stK su rs s0 y (j + 1) := by
  obtain ⟨k, hk, h⟩ := List.exists_of_findSome?_eq_some h
  have hk := List.mem_range.mp hk
  unfold findK at h
  split at h
  · rename_i hq
    cases h
    exact ⟨by omega, hq⟩
  · cases h
theorem findK_new {s0 : Sta} {y : List Com} {j : Nat} (hn : (stKL su rs s0 y j).Nodup) (h : (List.range (j + 1)).findSome? (findK su rs s0 y j) = none) : (stKL su rs s0 y (j + 1)).Nodup := by
  have e : stKL su rs s0 y (j + 1) = stKL su rs s0 y j ++ [stK su rs s0 y (j + 1)] := range_appJ _ (j + 1)
  rw [e, List.nodup_append]
  refine ⟨hn, List.nodup_cons.mpr ⟨List.not_mem_nil, List.nodup_nil⟩, fun a ha b hb => ?_⟩
  rw [List.mem_singleton] at hb
  subst hb
  obtain ⟨i, hi, rfl⟩ := List.mem_map.mp ha
  have := List.findSome?_eq_none_iff.mp h i hi
  unfold findK at this
  intro z
  rw [if_pos z] at this
  cases this
theorem tr_loop (S : SuOk su) (R : RuOk rs) (W : FewA su ∨ su.seats.length = 1 ∧ su.rooms.2 = 0) {s0 : Sta} (h0 : FewS su s0) {x y : List Com} (hr : RowOk su y) (hx : x.length ≤ 100) (hy : y.length ≤ 4) (d : Int × Int) : ∀ (L : List Int) (j : Nat), 199 ≤ L.length + (j + 1) → j + L.length ≤ 400 → (stKL su rs s0 y j).Nodup →
    ∃ (j' i : Nat) (z : Int), i ≤ j' ∧ j' + 1 ≤ 198 ∧ stK su rs s0 y i = stK su rs s0 y (j' + 1) ∧ forL (gNm 6) F_L_true_ring_b2 [6, 7, 8] (L.map PyData.int) [.io (eDk d), .sh (eSetup su), .sh (eRule rs), .sh (eRow x), .sh (eRow y), .ow (.list ((stKL su rs s0 y j).map eSta)), .em, .em, .em] = some (.rt (.sh (ringD x y j' i)) [.io (eDk d), .sh (eSetup su), .sh (eRule rs), .sh (eRow x), .sh (eRow y), .ow (.list ((stKL su rs s0 y j').map eSta)), .sh (.int z), .sh (eSta (stK su rs s0 y (j' + 1))), .sh (.int i)])
  | [], j, h1, _, hn => by
    have := few_len S W hn fun s hs => by
      obtain ⟨i, _, rfl⟩ := List.mem_map.mp hs
      exact stK_few S R hr h0 i
    rw [stKL_len] at this
    simp only [List.length_nil] at h1
    omega
  | z :: L, j, h1, h2, hn => by
    rw [List.length_cons] at h1 h2
    obtain ⟨t1, t2⟩ := tr_turn S R h0 hr hx hy j (by omega) z d
    cases hf : (List.range (j + 1)).findSome? (findK su rs s0 y j) with
    | some i =>
      have hl := few_len S W hn fun s hs => by
        obtain ⟨i, _, rfl⟩ := List.mem_map.mp hs
        exact stK_few S R hr h0 i
      rw [stKL_len] at hl
      obtain ⟨q1, q2⟩ := findK_some hf
      exact ⟨j, i, z, q1, hl, q2, by rw [List.map_cons, forL_B, t2 i hf]; rfl⟩
    | none =>
      obtain ⟨j', i, z', q1, q2, q3, q4⟩ := tr_loop S R W h0 hr hx hy d L (j + 1) (by omega) (by omega) (findK_new hn hf)
      exact ⟨j', i, z', q1, q2, q3, by rw [List.map_cons, forL_B, t1 hf]; exact q4⟩
/-- a ring as the law draws it -/
structure TrueR (su : Setup) (rs : List Rw) (x y : List Com) : Prop where
  hx : RowOk su x
  hy : RowOk su y
  lx : x.length ≤ 800
  ly : y.length ≤ 800
  n : y ≠ []
  b : runSt su rs (runSt su rs startT x) y = runSt su rs startT x
theorem fn_L_true_ring_eq (S : SuOk su) (R : RuOk rs) (W : FewA su ∨ su.seats.length = 1 ∧ su.rooms.2 = 0) (d : Int × Int) : ∃ x y d', fn_L_true_ring [eDk d, eSetup su, eRule rs] = some (.sh (.tuple [eRow x, eRow y]), [eDk d']) ∧ TrueR su rs x y := by
  have a1 := take_lo d (m := 5) (by decide)
  have a2 := take_hi d (m := 5) (by decide)
  have e1 := fn_L_take_eq d 5 (by decide) (by decide)
  obtain ⟨x, d1, e2, hx, hxl⟩ := fn_L_row_eq S (takeT d 5).2 (takeT d 5).1 (by omega)
  have b1 := take_lo d1 (m := 4) (by decide)
  have b2 := take_hi d1 (m := 4) (by decide)
  have e3 := fn_L_take_eq d1 4 (by decide) (by decide)
  obtain ⟨y, d2, e4, hy, hyl⟩ := fn_L_row_eq S (takeT d1 4).2 (1 + (takeT d1 4).1) (by omega)
  have h0 : FewS su (runSt su rs startT x) := run_few S R hx (few_start S)
  have e5 := fn_L_run_eq S R (gd_start S).o hx (by omega)
  have x1 : gIxA (.tuple [eChs (runCh su rs startT x), eSta (runSt su rs startT x)]) (.int 1) = some (eSta (runSt su rs startT x)) := rfl
  have z0 : PyData.tuple [.int 0, .tuple [], .int 0, .int 0] = eSta startT := rfl
  obtain ⟨j, i, z, q1, q2, q3, q4⟩ := tr_loop S R W h0 hy (x := x) (by omega) (by omega) d2 (rng0 400) 0 (by decide) (by decide) (List.nodup_cons.mpr ⟨List.not_mem_nil, List.nodup_nil⟩)
  have z1 : PyData.list [eSta (runSt su rs startT x)] = .list ((stKL su rs (runSt su rs startT x) y 0).map eSta) := rfl
  have k1 : runSt su rs (runSt su rs startT x) (repL i y) = stK su rs (runSt su rs startT x) y i := by
    have := stK_run (su := su) (rs := rs) (runSt su rs startT x) y i 0
    rw [Nat.zero_add] at this
    exact this
  have k2 : runSt su rs (stK su rs (runSt su rs startT x) y i) (repL (j + 1 - i) y) = stK su rs (runSt su rs startT x) y i := by
    rw [stK_run, show i + (j + 1 - i) = j + 1 by omega, q3]
  refine ⟨x ++ repL i y, repL (j + 1 - i) y, d2, ?_, ⟨fun c hc => ?_, repL_ok hy _, ?_, ?_, fun h => ?_, ?_⟩⟩
  · have body : F_L_true_ring [.io (eDk d), .sh (eSetup su), .sh (eRule rs), .em, .em, .em, .em, .em, .em] = some (.rt (.sh (ringD x y j i)) [.io (eDk d2), .sh (eSetup su), .sh (eRule rs), .sh (eRow x), .sh (eRow y), .ow (.list ((stKL su rs (runSt su rs startT x) y j).map eSta)), .sh (.int z), .sh (eSta (stK su rs (runSt su rs startT x) y (j + 1))), .sh (.int i)]) := by
      unfold F_L_true_ring
      refine sSeq_nx (ρ1 := [.io (eDk d1), .sh (eSetup su), .sh (eRule rs), .sh (eRow x), .em, .em, .em, .em, .em]) (by simp [e1, e2]) ?_
      refine sSeq_nx (ρ1 := [.io (eDk d2), .sh (eSetup su), .sh (eRule rs), .sh (eRow x), .sh (eRow y), .em, .em, .em, .em]) (by simp [e3, e4]) ?_
      refine sSeq_nx (ρ1 := [.io (eDk d2), .sh (eSetup su), .sh (eRule rs), .sh (eRow x), .sh (eRow y), .ow (.list ((stKL su rs (runSt su rs startT x) y 0).map eSta)), .em, .em, .em]) (by simp [z0, e5, x1, z1]) ?_
      exact sSeq_rt (by simp [q4])
    simp [fn_L_true_ring, body, ringD]
  · rcases List.mem_append.mp hc with h | h
    · exact hx c h
    · exact repL_ok hy i c h
  · rw [List.length_append, repL_len, Nat.mul_comm]
    have : y.length * i ≤ 4 * 197 := Nat.mul_le_mul (by omega) (by omega)
    omega
  · rw [repL_len, Nat.mul_comm]
    have : y.length * (j + 1 - i) ≤ 4 * 198 := Nat.mul_le_mul (by omega) (by omega)
    omega
  · have := repL_len (j + 1 - i) y
    rw [h] at this
    have h2 : 1 * 1 ≤ (j + 1 - i) * y.length := Nat.mul_le_mul (by omega) (by omega)
    simp only [List.length_nil] at this
    omega
  · rw [runSt_app, k1, k2]
end
end Fc
set_option maxHeartbeats 1000000
set_option Elab.async false
set_option linter.all false
set_option maxRecDepth 100000
namespace Fc
open PySem L2
section
variable {su : Setup} {rs : List Rw}
theorem ents_cat {a b : List D} (ha : ∀ d ∈ a, CmOk su d) (hb : ∀ d ∈ b, CmOk su d) : ∀ d ∈ a ++ b, CmOk su d := fun d hd => by
  rcases List.mem_append.mp hd with h | h
  · exact ha d h
  · exact hb d h
theorem ents_one {x : D} (h : CmOk su x) : ∀ d ∈ [x], CmOk su d := fun d hd => by
  rw [List.mem_singleton] at hd
  subst hd
  exact h
theorem fn_L_spoiled_ring_eq (S : SuOk su) {x y : List Com} (hx : RowOk su x) (hy : RowOk su y) (lx : x.length ≤ 800) (ly : y.length ≤ 800) (d : Int × Int) : ∃ W d', fn_L_spoiled_ring [eDk d, eSetup su, .tuple [eRow x, eRow y]] = some (.sh W, [eDk d']) ∧ ThingR su W := by
  have e2 := fn_L_take_eq d 8 (by decide) (by decide)
  have k1 := take_lo d (m := 8) (by decide)
  have k2 := take_hi d (m := 8) (by decide)
  obtain ⟨k, hk⟩ : ∃ k, k = (takeT d 8).1 := ⟨_, rfl⟩
  obtain ⟨d1, hd1⟩ : ∃ d1, d1 = (takeT d 8).2 := ⟨_, rfl⟩
  rw [← hk] at k1 k2
  rw [← hk, ← hd1] at e2
  have t1 := take_lo d1 (m := (y.length : Int) + 1) (by omega)
  have t2 := take_hi d1 (m := (y.length : Int) + 1) (by omega)
  have e3 := fn_L_take_eq d1 ((y.length : Int) + 1) (by omega) (by omega)
  obtain ⟨n, hn⟩ := Int.eq_ofNat_of_zero_le t1
  obtain ⟨d2, hd2⟩ : ∃ d2, d2 = (takeT d1 ((y.length : Int) + 1)).2 := ⟨_, rfl⟩
  rw [hn, ← hd2] at e3
  rw [hn] at t2
  obtain ⟨xs, hxs⟩ : ∃ xs, xs = x.map eCom := ⟨_, rfl⟩
  obtain ⟨ys, hys⟩ : ∃ ys, ys = y.map eCom := ⟨_, rfl⟩
  have hxl : xs.length ≤ 800 := by rw [hxs, List.length_map]; exact lx
  have hyl : ys.length ≤ 800 := by rw [hys, List.length_map]; exact ly
  have hye : ys.length = y.length := by rw [hys, List.length_map]
  have gx : ∀ d ∈ xs, CmOk su d := by rw [hxs]; exact rows_cm S hx
  have gy : ∀ d ∈ ys, CmOk su d := by rw [hys]; exact rows_cm S hy
  have hex : eRow x = .list xs := by rw [hxs]; rfl
  have hey : eRow y = .list ys := by rw [hys]; rfl
  rw [hex, hey]
  have e0 : gLenA (.list ys) = some (.int y.length) := by show some (PyData.int (ys.length : Nat)) = _; rw [hye]
  have u1 := sl_uptoJ ys n
  have u2 : gSl (some ((n : Int) + 1)) none (.list ys) = some (.list (ys.drop (n + 1))) := sl_fromJ ys (n + 1)
  have u3 := sl_fromJ ys n
  obtain ⟨A, hA⟩ : ∃ A, A = ys.take n := ⟨_, rfl⟩
  obtain ⟨B, hB⟩ : ∃ B, B = ys.drop (n + 1) := ⟨_, rfl⟩
  obtain ⟨C, hC⟩ : ∃ C, C = ys.drop n := ⟨_, rfl⟩
  rw [← hA] at u1
  rw [← hB] at u2
  rw [← hC] at u3
  have gA : ∀ d ∈ A, CmOk su d := fun d hd => gy d (by rw [hA] at hd; exact List.mem_of_mem_take hd)
  have gB : ∀ d ∈ B, CmOk su d := fun d hd => gy d (by rw [hB] at hd; exact List.mem_of_mem_drop hd)
  have gC : ∀ d ∈ C, CmOk su d := fun d hd => gy d (by rw [hC] at hd; exact List.mem_of_mem_drop hd)
  have lA : A.length ≤ 800 := by rw [hA, List.length_take]; omega
  have lB : B.length ≤ 800 := by rw [hB, List.length_drop]; omega
  have lC : C.length ≤ 800 := by rw [hC, List.length_drop]; omega
  have nil : ∀ d ∈ ([] : List D), CmOk su d := fun d hd => absurd hd List.not_mem_nil
  have hkk : k = 0 ∨ k = 1 ∨ k = 2 ∨ k = 3 ∨ k = 4 ∨ k = 5 ∨ k = 6 ∨ k = 7 := by omega
  clear hk hd1 hd2 hxs hys hex hey hA hB hC hn
  rcases hkk with rfl | rfl | rfl | rfl | rfl | rfl | rfl | rfl
  · obtain ⟨O1, d3, o1, o2⟩ := fn_L_odd_eq d2
    have a1 := take_lo d3 (m := 5) (by decide)
    have a2 := take_hi d3 (m := 5) (by decide)
    have e5 := fn_L_take_eq d3 5 (by decide) (by decide)
    obtain ⟨j, hj⟩ : ∃ j, j = (takeT d3 5).1 := ⟨_, rfl⟩
    rw [← hj] at a1 a2 e5
    clear hj
    have gl : gList (.tuple [.list xs, .list ys]) = some (.list [.list xs, .list ys]) := rfl
    have ad : gAdd (.list [.list [.list xs, .list ys], .tuple [.list xs], .tuple [.list ys, .list xs], .tuple [.list xs, .list ys, .list ys]]) (.list [O1]) = some (.list [.list [.list xs, .list ys], .tuple [.list xs], .tuple [.list ys, .list xs], .tuple [.list xs, .list ys, .list ys], O1]) := addLJ _ _ (show 4 + 1 ≤ 100000 by decide)
    have hjj : j = 0 ∨ j = 1 ∨ j = 2 ∨ j = 3 ∨ j = 4 := by omega
    rcases hjj with rfl | rfl | rfl | rfl | rfl
    · have ix : gIxA (.list [.list [.list xs, .list ys], .tuple [.list xs], .tuple [.list ys, .list xs], .tuple [.list xs, .list ys, .list ys], O1]) (.int 0) = some (.list [.list xs, .list ys]) := rfl
      have body : F_L_spoiled_ring [.io (eDk d), .sh (eSetup su), .sh (.tuple [.list xs, .list ys]), .em, .em, .em, .em, .em] = some (.rt (.sh (.list [.list xs, .list ys])) [.io (eDk (takeT d3 5).2), .sh (eSetup su), .sh (.tuple [.list xs, .list ys]), .sh (.list xs), .sh (.list ys), .sh (.int 0), .sh (.int n), .sh (.list [.list [.list xs, .list ys], .tuple [.list xs], .tuple [.list ys, .list xs], .tuple [.list xs, .list ys, .list ys]])]) := by
        unfold F_L_spoiled_ring
        refine sSeq_nx (ρ1 := [.io (eDk d), .sh (eSetup su), .sh (.tuple [.list xs, .list ys]), .sh (.list xs), .sh (.list ys), .em, .em, .em]) (by simp [F_L_spoiled_ring_s1]) ?_
        refine sSeq_nx (ρ1 := [.io (eDk d1), .sh (eSetup su), .sh (.tuple [.list xs, .list ys]), .sh (.list xs), .sh (.list ys), .sh (.int 0), .em, .em]) (by simp [F_L_spoiled_ring_s2, e2]) ?_
        refine sSeq_nx (ρ1 := [.io (eDk d2), .sh (eSetup su), .sh (.tuple [.list xs, .list ys]), .sh (.list xs), .sh (.list ys), .sh (.int 0), .sh (.int n), .em]) (by simp [F_L_spoiled_ring_s3, e0, e3]) ?_
        exact sSeq_rt (by simp [F_L_spoiled_ring_s4, -gAdd_lst, -gIx_lst, -List.append_assoc, o1, gl, ad, e5, ix])
      exact ⟨(.list [.list xs, .list ys]), (takeT d3 5).2, by simp [fn_L_spoiled_ring, body], .nt rfl⟩
    · have ix : gIxA (.list [.list [.list xs, .list ys], .tuple [.list xs], .tuple [.list ys, .list xs], .tuple [.list xs, .list ys, .list ys], O1]) (.int 1) = some (.tuple [.list xs]) := rfl
      have body : F_L_spoiled_ring [.io (eDk d), .sh (eSetup su), .sh (.tuple [.list xs, .list ys]), .em, .em, .em, .em, .em] = some (.rt (.sh (.tuple [.list xs])) [.io (eDk (takeT d3 5).2), .sh (eSetup su), .sh (.tuple [.list xs, .list ys]), .sh (.list xs), .sh (.list ys), .sh (.int 0), .sh (.int n), .sh (.list [.list [.list xs, .list ys], .tuple [.list xs], .tuple [.list ys, .list xs], .tuple [.list xs, .list ys, .list ys]])]) := by
        unfold F_L_spoiled_ring
        refine sSeq_nx (ρ1 := [.io (eDk d), .sh (eSetup su), .sh (.tuple [.list xs, .list ys]), .sh (.list xs), .sh (.list ys), .em, .em, .em]) (by simp [F_L_spoiled_ring_s1]) ?_
        refine sSeq_nx (ρ1 := [.io (eDk d1), .sh (eSetup su), .sh (.tuple [.list xs, .list ys]), .sh (.list xs), .sh (.list ys), .sh (.int 0), .em, .em]) (by simp [F_L_spoiled_ring_s2, e2]) ?_
        refine sSeq_nx (ρ1 := [.io (eDk d2), .sh (eSetup su), .sh (.tuple [.list xs, .list ys]), .sh (.list xs), .sh (.list ys), .sh (.int 0), .sh (.int n), .em]) (by simp [F_L_spoiled_ring_s3, e0, e3]) ?_
        exact sSeq_rt (by simp [F_L_spoiled_ring_s4, -gAdd_lst, -gIx_lst, -List.append_assoc, o1, gl, ad, e5, ix])
      exact ⟨(.tuple [.list xs]), (takeT d3 5).2, by simp [fn_L_spoiled_ring, body], .ln (show 1 ≠ 2 by decide)⟩
    · have ix : gIxA (.list [.list [.list xs, .list ys], .tuple [.list xs], .tuple [.list ys, .list xs], .tuple [.list xs, .list ys, .list ys], O1]) (.int 2) = some (.tuple [.list ys, .list xs]) := rfl
      have body : F_L_spoiled_ring [.io (eDk d), .sh (eSetup su), .sh (.tuple [.list xs, .list ys]), .em, .em, .em, .em, .em] = some (.rt (.sh (.tuple [.list ys, .list xs])) [.io (eDk (takeT d3 5).2), .sh (eSetup su), .sh (.tuple [.list xs, .list ys]), .sh (.list xs), .sh (.list ys), .sh (.int 0), .sh (.int n), .sh (.list [.list [.list xs, .list ys], .tuple [.list xs], .tuple [.list ys, .list xs], .tuple [.list xs, .list ys, .list ys]])]) := by
        unfold F_L_spoiled_ring
        refine sSeq_nx (ρ1 := [.io (eDk d), .sh (eSetup su), .sh (.tuple [.list xs, .list ys]), .sh (.list xs), .sh (.list ys), .em, .em, .em]) (by simp [F_L_spoiled_ring_s1]) ?_
        refine sSeq_nx (ρ1 := [.io (eDk d1), .sh (eSetup su), .sh (.tuple [.list xs, .list ys]), .sh (.list xs), .sh (.list ys), .sh (.int 0), .em, .em]) (by simp [F_L_spoiled_ring_s2, e2]) ?_
        refine sSeq_nx (ρ1 := [.io (eDk d2), .sh (eSetup su), .sh (.tuple [.list xs, .list ys]), .sh (.list xs), .sh (.list ys), .sh (.int 0), .sh (.int n), .em]) (by simp [F_L_spoiled_ring_s3, e0, e3]) ?_
        exact sSeq_rt (by simp [F_L_spoiled_ring_s4, -gAdd_lst, -gIx_lst, -List.append_assoc, o1, gl, ad, e5, ix])
      exact ⟨(.tuple [.list ys, .list xs]), (takeT d3 5).2, by simp [fn_L_spoiled_ring, body], .ok gy gx (by omega) (by omega)⟩
    · have ix : gIxA (.list [.list [.list xs, .list ys], .tuple [.list xs], .tuple [.list ys, .list xs], .tuple [.list xs, .list ys, .list ys], O1]) (.int 3) = some (.tuple [.list xs, .list ys, .list ys]) := rfl
      have body : F_L_spoiled_ring [.io (eDk d), .sh (eSetup su), .sh (.tuple [.list xs, .list ys]), .em, .em, .em, .em, .em] = some (.rt (.sh (.tuple [.list xs, .list ys, .list ys])) [.io (eDk (takeT d3 5).2), .sh (eSetup su), .sh (.tuple [.list xs, .list ys]), .sh (.list xs), .sh (.list ys), .sh (.int 0), .sh (.int n), .sh (.list [.list [.list xs, .list ys], .tuple [.list xs], .tuple [.list ys, .list xs], .tuple [.list xs, .list ys, .list ys]])]) := by
        unfold F_L_spoiled_ring
        refine sSeq_nx (ρ1 := [.io (eDk d), .sh (eSetup su), .sh (.tuple [.list xs, .list ys]), .sh (.list xs), .sh (.list ys), .em, .em, .em]) (by simp [F_L_spoiled_ring_s1]) ?_
        refine sSeq_nx (ρ1 := [.io (eDk d1), .sh (eSetup su), .sh (.tuple [.list xs, .list ys]), .sh (.list xs), .sh (.list ys), .sh (.int 0), .em, .em]) (by simp [F_L_spoiled_ring_s2, e2]) ?_
        refine sSeq_nx (ρ1 := [.io (eDk d2), .sh (eSetup su), .sh (.tuple [.list xs, .list ys]), .sh (.list xs), .sh (.list ys), .sh (.int 0), .sh (.int n), .em]) (by simp [F_L_spoiled_ring_s3, e0, e3]) ?_
        exact sSeq_rt (by simp [F_L_spoiled_ring_s4, -gAdd_lst, -gIx_lst, -List.append_assoc, o1, gl, ad, e5, ix])
      exact ⟨(.tuple [.list xs, .list ys, .list ys]), (takeT d3 5).2, by simp [fn_L_spoiled_ring, body], .ln (show 3 ≠ 2 by decide)⟩
    · have ix : gIxA (.list [.list [.list xs, .list ys], .tuple [.list xs], .tuple [.list ys, .list xs], .tuple [.list xs, .list ys, .list ys], O1]) (.int 4) = some O1 := rfl
      have body : F_L_spoiled_ring [.io (eDk d), .sh (eSetup su), .sh (.tuple [.list xs, .list ys]), .em, .em, .em, .em, .em] = some (.rt (.sh O1) [.io (eDk (takeT d3 5).2), .sh (eSetup su), .sh (.tuple [.list xs, .list ys]), .sh (.list xs), .sh (.list ys), .sh (.int 0), .sh (.int n), .sh (.list [.list [.list xs, .list ys], .tuple [.list xs], .tuple [.list ys, .list xs], .tuple [.list xs, .list ys, .list ys]])]) := by
        unfold F_L_spoiled_ring
        refine sSeq_nx (ρ1 := [.io (eDk d), .sh (eSetup su), .sh (.tuple [.list xs, .list ys]), .sh (.list xs), .sh (.list ys), .em, .em, .em]) (by simp [F_L_spoiled_ring_s1]) ?_
        refine sSeq_nx (ρ1 := [.io (eDk d1), .sh (eSetup su), .sh (.tuple [.list xs, .list ys]), .sh (.list xs), .sh (.list ys), .sh (.int 0), .em, .em]) (by simp [F_L_spoiled_ring_s2, e2]) ?_
        refine sSeq_nx (ρ1 := [.io (eDk d2), .sh (eSetup su), .sh (.tuple [.list xs, .list ys]), .sh (.list xs), .sh (.list ys), .sh (.int 0), .sh (.int n), .em]) (by simp [F_L_spoiled_ring_s3, e0, e3]) ?_
        exact sSeq_rt (by simp [F_L_spoiled_ring_s4, -gAdd_lst, -gIx_lst, -List.append_assoc, o1, gl, ad, e5, ix])
      exact ⟨O1, (takeT d3 5).2, by simp [fn_L_spoiled_ring, body], odd_ring o2⟩
  · have a1 := take_lo d2 (m := 4) (by decide)
    have a2 := take_hi d2 (m := 4) (by decide)
    have e5 := fn_L_take_eq d2 4 (by decide) (by decide)
    obtain ⟨j, hj⟩ : ∃ j, j = (takeT d2 4).1 := ⟨_, rfl⟩
    rw [← hj] at a1 a2 e5
    clear hj
    have g1 : gTuple (.list xs) = some (.tuple xs) := rfl
    have g2 : gTuple (.list ys) = some (.tuple ys) := rfl
    have ad : gAdd (.list [.tuple [.list xs, .list []], .tuple [.tuple xs, .list ys], .tuple [.none, .list ys]]) (.list [.tuple [.list xs, .tuple ys]]) = some (.list [.tuple [.list xs, .list []], .tuple [.tuple xs, .list ys], .tuple [.none, .list ys], .tuple [.list xs, .tuple ys]]) := addLJ _ _ (show 3 + 1 ≤ 100000 by decide)
    have hjj : j = 0 ∨ j = 1 ∨ j = 2 ∨ j = 3 := by omega
    rcases hjj with rfl | rfl | rfl | rfl
    · have ix : gIxA (.list [.tuple [.list xs, .list []], .tuple [.tuple xs, .list ys], .tuple [.none, .list ys], .tuple [.list xs, .tuple ys]]) (.int 0) = some (.tuple [.list xs, .list []]) := rfl
      have body : F_L_spoiled_ring [.io (eDk d), .sh (eSetup su), .sh (.tuple [.list xs, .list ys]), .em, .em, .em, .em, .em] = some (.rt (.sh (.tuple [.list xs, .list []])) [.io (eDk (takeT d2 4).2), .sh (eSetup su), .sh (.tuple [.list xs, .list ys]), .sh (.list xs), .sh (.list ys), .sh (.int 1), .sh (.int n), .sh (.list [.tuple [.list xs, .list []], .tuple [.tuple xs, .list ys], .tuple [.none, .list ys]])]) := by
        unfold F_L_spoiled_ring
        refine sSeq_nx (ρ1 := [.io (eDk d), .sh (eSetup su), .sh (.tuple [.list xs, .list ys]), .sh (.list xs), .sh (.list ys), .em, .em, .em]) (by simp [F_L_spoiled_ring_s1]) ?_
        refine sSeq_nx (ρ1 := [.io (eDk d1), .sh (eSetup su), .sh (.tuple [.list xs, .list ys]), .sh (.list xs), .sh (.list ys), .sh (.int 1), .em, .em]) (by simp [F_L_spoiled_ring_s2, e2]) ?_
        refine sSeq_nx (ρ1 := [.io (eDk d2), .sh (eSetup su), .sh (.tuple [.list xs, .list ys]), .sh (.list xs), .sh (.list ys), .sh (.int 1), .sh (.int n), .em]) (by simp [F_L_spoiled_ring_s3, e0, e3]) ?_
        refine sSeq_nx (ρ1 := [.io (eDk d2), .sh (eSetup su), .sh (.tuple [.list xs, .list ys]), .sh (.list xs), .sh (.list ys), .sh (.int 1), .sh (.int n), .em]) (by simp [F_L_spoiled_ring_s4]) ?_
        exact sSeq_rt (by simp [F_L_spoiled_ring_s5, -gAdd_lst, -gIx_lst, -List.append_assoc, g1, g2, ad, e5, ix])
      exact ⟨(.tuple [.list xs, .list []]), (takeT d2 4).2, by simp [fn_L_spoiled_ring, body], .ok gx nil (by omega) (by decide)⟩
    · have ix : gIxA (.list [.tuple [.list xs, .list []], .tuple [.tuple xs, .list ys], .tuple [.none, .list ys], .tuple [.list xs, .tuple ys]]) (.int 1) = some (.tuple [.tuple xs, .list ys]) := rfl
      have body : F_L_spoiled_ring [.io (eDk d), .sh (eSetup su), .sh (.tuple [.list xs, .list ys]), .em, .em, .em, .em, .em] = some (.rt (.sh (.tuple [.tuple xs, .list ys])) [.io (eDk (takeT d2 4).2), .sh (eSetup su), .sh (.tuple [.list xs, .list ys]), .sh (.list xs), .sh (.list ys), .sh (.int 1), .sh (.int n), .sh (.list [.tuple [.list xs, .list []], .tuple [.tuple xs, .list ys], .tuple [.none, .list ys]])]) := by
        unfold F_L_spoiled_ring
        refine sSeq_nx (ρ1 := [.io (eDk d), .sh (eSetup su), .sh (.tuple [.list xs, .list ys]), .sh (.list xs), .sh (.list ys), .em, .em, .em]) (by simp [F_L_spoiled_ring_s1]) ?_
        refine sSeq_nx (ρ1 := [.io (eDk d1), .sh (eSetup su), .sh (.tuple [.list xs, .list ys]), .sh (.list xs), .sh (.list ys), .sh (.int 1), .em, .em]) (by simp [F_L_spoiled_ring_s2, e2]) ?_
        refine sSeq_nx (ρ1 := [.io (eDk d2), .sh (eSetup su), .sh (.tuple [.list xs, .list ys]), .sh (.list xs), .sh (.list ys), .sh (.int 1), .sh (.int n), .em]) (by simp [F_L_spoiled_ring_s3, e0, e3]) ?_
        refine sSeq_nx (ρ1 := [.io (eDk d2), .sh (eSetup su), .sh (.tuple [.list xs, .list ys]), .sh (.list xs), .sh (.list ys), .sh (.int 1), .sh (.int n), .em]) (by simp [F_L_spoiled_ring_s4]) ?_
        exact sSeq_rt (by simp [F_L_spoiled_ring_s5, -gAdd_lst, -gIx_lst, -List.append_assoc, g1, g2, ad, e5, ix])
      exact ⟨(.tuple [.tuple xs, .list ys]), (takeT d2 4).2, by simp [fn_L_spoiled_ring, body], .l1 rfl⟩
    · have ix : gIxA (.list [.tuple [.list xs, .list []], .tuple [.tuple xs, .list ys], .tuple [.none, .list ys], .tuple [.list xs, .tuple ys]]) (.int 2) = some (.tuple [.none, .list ys]) := rfl
      have body : F_L_spoiled_ring [.io (eDk d), .sh (eSetup su), .sh (.tuple [.list xs, .list ys]), .em, .em, .em, .em, .em] = some (.rt (.sh (.tuple [.none, .list ys])) [.io (eDk (takeT d2 4).2), .sh (eSetup su), .sh (.tuple [.list xs, .list ys]), .sh (.list xs), .sh (.list ys), .sh (.int 1), .sh (.int n), .sh (.list [.tuple [.list xs, .list []], .tuple [.tuple xs, .list ys], .tuple [.none, .list ys]])]) := by
        unfold F_L_spoiled_ring
        refine sSeq_nx (ρ1 := [.io (eDk d), .sh (eSetup su), .sh (.tuple [.list xs, .list ys]), .sh (.list xs), .sh (.list ys), .em, .em, .em]) (by simp [F_L_spoiled_ring_s1]) ?_
        refine sSeq_nx (ρ1 := [.io (eDk d1), .sh (eSetup su), .sh (.tuple [.list xs, .list ys]), .sh (.list xs), .sh (.list ys), .sh (.int 1), .em, .em]) (by simp [F_L_spoiled_ring_s2, e2]) ?_
        refine sSeq_nx (ρ1 := [.io (eDk d2), .sh (eSetup su), .sh (.tuple [.list xs, .list ys]), .sh (.list xs), .sh (.list ys), .sh (.int 1), .sh (.int n), .em]) (by simp [F_L_spoiled_ring_s3, e0, e3]) ?_
        refine sSeq_nx (ρ1 := [.io (eDk d2), .sh (eSetup su), .sh (.tuple [.list xs, .list ys]), .sh (.list xs), .sh (.list ys), .sh (.int 1), .sh (.int n), .em]) (by simp [F_L_spoiled_ring_s4]) ?_
        exact sSeq_rt (by simp [F_L_spoiled_ring_s5, -gAdd_lst, -gIx_lst, -List.append_assoc, g1, g2, ad, e5, ix])
      exact ⟨(.tuple [.none, .list ys]), (takeT d2 4).2, by simp [fn_L_spoiled_ring, body], .l1 rfl⟩
    · have ix : gIxA (.list [.tuple [.list xs, .list []], .tuple [.tuple xs, .list ys], .tuple [.none, .list ys], .tuple [.list xs, .tuple ys]]) (.int 3) = some (.tuple [.list xs, .tuple ys]) := rfl
      have body : F_L_spoiled_ring [.io (eDk d), .sh (eSetup su), .sh (.tuple [.list xs, .list ys]), .em, .em, .em, .em, .em] = some (.rt (.sh (.tuple [.list xs, .tuple ys])) [.io (eDk (takeT d2 4).2), .sh (eSetup su), .sh (.tuple [.list xs, .list ys]), .sh (.list xs), .sh (.list ys), .sh (.int 1), .sh (.int n), .sh (.list [.tuple [.list xs, .list []], .tuple [.tuple xs, .list ys], .tuple [.none, .list ys]])]) := by
        unfold F_L_spoiled_ring
        refine sSeq_nx (ρ1 := [.io (eDk d), .sh (eSetup su), .sh (.tuple [.list xs, .list ys]), .sh (.list xs), .sh (.list ys), .em, .em, .em]) (by simp [F_L_spoiled_ring_s1]) ?_
        refine sSeq_nx (ρ1 := [.io (eDk d1), .sh (eSetup su), .sh (.tuple [.list xs, .list ys]), .sh (.list xs), .sh (.list ys), .sh (.int 1), .em, .em]) (by simp [F_L_spoiled_ring_s2, e2]) ?_
        refine sSeq_nx (ρ1 := [.io (eDk d2), .sh (eSetup su), .sh (.tuple [.list xs, .list ys]), .sh (.list xs), .sh (.list ys), .sh (.int 1), .sh (.int n), .em]) (by simp [F_L_spoiled_ring_s3, e0, e3]) ?_
        refine sSeq_nx (ρ1 := [.io (eDk d2), .sh (eSetup su), .sh (.tuple [.list xs, .list ys]), .sh (.list xs), .sh (.list ys), .sh (.int 1), .sh (.int n), .em]) (by simp [F_L_spoiled_ring_s4]) ?_
        exact sSeq_rt (by simp [F_L_spoiled_ring_s5, -gAdd_lst, -gIx_lst, -List.append_assoc, g1, g2, ad, e5, ix])
      exact ⟨(.tuple [.list xs, .tuple ys]), (takeT d2 4).2, by simp [fn_L_spoiled_ring, body], .l2 rfl⟩
  · have ad := addLJ A B (by omega)
    have body : F_L_spoiled_ring [.io (eDk d), .sh (eSetup su), .sh (.tuple [.list xs, .list ys]), .em, .em, .em, .em, .em] = some (.rt (.sh (.tuple [.list xs, .list (A ++ B)])) [.io (eDk d2), .sh (eSetup su), .sh (.tuple [.list xs, .list ys]), .sh (.list xs), .sh (.list ys), .sh (.int 2), .sh (.int n), .em]) := by
      unfold F_L_spoiled_ring
      refine sSeq_nx (ρ1 := [.io (eDk d), .sh (eSetup su), .sh (.tuple [.list xs, .list ys]), .sh (.list xs), .sh (.list ys), .em, .em, .em]) (by simp [F_L_spoiled_ring_s1]) ?_
      refine sSeq_nx (ρ1 := [.io (eDk d1), .sh (eSetup su), .sh (.tuple [.list xs, .list ys]), .sh (.list xs), .sh (.list ys), .sh (.int 2), .em, .em]) (by simp [F_L_spoiled_ring_s2, e2]) ?_
      refine sSeq_nx (ρ1 := [.io (eDk d2), .sh (eSetup su), .sh (.tuple [.list xs, .list ys]), .sh (.list xs), .sh (.list ys), .sh (.int 2), .sh (.int n), .em]) (by simp [F_L_spoiled_ring_s3, e0, e3]) ?_
      refine sSeq_nx (ρ1 := [.io (eDk d2), .sh (eSetup su), .sh (.tuple [.list xs, .list ys]), .sh (.list xs), .sh (.list ys), .sh (.int 2), .sh (.int n), .em]) (by simp [F_L_spoiled_ring_s4]) ?_
      refine sSeq_nx (ρ1 := [.io (eDk d2), .sh (eSetup su), .sh (.tuple [.list xs, .list ys]), .sh (.list xs), .sh (.list ys), .sh (.int 2), .sh (.int n), .em]) (by simp [F_L_spoiled_ring_s5]) ?_
      exact sSeq_rt (by simp [F_L_spoiled_ring_s6, -gAdd_lst, -gIx_lst, -List.append_assoc, u1, u2, ad])
    exact ⟨(.tuple [.list xs, .list (A ++ B)]), d2, by simp [fn_L_spoiled_ring, body], .ok gx (ents_cat gA gB) (by omega) (by rw [List.length_append]; omega)⟩
  · obtain ⟨Z, d3, ez, gz⟩ : ∃ Z d3, fn_L_comers [eDk d2, eSetup su] = some (.sh Z, [eDk d3]) ∧ CmOk su Z := (fn_L_comers_eq S d2).elim fun c h => h.elim fun d' h => ⟨eCom c, d', h.1, cm_ok S h.2⟩
    have a1 := addLJ A [Z] (by rw [List.length_singleton]; omega)
    have a2 := addLJ (A ++ [Z]) C (by rw [List.length_append, List.length_singleton]; omega)
    have body : F_L_spoiled_ring [.io (eDk d), .sh (eSetup su), .sh (.tuple [.list xs, .list ys]), .em, .em, .em, .em, .em] = some (.rt (.sh (.tuple [.list xs, .list (A ++ [Z] ++ C)])) [.io (eDk d3), .sh (eSetup su), .sh (.tuple [.list xs, .list ys]), .sh (.list xs), .sh (.list ys), .sh (.int 3), .sh (.int n), .em]) := by
      unfold F_L_spoiled_ring
      refine sSeq_nx (ρ1 := [.io (eDk d), .sh (eSetup su), .sh (.tuple [.list xs, .list ys]), .sh (.list xs), .sh (.list ys), .em, .em, .em]) (by simp [F_L_spoiled_ring_s1]) ?_
      refine sSeq_nx (ρ1 := [.io (eDk d1), .sh (eSetup su), .sh (.tuple [.list xs, .list ys]), .sh (.list xs), .sh (.list ys), .sh (.int 3), .em, .em]) (by simp [F_L_spoiled_ring_s2, e2]) ?_
      refine sSeq_nx (ρ1 := [.io (eDk d2), .sh (eSetup su), .sh (.tuple [.list xs, .list ys]), .sh (.list xs), .sh (.list ys), .sh (.int 3), .sh (.int n), .em]) (by simp [F_L_spoiled_ring_s3, e0, e3]) ?_
      refine sSeq_nx (ρ1 := [.io (eDk d2), .sh (eSetup su), .sh (.tuple [.list xs, .list ys]), .sh (.list xs), .sh (.list ys), .sh (.int 3), .sh (.int n), .em]) (by simp [F_L_spoiled_ring_s4]) ?_
      refine sSeq_nx (ρ1 := [.io (eDk d2), .sh (eSetup su), .sh (.tuple [.list xs, .list ys]), .sh (.list xs), .sh (.list ys), .sh (.int 3), .sh (.int n), .em]) (by simp [F_L_spoiled_ring_s5]) ?_
      refine sSeq_nx (ρ1 := [.io (eDk d2), .sh (eSetup su), .sh (.tuple [.list xs, .list ys]), .sh (.list xs), .sh (.list ys), .sh (.int 3), .sh (.int n), .em]) (by simp [F_L_spoiled_ring_s6]) ?_
      exact sSeq_rt (by simp [F_L_spoiled_ring_s7, -gAdd_lst, -gIx_lst, -List.append_assoc, ez, u1, u2, u3, a1, a2])
    exact ⟨(.tuple [.list xs, .list (A ++ [Z] ++ C)]), d3, by simp [fn_L_spoiled_ring, body], .ok gx (ents_cat (ents_cat gA (ents_one gz)) gC) (by omega) (by rw [List.length_append, List.length_append, List.length_singleton]; omega)⟩
  · obtain ⟨Z, d3, ez, gz⟩ := fn_L_bad_comers_eq S d2
    have a1 := addLJ A [Z] (by rw [List.length_singleton]; omega)
    have a2 := addLJ (A ++ [Z]) B (by rw [List.length_append, List.length_singleton]; omega)
    have body : F_L_spoiled_ring [.io (eDk d), .sh (eSetup su), .sh (.tuple [.list xs, .list ys]), .em, .em, .em, .em, .em] = some (.rt (.sh (.tuple [.list xs, .list (A ++ [Z] ++ B)])) [.io (eDk d3), .sh (eSetup su), .sh (.tuple [.list xs, .list ys]), .sh (.list xs), .sh (.list ys), .sh (.int 4), .sh (.int n), .em]) := by
      unfold F_L_spoiled_ring
      refine sSeq_nx (ρ1 := [.io (eDk d), .sh (eSetup su), .sh (.tuple [.list xs, .list ys]), .sh (.list xs), .sh (.list ys), .em, .em, .em]) (by simp [F_L_spoiled_ring_s1]) ?_
      refine sSeq_nx (ρ1 := [.io (eDk d1), .sh (eSetup su), .sh (.tuple [.list xs, .list ys]), .sh (.list xs), .sh (.list ys), .sh (.int 4), .em, .em]) (by simp [F_L_spoiled_ring_s2, e2]) ?_
      refine sSeq_nx (ρ1 := [.io (eDk d2), .sh (eSetup su), .sh (.tuple [.list xs, .list ys]), .sh (.list xs), .sh (.list ys), .sh (.int 4), .sh (.int n), .em]) (by simp [F_L_spoiled_ring_s3, e0, e3]) ?_
      refine sSeq_nx (ρ1 := [.io (eDk d2), .sh (eSetup su), .sh (.tuple [.list xs, .list ys]), .sh (.list xs), .sh (.list ys), .sh (.int 4), .sh (.int n), .em]) (by simp [F_L_spoiled_ring_s4]) ?_
      refine sSeq_nx (ρ1 := [.io (eDk d2), .sh (eSetup su), .sh (.tuple [.list xs, .list ys]), .sh (.list xs), .sh (.list ys), .sh (.int 4), .sh (.int n), .em]) (by simp [F_L_spoiled_ring_s5]) ?_
      refine sSeq_nx (ρ1 := [.io (eDk d2), .sh (eSetup su), .sh (.tuple [.list xs, .list ys]), .sh (.list xs), .sh (.list ys), .sh (.int 4), .sh (.int n), .em]) (by simp [F_L_spoiled_ring_s6]) ?_
      refine sSeq_nx (ρ1 := [.io (eDk d2), .sh (eSetup su), .sh (.tuple [.list xs, .list ys]), .sh (.list xs), .sh (.list ys), .sh (.int 4), .sh (.int n), .em]) (by simp [F_L_spoiled_ring_s7]) ?_
      exact sSeq_rt (by simp [F_L_spoiled_ring_s8, -gAdd_lst, -gIx_lst, -List.append_assoc, ez, u1, u2, u3, a1, a2])
    exact ⟨(.tuple [.list xs, .list (A ++ [Z] ++ B)]), d3, by simp [fn_L_spoiled_ring, body], .ok gx (ents_cat (ents_cat gA (ents_one gz)) gB) (by omega) (by rw [List.length_append, List.length_append, List.length_singleton]; omega)⟩
  · obtain ⟨Z, d3, ez, gz⟩ : ∃ Z d3, fn_L_comers [eDk d2, eSetup su] = some (.sh Z, [eDk d3]) ∧ CmOk su Z := (fn_L_comers_eq S d2).elim fun c h => h.elim fun d' h => ⟨eCom c, d', h.1, cm_ok S h.2⟩
    have a1 := addLJ xs [Z] (by rw [List.length_singleton]; omega)
    have body : F_L_spoiled_ring [.io (eDk d), .sh (eSetup su), .sh (.tuple [.list xs, .list ys]), .em, .em, .em, .em, .em] = some (.rt (.sh (.tuple [.list (xs ++ [Z]), .list ys])) [.io (eDk d3), .sh (eSetup su), .sh (.tuple [.list xs, .list ys]), .sh (.list xs), .sh (.list ys), .sh (.int 5), .sh (.int n), .em]) := by
      unfold F_L_spoiled_ring
      refine sSeq_nx (ρ1 := [.io (eDk d), .sh (eSetup su), .sh (.tuple [.list xs, .list ys]), .sh (.list xs), .sh (.list ys), .em, .em, .em]) (by simp [F_L_spoiled_ring_s1]) ?_
      refine sSeq_nx (ρ1 := [.io (eDk d1), .sh (eSetup su), .sh (.tuple [.list xs, .list ys]), .sh (.list xs), .sh (.list ys), .sh (.int 5), .em, .em]) (by simp [F_L_spoiled_ring_s2, e2]) ?_
      refine sSeq_nx (ρ1 := [.io (eDk d2), .sh (eSetup su), .sh (.tuple [.list xs, .list ys]), .sh (.list xs), .sh (.list ys), .sh (.int 5), .sh (.int n), .em]) (by simp [F_L_spoiled_ring_s3, e0, e3]) ?_
      refine sSeq_nx (ρ1 := [.io (eDk d2), .sh (eSetup su), .sh (.tuple [.list xs, .list ys]), .sh (.list xs), .sh (.list ys), .sh (.int 5), .sh (.int n), .em]) (by simp [F_L_spoiled_ring_s4]) ?_
      refine sSeq_nx (ρ1 := [.io (eDk d2), .sh (eSetup su), .sh (.tuple [.list xs, .list ys]), .sh (.list xs), .sh (.list ys), .sh (.int 5), .sh (.int n), .em]) (by simp [F_L_spoiled_ring_s5]) ?_
      refine sSeq_nx (ρ1 := [.io (eDk d2), .sh (eSetup su), .sh (.tuple [.list xs, .list ys]), .sh (.list xs), .sh (.list ys), .sh (.int 5), .sh (.int n), .em]) (by simp [F_L_spoiled_ring_s6]) ?_
      refine sSeq_nx (ρ1 := [.io (eDk d2), .sh (eSetup su), .sh (.tuple [.list xs, .list ys]), .sh (.list xs), .sh (.list ys), .sh (.int 5), .sh (.int n), .em]) (by simp [F_L_spoiled_ring_s7]) ?_
      refine sSeq_nx (ρ1 := [.io (eDk d2), .sh (eSetup su), .sh (.tuple [.list xs, .list ys]), .sh (.list xs), .sh (.list ys), .sh (.int 5), .sh (.int n), .em]) (by simp [F_L_spoiled_ring_s8]) ?_
      exact sSeq_rt (by simp [F_L_spoiled_ring_s9, -gAdd_lst, -gIx_lst, -List.append_assoc, ez, a1])
    exact ⟨(.tuple [.list (xs ++ [Z]), .list ys]), d3, by simp [fn_L_spoiled_ring, body], .ok (ents_cat gx (ents_one gz)) gy (by rw [List.length_append, List.length_singleton]; omega) (by omega)⟩
  · obtain ⟨Z, d3, ez, gz⟩ := fn_L_bad_comers_eq S d2
    have a1 := addLJ xs [Z] (by rw [List.length_singleton]; omega)
    have body : F_L_spoiled_ring [.io (eDk d), .sh (eSetup su), .sh (.tuple [.list xs, .list ys]), .em, .em, .em, .em, .em] = some (.rt (.sh (.tuple [.list (xs ++ [Z]), .list ys])) [.io (eDk d3), .sh (eSetup su), .sh (.tuple [.list xs, .list ys]), .sh (.list xs), .sh (.list ys), .sh (.int 6), .sh (.int n), .em]) := by
      unfold F_L_spoiled_ring
      refine sSeq_nx (ρ1 := [.io (eDk d), .sh (eSetup su), .sh (.tuple [.list xs, .list ys]), .sh (.list xs), .sh (.list ys), .em, .em, .em]) (by simp [F_L_spoiled_ring_s1]) ?_
      refine sSeq_nx (ρ1 := [.io (eDk d1), .sh (eSetup su), .sh (.tuple [.list xs, .list ys]), .sh (.list xs), .sh (.list ys), .sh (.int 6), .em, .em]) (by simp [F_L_spoiled_ring_s2, e2]) ?_
      refine sSeq_nx (ρ1 := [.io (eDk d2), .sh (eSetup su), .sh (.tuple [.list xs, .list ys]), .sh (.list xs), .sh (.list ys), .sh (.int 6), .sh (.int n), .em]) (by simp [F_L_spoiled_ring_s3, e0, e3]) ?_
      refine sSeq_nx (ρ1 := [.io (eDk d2), .sh (eSetup su), .sh (.tuple [.list xs, .list ys]), .sh (.list xs), .sh (.list ys), .sh (.int 6), .sh (.int n), .em]) (by simp [F_L_spoiled_ring_s4]) ?_
      refine sSeq_nx (ρ1 := [.io (eDk d2), .sh (eSetup su), .sh (.tuple [.list xs, .list ys]), .sh (.list xs), .sh (.list ys), .sh (.int 6), .sh (.int n), .em]) (by simp [F_L_spoiled_ring_s5]) ?_
      refine sSeq_nx (ρ1 := [.io (eDk d2), .sh (eSetup su), .sh (.tuple [.list xs, .list ys]), .sh (.list xs), .sh (.list ys), .sh (.int 6), .sh (.int n), .em]) (by simp [F_L_spoiled_ring_s6]) ?_
      refine sSeq_nx (ρ1 := [.io (eDk d2), .sh (eSetup su), .sh (.tuple [.list xs, .list ys]), .sh (.list xs), .sh (.list ys), .sh (.int 6), .sh (.int n), .em]) (by simp [F_L_spoiled_ring_s7]) ?_
      refine sSeq_nx (ρ1 := [.io (eDk d2), .sh (eSetup su), .sh (.tuple [.list xs, .list ys]), .sh (.list xs), .sh (.list ys), .sh (.int 6), .sh (.int n), .em]) (by simp [F_L_spoiled_ring_s8]) ?_
      refine sSeq_nx (ρ1 := [.io (eDk d2), .sh (eSetup su), .sh (.tuple [.list xs, .list ys]), .sh (.list xs), .sh (.list ys), .sh (.int 6), .sh (.int n), .em]) (by simp [F_L_spoiled_ring_s9]) ?_
      exact sSeq_rt (by simp [F_L_spoiled_ring_s10, -gAdd_lst, -gIx_lst, -List.append_assoc, ez, a1])
    exact ⟨(.tuple [.list (xs ++ [Z]), .list ys]), d3, by simp [fn_L_spoiled_ring, body], .ok (ents_cat gx (ents_one gz)) gy (by rw [List.length_append, List.length_singleton]; omega) (by omega)⟩
  · have a1 := addLJ ys ys (by omega)
    have body : F_L_spoiled_ring [.io (eDk d), .sh (eSetup su), .sh (.tuple [.list xs, .list ys]), .em, .em, .em, .em, .em] = some (.rt (.sh (.tuple [.list xs, .list (ys ++ ys)])) [.io (eDk d2), .sh (eSetup su), .sh (.tuple [.list xs, .list ys]), .sh (.list xs), .sh (.list ys), .sh (.int 7), .sh (.int n), .em]) := by
      unfold F_L_spoiled_ring
      refine sSeq_nx (ρ1 := [.io (eDk d), .sh (eSetup su), .sh (.tuple [.list xs, .list ys]), .sh (.list xs), .sh (.list ys), .em, .em, .em]) (by simp [F_L_spoiled_ring_s1]) ?_
      refine sSeq_nx (ρ1 := [.io (eDk d1), .sh (eSetup su), .sh (.tuple [.list xs, .list ys]), .sh (.list xs), .sh (.list ys), .sh (.int 7), .em, .em]) (by simp [F_L_spoiled_ring_s2, e2]) ?_
      refine sSeq_nx (ρ1 := [.io (eDk d2), .sh (eSetup su), .sh (.tuple [.list xs, .list ys]), .sh (.list xs), .sh (.list ys), .sh (.int 7), .sh (.int n), .em]) (by simp [F_L_spoiled_ring_s3, e0, e3]) ?_
      refine sSeq_nx (ρ1 := [.io (eDk d2), .sh (eSetup su), .sh (.tuple [.list xs, .list ys]), .sh (.list xs), .sh (.list ys), .sh (.int 7), .sh (.int n), .em]) (by simp [F_L_spoiled_ring_s4]) ?_
      refine sSeq_nx (ρ1 := [.io (eDk d2), .sh (eSetup su), .sh (.tuple [.list xs, .list ys]), .sh (.list xs), .sh (.list ys), .sh (.int 7), .sh (.int n), .em]) (by simp [F_L_spoiled_ring_s5]) ?_
      refine sSeq_nx (ρ1 := [.io (eDk d2), .sh (eSetup su), .sh (.tuple [.list xs, .list ys]), .sh (.list xs), .sh (.list ys), .sh (.int 7), .sh (.int n), .em]) (by simp [F_L_spoiled_ring_s6]) ?_
      refine sSeq_nx (ρ1 := [.io (eDk d2), .sh (eSetup su), .sh (.tuple [.list xs, .list ys]), .sh (.list xs), .sh (.list ys), .sh (.int 7), .sh (.int n), .em]) (by simp [F_L_spoiled_ring_s7]) ?_
      refine sSeq_nx (ρ1 := [.io (eDk d2), .sh (eSetup su), .sh (.tuple [.list xs, .list ys]), .sh (.list xs), .sh (.list ys), .sh (.int 7), .sh (.int n), .em]) (by simp [F_L_spoiled_ring_s8]) ?_
      refine sSeq_nx (ρ1 := [.io (eDk d2), .sh (eSetup su), .sh (.tuple [.list xs, .list ys]), .sh (.list xs), .sh (.list ys), .sh (.int 7), .sh (.int n), .em]) (by simp [F_L_spoiled_ring_s9]) ?_
      refine sSeq_nx (ρ1 := [.io (eDk d2), .sh (eSetup su), .sh (.tuple [.list xs, .list ys]), .sh (.list xs), .sh (.list ys), .sh (.int 7), .sh (.int n), .em]) (by simp [F_L_spoiled_ring_s10]) ?_
      exact by simp [F_L_spoiled_ring_s11, -gAdd_lst, -gIx_lst, -List.append_assoc, a1]
    exact ⟨(.tuple [.list xs, .list (ys ++ ys)]), d2, by simp [fn_L_spoiled_ring, body], .ok gx (ents_cat gy gy) (by omega) (by rw [List.length_append]; omega)⟩
/-! ### rings of more than three hundred beats -/
theorem same_eq (r : Bool) : fn_L_same [.bool r, .bool r] = some (.sh (.bool true), []) := by
  have h1 : gIsi "bool" (.bool r) = some (.bool true) := rfl
  have h2 : gEq (.bool r) (.bool r) = some (.bool true) := by cases r <;> rfl
  simp [fn_L_same, F_L_same, h1, h2, -gEq_ap]
theorem bq (x y : Int) : PyData.eqv (.int x) (.int y) = decide (x = y) := eqv_i x y
theorem lr_body (S : SuOk su) (R : RuOk rs) {a b : Int} (ha : 0 ≤ a) (hb : 1 ≤ b) (hb2 : b ≤ 1000000) (x y : List Com) (m : Int) (V : D) (d : Int × Int) {W : D} (hW : ThingR su W) : forB (gNm 10) F_L_long_right_b1 [10, 11, 12] W [.io (eDk d), .sh (eSetup su), .sh (eRule rs), .sh (.tuple [eRow x, eRow y]), .sh (.int a), .sh (.int b), .sh (eRow x), .sh (eRow y), .sh (.int m), .sh V, .em, .em, .em] = some (.nx [.io (eDk d), .sh (eSetup su), .sh (eRule rs), .sh (.tuple [eRow x, eRow y]), .sh (.int a), .sh (.int b), .sh (eRow x), .sh (eRow y), .sh (.int m), .sh V, .em, .em, .em]) := by
  obtain ⟨r, hl, hr, hp⟩ := ring_judged S R hW
  have hp := hp a b ha hb hb2
  have hs := same_eq (dueT a b r)
  refine forB_nx (ρ1 := [.io (eDk d), .sh (eSetup su), .sh (eRule rs), .sh (.tuple [eRow x, eRow y]), .sh (.int a), .sh (.int b), .sh (eRow x), .sh (eRow y), .sh (.int m), .sh V, .sh W, .em, .em]) (by simp) (ρ2 := [.io (eDk d), .sh (eSetup su), .sh (eRule rs), .sh (.tuple [eRow x, eRow y]), .sh (.int a), .sh (.int b), .sh (eRow x), .sh (eRow y), .sh (.int m), .sh V, .sh W, .sh (eRg r), .sh (.bool (dueT a b r))]) ?_ (by simp)
  unfold F_L_long_right_b1
  refine sSeq_nx (ρ1 := [.io (eDk d), .sh (eSetup su), .sh (eRule rs), .sh (.tuple [eRow x, eRow y]), .sh (.int a), .sh (.int b), .sh (eRow x), .sh (eRow y), .sh (.int m), .sh V, .sh W, .sh (eRg r), .em]) (by simp [hl]) ?_
  refine sSeq_nx (ρ1 := [.io (eDk d), .sh (eSetup su), .sh (eRule rs), .sh (.tuple [eRow x, eRow y]), .sh (.int a), .sh (.int b), .sh (eRow x), .sh (eRow y), .sh (.int m), .sh V, .sh W, .sh (eRg r), .sh (.bool (dueT a b r))]) ?_ (by simp [hp, hs])
  cases r with
  | none => simp [eRg, dueT]
  | some p =>
    have hp2 := hr p rfl
    have i0 : gIxA (eP p) (.int 0) = some (.int p.1) := rfl
    have i1 : gIxA (eP p) (.int 1) = some (.int p.2) := rfl
    have nn : isNoneD (eP p) = false := rfl
    have g1 : -18446744073709551616 < b ∧ b < 18446744073709551616 := by omega
    have g2 : -18446744073709551616 < p.2 ∧ p.2 < 18446744073709551616 := by omega
    by_cases hz : p.1 * b = a * p.2 <;> simp [eRg, dueT, i0, i1, nn, g1, g2, hz]
theorem fn_L_long_right_eq (S : SuOk su) (R : RuOk rs) {a b : Int} (ha : 0 ≤ a) (hb : 1 ≤ b) (hb2 : b ≤ 1000000) {x y : List Com} (T : TrueR su rs x y) (d : Int × Int) : ∃ d', fn_L_long_right [eDk d, eSetup su, eRule rs, .tuple [eRow x, eRow y], .int a, .int b] = some (.sh (.bool true), [eDk d']) := by
  obtain ⟨Z, d1, ez, gz⟩ := fn_L_bad_comers_eq S d
  have hyl : 1 ≤ y.length := List.length_pos_iff.mpr T.n
  have ly := T.ly
  have lx := T.lx
  obtain ⟨m, hm⟩ : ∃ m : Nat, m = 1 + 300 / y.length := ⟨_, rfl⟩
  have hmi : (1 : Int) + 300 / (y.length : Int) = (m : Int) := by rw [hm, Int.natCast_add, Int.natCast_ediv]; rfl
  have hml : m ≤ 301 := by rw [hm]; have := Nat.div_le_self 300 y.length; omega
  have e0 : gLenA (eRow y) = some (.int y.length) := len_eRow y
  have m1 := mul_rowJ y m (by omega) (by omega)
  have hRl : (repL m y).length ≤ 1100 := by
    rw [repL_len, hm, Nat.add_mul, Nat.one_mul]
    have := Nat.div_mul_le_self 300 y.length
    omega
  have a1 : gAdd (eRow (repL m y)) (.list [Z]) = some (.list ((repL m y).map eCom ++ [Z])) := addLJ _ _ (by rw [List.length_map, List.length_singleton]; omega)
  have a2 := add_rowJ x (repL m y) (by omega)
  have gx := rows_cm S T.hx
  have gy := rows_cm S T.hy
  have gr := rows_cm S (repL_ok T.hy m)
  have w1 : ThingR su (.tuple [eRow x, eRow (repL m y)]) := .ok gx gr (by rw [List.length_map]; omega) (by rw [List.length_map]; omega)
  have w2 : ThingR su (.tuple [eRow (x ++ repL m y), eRow y]) := .ok (by rw [List.map_append]; exact ents_cat gx gr) gy (by rw [List.length_map, List.length_append]; omega) (by rw [List.length_map]; omega)
  have w3 : ThingR su (.tuple [eRow x, .list ((repL m y).map eCom ++ [Z])]) := .ok gx (ents_cat gr (ents_one gz)) (by rw [List.length_map]; omega) (by rw [List.length_append, List.length_map, List.length_singleton]; omega)
  have q1 := lr_body S R ha hb hb2 x y m (.tuple [eRow x, .list ((repL m y).map eCom ++ [Z])]) d1 w1
  have q2 := lr_body S R ha hb hb2 x y m (.tuple [eRow x, .list ((repL m y).map eCom ++ [Z])]) d1 w2
  have q3 := lr_body S R ha hb hb2 x y m (.tuple [eRow x, .list ((repL m y).map eCom ++ [Z])]) d1 w3
  have loop : forL (gNm 10) F_L_long_right_b1 [10, 11, 12] [.tuple [eRow x, eRow (repL m y)], .tuple [eRow (x ++ repL m y), eRow y], .tuple [eRow x, .list ((repL m y).map eCom ++ [Z])]] [.io (eDk d1), .sh (eSetup su), .sh (eRule rs), .sh (.tuple [eRow x, eRow y]), .sh (.int a), .sh (.int b), .sh (eRow x), .sh (eRow y), .sh (.int m), .sh (.tuple [eRow x, .list ((repL m y).map eCom ++ [Z])]), .em, .em, .em] = some (.nx [.io (eDk d1), .sh (eSetup su), .sh (eRule rs), .sh (.tuple [eRow x, eRow y]), .sh (.int a), .sh (.int b), .sh (eRow x), .sh (eRow y), .sh (.int m), .sh (.tuple [eRow x, .list ((repL m y).map eCom ++ [Z])]), .em, .em, .em]) := by
    rw [forL_B, q1]
    show forL _ _ _ _ _ = _
    rw [forL_B, q2]
    show forL _ _ _ _ _ = _
    rw [forL_B, q3]
    rfl
  have hsq : ∀ l : List D, seqD (.list l) = some l := fun _ => rfl
  have h3 : (0 : Int) < y.length ∧ (y.length : Int) < 1073741824 := by omega
  refine ⟨d1, ?_⟩
  have body : F_L_long_right [.io (eDk d), .sh (eSetup su), .sh (eRule rs), .sh (.tuple [eRow x, eRow y]), .sh (.int a), .sh (.int b), .em, .em, .em, .em, .em, .em, .em] = some (.rt (.sh (.bool true)) [.io (eDk d1), .sh (eSetup su), .sh (eRule rs), .sh (.tuple [eRow x, eRow y]), .sh (.int a), .sh (.int b), .sh (eRow x), .sh (eRow y), .sh (.int m), .sh (.tuple [eRow x, .list ((repL m y).map eCom ++ [Z])]), .em, .em, .em]) := by
    unfold F_L_long_right
    refine sSeq_nx (ρ1 := [.io (eDk d), .sh (eSetup su), .sh (eRule rs), .sh (.tuple [eRow x, eRow y]), .sh (.int a), .sh (.int b), .sh (eRow x), .sh (eRow y), .em, .em, .em, .em, .em]) (by simp) ?_
    refine sSeq_nx (ρ1 := [.io (eDk d), .sh (eSetup su), .sh (eRule rs), .sh (.tuple [eRow x, eRow y]), .sh (.int a), .sh (.int b), .sh (eRow x), .sh (eRow y), .sh (.int m), .em, .em, .em, .em]) (by simp [e0, h3, hmi, show 0 < y.length by omega]) ?_
    refine sSeq_nx (ρ1 := [.io (eDk d1), .sh (eSetup su), .sh (eRule rs), .sh (.tuple [eRow x, eRow y]), .sh (.int a), .sh (.int b), .sh (eRow x), .sh (eRow y), .sh (.int m), .sh (.tuple [eRow x, .list ((repL m y).map eCom ++ [Z])]), .em, .em, .em]) (by simp [m1, ez, a1]) ?_
    refine sSeq_nx (ρ1 := [.io (eDk d1), .sh (eSetup su), .sh (eRule rs), .sh (.tuple [eRow x, eRow y]), .sh (.int a), .sh (.int b), .sh (eRow x), .sh (eRow y), .sh (.int m), .sh (.tuple [eRow x, .list ((repL m y).map eCom ++ [Z])]), .em, .em, .em]) (by simp [m1, a2, hsq, loop]) ?_
    simp
  simp [fn_L_long_right, body]
end
end Fc
set_option maxHeartbeats 1000000
set_option Elab.async false
set_option linter.all false
set_option maxRecDepth 100000
namespace Fc
open PySem L2
section
variable {su : Setup} {rs : List Rw}
theorem ring_self (x y : List Com) : gNe (.tuple [eRow x, eRow y]) (.tuple [eRow x, eRow y]) = some (.bool false) := by
  have o : okD (.tuple [eRow x, eRow y]) = true := (Ok.tup (n := 3) (by
    simp only [List.mem_cons, List.not_mem_nil, or_false, forall_eq_or_imp, forall_eq]
    exact ⟨Ok.lst (Ok.map ok_eCom x), Ok.lst (Ok.map ok_eCom y)⟩)).ok (by decide)
  have e : PyData.eqv (.tuple [eRow x, eRow y]) (.tuple [eRow x, eRow y]) = true := by
    have h : ∀ z : List Com, PyData.eqv (eRow z) (eRow z) = true := fun z => by
      have := eqv_coms z z
      rw [decide_eq_true rfl] at this
      exact this
    simp only [eqv_tup, eqvAll_cons, eqvAll_nil, h, Bool.and_true]
  simp [o, e]
theorem law_turn (S : SuOk su) (R : RuOk rs) {x y : List Com} (T : TrueR su rs x y) {p : Int × Int} (hp : 0 ≤ p.1 ∧ 1 ≤ p.2 ∧ p.2 ≤ 3000) {t : Int} (ht : 1 ≤ t ∧ t ≤ 9) (ns : List Int) (k z : Int) (d : Int × Int) : ∃ d', forB (gNm 11) F_law_b1 [9, 10, 11, 12, 13, 14] (.int z) [.sh (scrD ns), .sh (.int k), .ow (eDk d), .sh (eSetup su), .sh (eRule rs), .sh (.tuple [eRow x, eRow y]), .sh (eP p), .sh (.int t), .sh (.tuple [eRow x, eRow y]), .em, .em, .em, .em, .em, .em] = some (.nx [.sh (scrD ns), .sh (.int k), .ow (eDk d'), .sh (eSetup su), .sh (eRule rs), .sh (.tuple [eRow x, eRow y]), .sh (eP p), .sh (.int t), .sh (.tuple [eRow x, eRow y]), .em, .em, .em, .em, .em, .em]) := by
  obtain ⟨W, d1, e1, hW⟩ := fn_L_spoiled_ring_eq S T.hx T.hy T.lx T.ly d
  have a1 := take_lo d1 (m := 4) (by decide)
  have a2 := take_hi d1 (m := 4) (by decide)
  have e2 := fn_L_take_eq d1 4 (by decide) (by decide)
  obtain ⟨i, hi⟩ : ∃ i, i = (takeT d1 4).1 := ⟨_, rfl⟩
  obtain ⟨d2, hd2⟩ : ∃ d2, d2 = (takeT d1 4).2 := ⟨_, rfl⟩
  rw [← hi] at a1 a2
  rw [← hi, ← hd2] at e2
  have b1 := take_lo d2 (m := 4) (by decide)
  have b2 := take_hi d2 (m := 4) (by decide)
  have e3 := fn_L_take_eq d2 4 (by decide) (by decide)
  obtain ⟨j, hj⟩ : ∃ j, j = (takeT d2 4).1 := ⟨_, rfl⟩
  obtain ⟨d3, hd3⟩ : ∃ d3, d3 = (takeT d2 4).2 := ⟨_, rfl⟩
  rw [← hj] at b1 b2
  rw [← hj, ← hd3] at e3
  obtain ⟨v, ix1, hv⟩ : ∃ v : Int, gIxA (.list [.int 0, .int 0, .int 1, .int (-1)]) (.int i) = some (.int v) ∧ -1 ≤ v := by
    have : i = 0 ∨ i = 1 ∨ i = 2 ∨ i = 3 := by omega
    rcases this with h | h | h | h
    · rw [h]; exact ⟨0, rfl, by decide⟩
    · rw [h]; exact ⟨0, rfl, by decide⟩
    · rw [h]; exact ⟨1, rfl, by decide⟩
    · rw [h]; exact ⟨-1, rfl, by decide⟩
  obtain ⟨u, ix2, hu⟩ : ∃ u : Int, gIxA (.list [.int 0, .int 0, .int 0, .int 1]) (.int j) = some (.int u) ∧ 0 ≤ u ∧ u ≤ 1 := by
    have : j = 0 ∨ j = 1 ∨ j = 2 ∨ j = 3 := by omega
    rcases this with h | h | h | h
    · rw [h]; exact ⟨0, rfl, by decide⟩
    · rw [h]; exact ⟨0, rfl, by decide⟩
    · rw [h]; exact ⟨0, rfl, by decide⟩
    · rw [h]; exact ⟨1, rfl, by decide⟩
  clear hi hd2 hj hd3
  obtain ⟨A, hA⟩ : ∃ A, A = mx 0 (p.1 * t + v) := ⟨_, rfl⟩
  obtain ⟨B, hB⟩ : ∃ B, B = p.2 * t + u := ⟨_, rfl⟩
  have hA0 : 0 ≤ A := by rw [hA]; unfold mx; split <;> omega
  have hpt1 : 1 * 1 ≤ p.2 * t := Int.mul_le_mul hp.2.1 ht.1 (by decide) (by omega)
  have hpt2 : p.2 * t ≤ 3000 * 9 := Int.mul_le_mul hp.2.2 ht.2 (by omega) (by decide)
  obtain ⟨r, hl, hr, hpp⟩ := ring_judged S R hW
  have hpp := hpp A B hA0 (by omega) (by omega)
  have hs := same_eq (dueT A B r)
  have i0 : gIxA (eP p) (.int 0) = some (.int p.1) := rfl
  have i1 : gIxA (eP p) (.int 1) = some (.int p.2) := rfl
  have gt : -18446744073709551616 < t ∧ t < 18446744073709551616 := by omega
  refine ⟨d3, forB_nx (ρ1 := [.sh (scrD ns), .sh (.int k), .ow (eDk d), .sh (eSetup su), .sh (eRule rs), .sh (.tuple [eRow x, eRow y]), .sh (eP p), .sh (.int t), .sh (.tuple [eRow x, eRow y]), .em, .em, .sh (.int z), .em, .em, .em]) (by simp) (ρ2 := [.sh (scrD ns), .sh (.int k), .ow (eDk d3), .sh (eSetup su), .sh (eRule rs), .sh (.tuple [eRow x, eRow y]), .sh (eP p), .sh (.int t), .sh (.tuple [eRow x, eRow y]), .sh (.int A), .sh (.int B), .sh (.int z), .sh W, .sh (eRg r), .sh (.bool (dueT A B r))]) ?_ (by simp)⟩
  unfold F_law_b1
  refine sSeq_nx (ρ1 := [.sh (scrD ns), .sh (.int k), .ow (eDk d1), .sh (eSetup su), .sh (eRule rs), .sh (.tuple [eRow x, eRow y]), .sh (eP p), .sh (.int t), .sh (.tuple [eRow x, eRow y]), .em, .em, .sh (.int z), .sh W, .em, .em]) (by simp [e1]) ?_
  refine sSeq_nx (ρ1 := [.sh (scrD ns), .sh (.int k), .ow (eDk d2), .sh (eSetup su), .sh (eRule rs), .sh (.tuple [eRow x, eRow y]), .sh (eP p), .sh (.int t), .sh (.tuple [eRow x, eRow y]), .sh (.int A), .em, .sh (.int z), .sh W, .em, .em]) (by simp [i0, gt, e2, ix1, hA, -gIx_lst]) ?_
  refine sSeq_nx (ρ1 := [.sh (scrD ns), .sh (.int k), .ow (eDk d3), .sh (eSetup su), .sh (eRule rs), .sh (.tuple [eRow x, eRow y]), .sh (eP p), .sh (.int t), .sh (.tuple [eRow x, eRow y]), .sh (.int A), .sh (.int B), .sh (.int z), .sh W, .em, .em]) (by simp [i1, gt, e3, ix2, hB, -gIx_lst]) ?_
  refine sSeq_nx (ρ1 := [.sh (scrD ns), .sh (.int k), .ow (eDk d3), .sh (eSetup su), .sh (eRule rs), .sh (.tuple [eRow x, eRow y]), .sh (eP p), .sh (.int t), .sh (.tuple [eRow x, eRow y]), .sh (.int A), .sh (.int B), .sh (.int z), .sh W, .sh (eRg r), .em]) (by simp [hl]) ?_
  refine sSeq_nx (ρ1 := [.sh (scrD ns), .sh (.int k), .ow (eDk d3), .sh (eSetup su), .sh (eRule rs), .sh (.tuple [eRow x, eRow y]), .sh (eP p), .sh (.int t), .sh (.tuple [eRow x, eRow y]), .sh (.int A), .sh (.int B), .sh (.int z), .sh W, .sh (eRg r), .sh (.bool (dueT A B r))]) ?_ (by simp [hpp, hs])
  cases r with
  | none => simp [eRg, dueT]
  | some w =>
    have hp2 := hr w rfl
    have i0 : gIxA (eP w) (.int 0) = some (.int w.1) := rfl
    have i1 : gIxA (eP w) (.int 1) = some (.int w.2) := rfl
    have nn : isNoneD (eP w) = false := rfl
    have g1 : -18446744073709551616 < B ∧ B < 18446744073709551616 := by omega
    have g2 : -18446744073709551616 < w.2 ∧ w.2 < 18446744073709551616 := by omega
    by_cases hz : w.1 * B = A * w.2 <;> simp [eRg, dueT, i0, i1, nn, g1, g2, hz]
theorem law_turns (S : SuOk su) (R : RuOk rs) {x y : List Com} (T : TrueR su rs x y) {p : Int × Int} (hp : 0 ≤ p.1 ∧ 1 ≤ p.2 ∧ p.2 ≤ 3000) {t : Int} (ht : 1 ≤ t ∧ t ≤ 9) (ns : List Int) (k : Int) : ∀ (L : List Int) (d : Int × Int), ∃ d', forL (gNm 11) F_law_b1 [9, 10, 11, 12, 13, 14] (L.map PyData.int) [.sh (scrD ns), .sh (.int k), .ow (eDk d), .sh (eSetup su), .sh (eRule rs), .sh (.tuple [eRow x, eRow y]), .sh (eP p), .sh (.int t), .sh (.tuple [eRow x, eRow y]), .em, .em, .em, .em, .em, .em] = some (.nx [.sh (scrD ns), .sh (.int k), .ow (eDk d'), .sh (eSetup su), .sh (eRule rs), .sh (.tuple [eRow x, eRow y]), .sh (eP p), .sh (.int t), .sh (.tuple [eRow x, eRow y]), .em, .em, .em, .em, .em, .em])
  | [], d => ⟨d, rfl⟩
  | z :: L, d => by
    obtain ⟨d1, h1⟩ := law_turn S R T hp ht ns k z d
    obtain ⟨d', h2⟩ := law_turns S R T hp ht ns k L d1
    exact ⟨d', by rw [List.map_cons, forL_B, h1]; exact h2⟩
theorem law_body (ns : List Int) (k : Nat) : forB (gNm 1) F_law_b2 [1, 2, 3, 4, 5, 6, 7, 8, 9, 10, 11, 12, 13, 14] (.int k) [.sh (scrD ns), .em, .em, .em, .em, .em, .em, .em, .em, .em, .em, .em, .em, .em, .em] = some (.nx [.sh (scrD ns), .em, .em, .em, .em, .em, .em, .em, .em, .em, .em, .em, .em, .em, .em]) := by
  obtain ⟨d, e1⟩ := fn_L_deck_eq ns k
  obtain ⟨su, rs, d1, e2, S, R, W⟩ := fn_L_case_few d 6 (by decide)
  obtain ⟨x, y, d2, e3, T⟩ := fn_L_true_ring_eq S R W d1
  have J := ring_rows S R T.hx (fun c hc => good_com S (T.hx c hc)) T.hy (fun c hc => good_com S (T.hy c hc)) (by have := T.lx; omega) (by have := T.ly; omega) T.n
  rw [if_pos T.b] at J
  obtain ⟨p, hpe⟩ : ∃ p : Int × Int, p = (lossR (runCh su rs (runSt su rs startT x) y), (y.length : Int)) := ⟨_, rfl⟩
  rw [← hpe] at J
  have hp1 : 0 ≤ p.1 := by rw [hpe]; exact loss_nn S (run_ok S x (gd_start S).o T.hx) T.hy
  have hp2 := J.b p rfl
  have e4 : fn_L_ring_right [eSetup su, eRule rs, .tuple [eRow x, eRow y]] = some (.sh (eP p), []) := J.l
  have a1 := take_lo d2 (m := 9) (by decide)
  have a2 := take_hi d2 (m := 9) (by decide)
  have e5 := fn_L_take_eq d2 9 (by decide) (by decide)
  obtain ⟨t0, ht0⟩ : ∃ t, t = (takeT d2 9).1 := ⟨_, rfl⟩
  obtain ⟨d3, hd3⟩ : ∃ d3, d3 = (takeT d2 9).2 := ⟨_, rfl⟩
  rw [← ht0] at a1 a2
  rw [← ht0, ← hd3] at e5
  clear ht0 hd3
  obtain ⟨t, htt⟩ : ∃ t, t = 1 + t0 := ⟨_, rfl⟩
  have ht : 1 ≤ t ∧ t ≤ 9 := by omega
  have hpt1 : 1 * 1 ≤ p.2 * t := Int.mul_le_mul hp2.1 ht.1 (by decide) (by omega)
  have hpt2 : p.2 * t ≤ 3000 * 9 := Int.mul_le_mul hp2.2 ht.2 (by omega) (by decide)
  have hA0 : 0 ≤ p.1 * t := Int.mul_nonneg hp1 (by omega)
  have e6 := J.p (p.1 * t) (p.2 * t) hA0 (by omega) (by omega)
  have hdue : dueT (p.1 * t) (p.2 * t) (some p) = true := by
    show decide (p.1 * (p.2 * t) = p.1 * t * p.2) = true
    exact decide_eq_true (by ac_rfl)
  rw [hdue] at e6
  have e7 := ring_self x y
  have r0 : gIxA (.tuple [eRow x, eRow y]) (.int 0) = some (eRow x) := rfl
  have r1 : gIxA (.tuple [eRow x, eRow y]) (.int 1) = some (eRow y) := rfl
  have gl : ∀ z : List Com, gList (eRow z) = some (eRow z) := fun _ => rfl
  have i0 : gIxA (eP p) (.int 0) = some (.int p.1) := rfl
  have i1 : gIxA (eP p) (.int 1) = some (.int p.2) := rfl
  have gt : -18446744073709551616 < t ∧ t < 18446744073709551616 := by omega
  have isB : gIsB true (.bool true) (.bool true) = some (.bool false) := rfl
  obtain ⟨d4, hstep⟩ : ∃ d4, ((k : Int) = 0 ∧ fn_L_long_right [eDk d3, eSetup su, eRule rs, .tuple [eRow x, eRow y], .int (p.1 * t), .int (p.2 * t)] = some (.sh (.bool true), [eDk d4])) ∨ (¬ (k : Int) = 0 ∧ d4 = d3) := by
    by_cases hk : (k : Int) = 0
    · obtain ⟨d', h⟩ := fn_L_long_right_eq S R hA0 (b := p.2 * t) (by omega) (by omega) T d3
      exact ⟨d', .inl ⟨hk, h⟩⟩
    · exact ⟨d3, .inr ⟨hk, rfl⟩⟩
  obtain ⟨d5, e8⟩ := law_turns S R T ⟨hp1, hp2.1, hp2.2⟩ ht ns k (rng0 4) d4
  refine forB_nx (ρ1 := [.sh (scrD ns), .sh (.int k), .em, .em, .em, .em, .em, .em, .em, .em, .em, .em, .em, .em, .em]) (by simp) (ρ2 := [.sh (scrD ns), .sh (.int k), .ow (eDk d5), .sh (eSetup su), .sh (eRule rs), .sh (.tuple [eRow x, eRow y]), .sh (eP p), .sh (.int t), .sh (.tuple [eRow x, eRow y]), .em, .em, .em, .em, .em, .em]) ?_ (by simp)
  unfold F_law_b2
  refine sSeq_nx (ρ1 := [.sh (scrD ns), .sh (.int k), .ow (eDk d), .em, .em, .em, .em, .em, .em, .em, .em, .em, .em, .em, .em]) (by simp [e1]) ?_
  refine sSeq_nx (ρ1 := [.sh (scrD ns), .sh (.int k), .ow (eDk d1), .sh (eSetup su), .sh (eRule rs), .em, .em, .em, .em, .em, .em, .em, .em, .em, .em]) (by simp [e2, eCs]) ?_
  refine sSeq_nx (ρ1 := [.sh (scrD ns), .sh (.int k), .ow (eDk d2), .sh (eSetup su), .sh (eRule rs), .sh (.tuple [eRow x, eRow y]), .em, .em, .em, .em, .em, .em, .em, .em, .em]) (by simp [e3]) ?_
  refine sSeq_nx (ρ1 := [.sh (scrD ns), .sh (.int k), .ow (eDk d2), .sh (eSetup su), .sh (eRule rs), .sh (.tuple [eRow x, eRow y]), .sh (eP p), .em, .em, .em, .em, .em, .em, .em, .em]) (by simp [e4]) ?_
  refine sSeq_nx (ρ1 := [.sh (scrD ns), .sh (.int k), .ow (eDk d3), .sh (eSetup su), .sh (eRule rs), .sh (.tuple [eRow x, eRow y]), .sh (eP p), .sh (.int t), .em, .em, .em, .em, .em, .em, .em]) (by simp [e5, htt]) ?_
  refine sSeq_nx (ρ1 := [.sh (scrD ns), .sh (.int k), .ow (eDk d3), .sh (eSetup su), .sh (eRule rs), .sh (.tuple [eRow x, eRow y]), .sh (eP p), .sh (.int t), .sh (.tuple [eRow x, eRow y]), .em, .em, .em, .em, .em, .em]) (by simp [r0, r1, gl]) ?_
  refine sSeq_nx (ρ1 := [.sh (scrD ns), .sh (.int k), .ow (eDk d3), .sh (eSetup su), .sh (eRule rs), .sh (.tuple [eRow x, eRow y]), .sh (eP p), .sh (.int t), .sh (.tuple [eRow x, eRow y]), .sh (.int (p.1 * t)), .em, .em, .em, .em, .em]) (by simp [i0, gt]) ?_
  refine sSeq_nx (ρ1 := [.sh (scrD ns), .sh (.int k), .ow (eDk d3), .sh (eSetup su), .sh (eRule rs), .sh (.tuple [eRow x, eRow y]), .sh (eP p), .sh (.int t), .sh (.tuple [eRow x, eRow y]), .sh (.int (p.1 * t)), .sh (.int (p.2 * t)), .em, .em, .em, .em]) (by simp [i1, gt]) ?_
  refine sSeq_nx (ρ1 := [.sh (scrD ns), .sh (.int k), .ow (eDk d3), .sh (eSetup su), .sh (eRule rs), .sh (.tuple [eRow x, eRow y]), .sh (eP p), .sh (.int t), .sh (.tuple [eRow x, eRow y]), .sh (.int (p.1 * t)), .sh (.int (p.2 * t)), .em, .em, .em, .em]) (by simp [e6, isB, e7, -gNe_ap]) ?_
  refine sSeq_nx (ρ1 := [.sh (scrD ns), .sh (.int k), .ow (eDk d4), .sh (eSetup su), .sh (eRule rs), .sh (.tuple [eRow x, eRow y]), .sh (eP p), .sh (.int t), .sh (.tuple [eRow x, eRow y]), .sh (.int (p.1 * t)), .sh (.int (p.2 * t)), .em, .em, .em, .em]) (by
    rcases hstep with ⟨h, h'⟩ | ⟨h, rfl⟩
    · simp only [h] at *
      simp [h']
    · simp [show ¬ k = 0 by omega]) ?_
  simp [e8]
theorem law_loop (ns : List Int) : ∀ L : List Nat, forL (gNm 1) F_law_b2 [1, 2, 3, 4, 5, 6, 7, 8, 9, 10, 11, 12, 13, 14] ((L.map fun k : Nat => (k : Int)).map PyData.int) [.sh (scrD ns), .em, .em, .em, .em, .em, .em, .em, .em, .em, .em, .em, .em, .em, .em] = some (.nx [.sh (scrD ns), .em, .em, .em, .em, .em, .em, .em, .em, .em, .em, .em, .em, .em, .em])
  | [] => by rw [List.map_nil, List.map_nil, forL_nil]
  | k :: L => by
    rw [List.map_cons, List.map_cons, forL_B, law_body ns k]
    exact law_loop ns L
theorem law_true : ∀ ns : List Int, ns.length ≤ 63 → fn_law [scrD ns] = some (.sh (.bool true), []) := fun ns hns => by
  have hq : mx 1 (mn 3 ns.length) ≤ 1000000 ∧ -1000000 ≤ mx 1 (mn 3 ns.length) := by unfold mx mn; split <;> split <;> omega
  have e := law_loop ns (List.range (mx 1 (mn 3 ns.length)).toNat)
  have e' : forL (gNm 1) F_law_b2 [1, 2, 3, 4, 5, 6, 7, 8, 9, 10, 11, 12, 13, 14] ((rng0 (mx 1 (mn 3 ns.length))).map PyData.int) [.sh (scrD ns), .em, .em, .em, .em, .em, .em, .em, .em, .em, .em, .em, .em, .em, .em] = some (.nx [.sh (scrD ns), .em, .em, .em, .em, .em, .em, .em, .em, .em, .em, .em, .em, .em, .em]) := e
  simp [fn_law, F_law, hq, e']
end
end Fc
set_option maxHeartbeats 0
set_option Elab.async false
set_option linter.all false
set_option maxRecDepth 100000
open PySem PySem.W PyProof.Rows L2 Fc
theorem PySem.Challenge.cw_fillchairs_k23_whole_rings_judged_holds : PySem.Challenge.rw_fillchairs_k23_whole_rings_judged.Holds := by
  w_on; o_law; k_head; (case hw => w_witness2)
  k_fill
  refine L2.walk_of (l := PySem.Challenge.rw_fillchairs_k23_whole_rings_judged) (n := 63) (k := 10) (x := "script") (CX := fun _ => L2.CX0) (sp := fun w => spD ⟨PySem.Challenge.rw_fillchairs_k23_whole_rings_judged.prog, w, _⟩ [false] fn_law) rfl (by decide) rfl ⟨rfl, by decide, by decide⟩ (fun w h Y => PySem.W.kIn_of Y) ?F (fun _ _ a ns hl _ hS => law_end law_true hS hl (fun _ => rfl)) (fun _ _ _ _ _ h => h)
  case F =>
    intro w mg fa h KX G hmg
    refine' law_mk KX G hmg ?a ?l ?c ?k ?d_L_deck ?d_L_take ?d_L_sizes ?d_L_small_setup ?d_L_range ?d_L_rule ?d_L_case ?d_L_comers ?d_L_row ?d_L_fits ?d_L_filled ?d_L_beat ?d_L_run ?d_L_true_ring ?d_L_whole ?d_L_is_comers ?d_L_ring_right ?d_L_odd ?d_L_bad_comers ?d_L_spoiled_ring ?d_is_integer ?d_is_number ?d_are_numbers ?d_are_most ?d_is_setup ?d_check_setup ?d_is_range ?d_is_rule_row ?d_is_rule ?d_check_both ?d_check_fraction ?d_let_in ?d_front_of ?d_can_be_done ?d_fitting_row ?d_seated ?d_fill ?d_beat ?d_run ?d_is_size ?d_is_comers ?d_row_fault ?d_first_state ?d_is_ring ?d_ring_holds ?d_L_same ?d_L_long_right ?z_abs ?z_all ?z_bool ?z_enumerate ?z_int ?z_isinstance ?z_len ?z_list ?z_max ?z_min ?z_range ?z_str ?z_sum ?z_tuple ?z_zip ?c_DEEDS ?c_MOST_ROWS ?c_START
    (case a => k_is); (case l => k_is); (case c => k_is); (case k => k_is)
    (case d_L_deck => refine' funAt_mk KX G ?a ?l ?c ?k ?b; (case a => k_is); (case l => k_is); (case c => k_is); (case k => k_is); (case b => exact fun _ _ _ _ _ _ us hl => match us, hl with | [_, _], _ => rfl))
    (case d_L_take => refine' funAt_mk KX G ?a ?l ?c ?k ?b; (case a => k_is); (case l => k_is); (case c => k_is); (case k => k_is); (case b => exact fun _ _ _ _ _ _ us hl => match us, hl with | [_, _], _ => rfl))
    (case d_L_sizes => refine' funAt_mk KX G ?a ?l ?c ?k ?b; (case a => k_is); (case l => k_is); (case c => k_is); (case k => k_is); (case b => exact fun _ _ _ _ _ _ us hl => match us, hl with | [_, _, _], _ => rfl))
    (case d_L_small_setup => refine' funAt_mk KX G ?a ?l ?c ?k ?b; (case a => k_is); (case l => k_is); (case c => k_is); (case k => k_is); (case b => exact fun _ _ _ _ _ _ us hl => match us, hl with | [_], _ => rfl))
    (case d_L_range => refine' funAt_mk KX G ?a ?l ?c ?k ?b; (case a => k_is); (case l => k_is); (case c => k_is); (case k => k_is); (case b => exact fun _ _ _ _ _ _ us hl => match us, hl with | [_], _ => rfl))
    (case d_L_rule => refine' funAt_mk KX G ?a ?l ?c ?k ?b; (case a => k_is); (case l => k_is); (case c => k_is); (case k => k_is); (case b => exact fun _ _ _ _ _ _ us hl => match us, hl with | [_, _, _, _], _ => rfl))
    (case d_L_case => refine' funAt_mk KX G ?a ?l ?c ?k ?b; (case a => k_is); (case l => k_is); (case c => k_is); (case k => k_is); (case b => exact fun _ _ _ _ _ _ us hl => match us, hl with | [_, _], _ => rfl))
    (case d_L_comers => refine' funAt_mk KX G ?a ?l ?c ?k ?b; (case a => k_is); (case l => k_is); (case c => k_is); (case k => k_is); (case b => exact fun _ _ _ _ _ _ us hl => match us, hl with | [_, _], _ => rfl))
    (case d_L_row => refine' funAt_mk KX G ?a ?l ?c ?k ?b; (case a => k_is); (case l => k_is); (case c => k_is); (case k => k_is); (case b => exact fun _ _ _ _ _ _ us hl => match us, hl with | [_, _, _], _ => rfl))
    (case d_L_fits => refine' funAt_mk KX G ?a ?l ?c ?k ?b; (case a => k_is); (case l => k_is); (case c => k_is); (case k => k_is); (case b => exact fun _ _ _ _ _ _ us hl => match us, hl with | [_, _, _, _, _], _ => rfl))
    (case d_L_filled => refine' funAt_mk KX G ?a ?l ?c ?k ?b; (case a => k_is); (case l => k_is); (case c => k_is); (case k => k_is); (case b => exact fun _ _ _ _ _ _ us hl => match us, hl with | [_, _, _, _, _], _ => rfl))
    (case d_L_beat => refine' funAt_mk KX G ?a ?l ?c ?k ?b; (case a => k_is); (case l => k_is); (case c => k_is); (case k => k_is); (case b => exact fun _ _ _ _ _ _ us hl => match us, hl with | [_, _, _, _], _ => rfl))
    (case d_L_run => refine' funAt_mk KX G ?a ?l ?c ?k ?b; (case a => k_is); (case l => k_is); (case c => k_is); (case k => k_is); (case b => exact fun _ _ _ _ _ _ us hl => match us, hl with | [_, _, _, _], _ => rfl))
    (case d_L_true_ring => refine' funAt_mk KX G ?a ?l ?c ?k ?b; (case a => k_is); (case l => k_is); (case c => k_is); (case k => k_is); (case b => exact fun _ _ _ _ _ _ us hl => match us, hl with | [_, _, _], _ => rfl))
    (case d_L_whole => refine' funAt_mk KX G ?a ?l ?c ?k ?b; (case a => k_is); (case l => k_is); (case c => k_is); (case k => k_is); (case b => exact fun _ _ _ _ _ _ us hl => match us, hl with | [_, _, _], _ => rfl))
    (case d_L_is_comers => refine' funAt_mk KX G ?a ?l ?c ?k ?b; (case a => k_is); (case l => k_is); (case c => k_is); (case k => k_is); (case b => exact fun _ _ _ _ _ _ us hl => match us, hl with | [_, _], _ => rfl))
    (case d_L_ring_right => refine' funAt_mk KX G ?a ?l ?c ?k ?b; (case a => k_is); (case l => k_is); (case c => k_is); (case k => k_is); (case b => exact fun _ _ _ _ _ _ us hl => match us, hl with | [_, _, _], _ => rfl))
    (case d_L_odd => refine' funAt_mk KX G ?a ?l ?c ?k ?b; (case a => k_is); (case l => k_is); (case c => k_is); (case k => k_is); (case b => exact fun _ _ _ _ _ _ us hl => match us, hl with | [_], _ => rfl))
    (case d_L_bad_comers => refine' funAt_mk KX G ?a ?l ?c ?k ?b; (case a => k_is); (case l => k_is); (case c => k_is); (case k => k_is); (case b => exact fun _ _ _ _ _ _ us hl => match us, hl with | [_, _], _ => rfl))
    (case d_L_spoiled_ring => refine' funAt_mk KX G ?a ?l ?c ?k ?b; (case a => k_is); (case l => k_is); (case c => k_is); (case k => k_is); (case b => exact fun _ _ _ _ _ _ us hl => match us, hl with | [_, _, _], _ => rfl))
    (case d_is_integer => refine' funAt_mk KX G ?a ?l ?c ?k ?b; (case a => k_is); (case l => k_is); (case c => k_is); (case k => k_is); (case b => exact fun _ _ _ _ _ _ us hl => match us, hl with | [_], _ => rfl))
    (case d_is_number => refine' funAt_mk KX G ?a ?l ?c ?k ?b; (case a => k_is); (case l => k_is); (case c => k_is); (case k => k_is); (case b => exact fun _ _ _ _ _ _ us hl => match us, hl with | [_, _, _], _ => rfl))
    (case d_are_numbers => refine' funAt_mk KX G ?a ?l ?c ?k ?b; (case a => k_is); (case l => k_is); (case c => k_is); (case k => k_is); (case b => exact fun _ _ _ _ _ _ us hl => match us, hl with | [_, _, _, _, _], _ => rfl))
    (case d_are_most => refine' funAt_mk KX G ?a ?l ?c ?k ?b; (case a => k_is); (case l => k_is); (case c => k_is); (case k => k_is); (case b => exact fun _ _ _ _ _ _ us hl => match us, hl with | [_, _, _, _], _ => rfl))
    (case d_is_setup => refine' funAt_mk KX G ?a ?l ?c ?k ?b; (case a => k_is); (case l => k_is); (case c => k_is); (case k => k_is); (case b => exact fun _ _ _ _ _ _ us hl => match us, hl with | [_], _ => rfl))
    (case d_check_setup => refine' funAt_mk KX G ?a ?l ?c ?k ?b; (case a => k_is); (case l => k_is); (case c => k_is); (case k => k_is); (case b => exact fun _ _ _ _ _ _ us hl => match us, hl with | [_], _ => rfl))
    (case d_is_range => refine' funAt_mk KX G ?a ?l ?c ?k ?b; (case a => k_is); (case l => k_is); (case c => k_is); (case k => k_is); (case b => exact fun _ _ _ _ _ _ us hl => match us, hl with | [_], _ => rfl))
    (case d_is_rule_row => refine' funAt_mk KX G ?a ?l ?c ?k ?b; (case a => k_is); (case l => k_is); (case c => k_is); (case k => k_is); (case b => exact fun _ _ _ _ _ _ us hl => match us, hl with | [_], _ => rfl))
    (case d_is_rule => refine' funAt_mk KX G ?a ?l ?c ?k ?b; (case a => k_is); (case l => k_is); (case c => k_is); (case k => k_is); (case b => exact fun _ _ _ _ _ _ us hl => match us, hl with | [_], _ => rfl))
    (case d_check_both => refine' funAt_mk KX G ?a ?l ?c ?k ?b; (case a => k_is); (case l => k_is); (case c => k_is); (case k => k_is); (case b => exact fun _ _ _ _ _ _ us hl => match us, hl with | [_, _], _ => rfl))
    (case d_check_fraction => refine' funAt_mk KX G ?a ?l ?c ?k ?b; (case a => k_is); (case l => k_is); (case c => k_is); (case k => k_is); (case b => exact fun _ _ _ _ _ _ us hl => match us, hl with | [_, _], _ => rfl))
    (case d_let_in => refine' funAt_mk KX G ?a ?l ?c ?k ?b; (case a => k_is); (case l => k_is); (case c => k_is); (case k => k_is); (case b => exact fun _ _ _ _ _ _ us hl => match us, hl with | [_, _, _, _], _ => rfl))
    (case d_front_of => refine' funAt_mk KX G ?a ?l ?c ?k ?b; (case a => k_is); (case l => k_is); (case c => k_is); (case k => k_is); (case b => exact fun _ _ _ _ _ _ us hl => match us, hl with | [_], _ => rfl))
    (case d_can_be_done => refine' funAt_mk KX G ?a ?l ?c ?k ?b; (case a => k_is); (case l => k_is); (case c => k_is); (case k => k_is); (case b => exact fun _ _ _ _ _ _ us hl => match us, hl with | [_, _, _, _], _ => rfl))
    (case d_fitting_row => refine' funAt_mk KX G ?a ?l ?c ?k ?b; (case a => k_is); (case l => k_is); (case c => k_is); (case k => k_is); (case b => exact fun _ _ _ _ _ _ us hl => match us, hl with | [_, _, _, _, _], _ => rfl))
    (case d_seated => refine' funAt_mk KX G ?a ?l ?c ?k ?b; (case a => k_is); (case l => k_is); (case c => k_is); (case k => k_is); (case b => exact fun _ _ _ _ _ _ us hl => match us, hl with | [_, _, _, _], _ => rfl))
    (case d_fill => refine' funAt_mk KX G ?a ?l ?c ?k ?b; (case a => k_is); (case l => k_is); (case c => k_is); (case k => k_is); (case b => exact fun _ _ _ _ _ _ us hl => match us, hl with | [_, _, _, _, _], _ => rfl))
    (case d_beat => refine' funAt_mk KX G ?a ?l ?c ?k ?b; (case a => k_is); (case l => k_is); (case c => k_is); (case k => k_is); (case b => exact fun _ _ _ _ _ _ us hl => match us, hl with | [_, _, _, _], _ => rfl))
    (case d_run => refine' funAt_mk KX G ?a ?l ?c ?k ?b; (case a => k_is); (case l => k_is); (case c => k_is); (case k => k_is); (case b => exact fun _ _ _ _ _ _ us hl => match us, hl with | [_, _, _, _], _ => rfl))
    (case d_is_size => refine' funAt_mk KX G ?a ?l ?c ?k ?b; (case a => k_is); (case l => k_is); (case c => k_is); (case k => k_is); (case b => exact fun _ _ _ _ _ _ us hl => match us, hl with | [_, _], _ => rfl))
    (case d_is_comers => refine' funAt_mk KX G ?a ?l ?c ?k ?b; (case a => k_is); (case l => k_is); (case c => k_is); (case k => k_is); (case b => exact fun _ _ _ _ _ _ us hl => match us, hl with | [_, _], _ => rfl))
    (case d_row_fault => refine' funAt_mk KX G ?a ?l ?c ?k ?b; (case a => k_is); (case l => k_is); (case c => k_is); (case k => k_is); (case b => exact fun _ _ _ _ _ _ us hl => match us, hl with | [_, _, _], _ => rfl))
    (case d_first_state => refine' funAt_mk KX G ?a ?l ?c ?k ?b; (case a => k_is); (case l => k_is); (case c => k_is); (case k => k_is); (case b => exact fun _ _ _ _ _ _ us hl => match us, hl with | [], _ => rfl))
    (case d_is_ring => refine' funAt_mk KX G ?a ?l ?c ?k ?b; (case a => k_is); (case l => k_is); (case c => k_is); (case k => k_is); (case b => exact fun _ _ _ _ _ _ us hl => match us, hl with | [_, _, _], _ => rfl))
    (case d_ring_holds => refine' funAt_mk KX G ?a ?l ?c ?k ?b; (case a => k_is); (case l => k_is); (case c => k_is); (case k => k_is); (case b => exact fun _ _ _ _ _ _ us hl => match us, hl with | [_, _, _, _, _], _ => rfl))
    (case d_L_same => refine' funAt_mk KX G ?a ?l ?c ?k ?b; (case a => k_is); (case l => k_is); (case c => k_is); (case k => k_is); (case b => exact fun _ _ _ _ _ _ us hl => match us, hl with | [_, _], _ => rfl))
    (case d_L_long_right => refine' funAt_mk KX G ?a ?l ?c ?k ?b; (case a => k_is); (case l => k_is); (case c => k_is); (case k => k_is); (case b => exact fun _ _ _ _ _ _ us hl => match us, hl with | [_, _, _, _, _, _], _ => rfl))
    (case z_abs => k_is)
    (case z_all => k_is)
    (case z_bool => k_is)
    (case z_enumerate => k_is)
    (case z_int => k_is)
    (case z_isinstance => k_is)
    (case z_len => k_is)
    (case z_list => k_is)
    (case z_max => k_is)
    (case z_min => k_is)
    (case z_range => k_is)
    (case z_str => k_is)
    (case z_sum => k_is)
    (case z_tuple => k_is)
    (case z_zip => k_is)
    (case c_DEEDS => refine' coAt_ref KX G ?a ?d; (case a => k_is); (case d => (refine' dn_tup ?l ?c ?z ?v ?s; (case l => k_is); (case c => exact rfl); (case z => decide); (case v => exact .cons (show RelV (V.str _) _ from ⟨_, rfl⟩) (.cons (show RelV (V.str _) _ from ⟨_, rfl⟩) (.cons (show RelV (V.str _) _ from ⟨_, rfl⟩) (.cons (show RelV (V.str _) _ from ⟨_, rfl⟩) (.nil))))); (case s => (refine' dns_cons ?h ?t; (case h => exact fun _ => .str _); (case t => (refine' dns_cons ?h ?t; (case h => exact fun _ => .str _); (case t => (refine' dns_cons ?h ?t; (case h => exact fun _ => .str _); (case t => (refine' dns_cons ?h ?t; (case h => exact fun _ => .str _); (case t => exact fun _ => .nil))))))))))))
    (case c_MOST_ROWS => refine' coAt_int KX G ?a; (case a => k_is))
    (case c_START => refine' coAt_ref KX G ?a ?d; (case a => k_is); (case d => (refine' dn_tup ?l ?c ?z ?v ?s; (case l => k_is); (case c => exact rfl); (case z => decide); (case v => exact .cons (show RelV (V.int _) _ from ⟨_, rfl⟩) (.cons (show RelV (V.ref _) _ from rfl) (.cons (show RelV (V.int _) _ from ⟨_, rfl⟩) (.cons (show RelV (V.int _) _ from ⟨_, rfl⟩) (.nil))))); (case s => (refine' dns_cons ?h ?t; (case h => exact fun _ => .int _); (case t => (refine' dns_cons ?h ?t; (case h => (refine' dn_tup ?l ?c ?z ?v ?s; (case l => k_is); (case c => exact rfl); (case z => decide); (case v => exact .nil); (case s => exact fun _ => .nil))); (case t => (refine' dns_cons ?h ?t; (case h => exact fun _ => .int _); (case t => (refine' dns_cons ?h ?t; (case h => exact fun _ => .int _); (case t => exact fun _ => .nil))))))))))))
